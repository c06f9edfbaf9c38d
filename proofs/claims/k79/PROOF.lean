import PyProof.Rows.All
import Wide.All
import OpenK.AllK
import Wide.FinOn
import HandS.ForMost
import HandS.Walk
import HandS.TupAny
import HandS.Exc
import HandS.HeadHook1
import HandS.IsInst
import HandS.ExcOwn
import HandS.Rev
import HandS.ExcInit
import HandS.WordsExc
import HandS.TryMany
import HandS.ExcField
import HandS.ExcIs
import HandS.Zip
import HandS.Style
import HandS.Defaults
import HandS.Strs
import HandS.Gcd
import HandS.WideBits
import HandS.Head0
import HandS.Head1
import HandS.Head2
import HandS.HeadEnd
import HandS.Head3
import HandS.HeadHook2
import HandS.HeadHook3
import HandS.HeadHook4
import HandS.HeadNt
import PySem.Challenge.RW_nearrealm_k79_seven_bits
/-! # DLa.lean -/
set_option Elab.async false
set_option linter.all false
set_option maxRecDepth 100000
namespace L2.DL
open PySem PySem.Spec PyProof.Rows

/-! ## data -/
inductive D where
  | non | bl (b : Bool) | int (i : Int) | str (x : Str) | ty (n : String) | adr (a : Addr)
  | lst (ds : List D) | scr (ds : List D) | tup (ds : List D)
  | ins (C : Str) (ns : List Str) (ds : List D)
  | cn (x : Str)
  | exc (C : Str) (a dd : Addr) (ns : List Str) (ds : List D)
  | dk (ks : List Key) (ds : List D)
  | dt (ks : List (List Key)) (ds : List D)

mutual
def Is (K : PySem.W.Frag) (F : Hp) : D → V → Prop
  | .non, v => v = .non
  | .bl b, v => v = .bl b
  | .int i, v => v = .int i
  | .str x, v => v = .str x
  | .ty n, v => v = .ty n
  | .adr a, v => v = .ref a
  | .lst ds, v => ∃ a vs, v = .ref a ∧ F a = some (.lst vs) ∧ IsL K F ds vs
  | .scr ds, v => ∃ a vs, v = .ref a ∧ SqL K F a vs ∧ IsL K F ds vs
  | .tup ds, v => ∃ a vs, v = .ref a ∧ SqT K F a vs ∧ IsL K F ds vs
  | .cn x, v => v = .ref (He.ga K x)
  | .exc _ a dd ns ds, v => ∃ vs, v = .ref a ∧ F dd = some (.xd (ns.zip vs)) ∧ ns.length = vs.length ∧ IsL K F ds vs
  | .ins C ns ds, v => ∃ a dx vs, v = .ref a ∧ F a = some (.ins (He.ga K C) dx (ns.zip vs)) ∧ ns.length = vs.length ∧ IsL K F ds vs
  | .dk ks ds, v => ∃ a vs, v = .ref a ∧ F a = some (.dK (ks.zip vs)) ∧ ks.length = vs.length ∧ IsL K F ds vs
  | .dt ks ds, v => ∃ a vs, v = .ref a ∧ F a = some (.dT (ks.zip vs)) ∧ ks.length = vs.length ∧ IsL K F ds vs
def IsL (K : PySem.W.Frag) (F : Hp) : List D → List V → Prop
  | [], vs => vs = []
  | d :: ds, vs => ∃ v r, vs = v :: r ∧ Is K F d v ∧ IsL K F ds r
end

theorem Same.seqT {K : PySem.W.Frag} {H H' : Hp} {a : Addr} {xs : List V} (e : Same H H') (h : SqT K H a xs) : SqT K H' a xs := by
  rcases h with (h | ⟨o, h⟩) | h
  · exact .inl (.inl (e _ _ h))
  · exact .inl (.inr ⟨o, e _ _ h⟩)
  · exact .inr h

mutual
theorem Is.mono {K : PySem.W.Frag} {F F' : Hp} (s : Same F F') : ∀ (d : D) {v : V}, Is K F d v → Is K F' d v
  | .non, _, h => by simpa [Is] using h
  | .bl b, _, h => by simpa [Is] using h
  | .int i, _, h => by simpa [Is] using h
  | .str x, _, h => by simpa [Is] using h
  | .ty n, _, h => by simpa [Is] using h
  | .adr a, _, h => by simpa [Is] using h
  | .lst ds, v, h => by
    simp only [Is] at h ⊢
    obtain ⟨a, vs, e, q, r⟩ := h
    exact ⟨a, vs, e, s _ _ q, IsL.mono s ds r⟩
  | .scr ds, v, h => by
    simp only [Is] at h ⊢
    obtain ⟨a, vs, e, q, r⟩ := h
    exact ⟨a, vs, e, s.seq q, IsL.mono s ds r⟩
  | .tup ds, v, h => by
    simp only [Is] at h ⊢
    obtain ⟨a, vs, e, q, r⟩ := h
    exact ⟨a, vs, e, Same.seqT s q, IsL.mono s ds r⟩
  | .cn _, _, h => by simpa [Is] using h
  | .exc C a dd ns ds, v, h => by
    simp only [Is] at h ⊢
    obtain ⟨vs, e, q, l, r⟩ := h
    exact ⟨vs, e, s _ _ q, l, IsL.mono s ds r⟩
  | .ins C ns ds, v, h => by
    simp only [Is] at h ⊢
    obtain ⟨a, dx, vs, e, q, l, r⟩ := h
    exact ⟨a, dx, vs, e, s _ _ q, l, IsL.mono s ds r⟩
  | .dk ks ds, v, h => by
    simp only [Is] at h ⊢
    obtain ⟨a, vs, e, q, l, r⟩ := h
    exact ⟨a, vs, e, s _ _ q, l, IsL.mono s ds r⟩
  | .dt ks ds, v, h => by
    simp only [Is] at h ⊢
    obtain ⟨a, vs, e, q, l, r⟩ := h
    exact ⟨a, vs, e, s _ _ q, l, IsL.mono s ds r⟩
theorem IsL.mono {K : PySem.W.Frag} {F F' : Hp} (s : Same F F') : ∀ (ds : List D) {vs : List V}, IsL K F ds vs → IsL K F' ds vs
  | [], _, h => by simpa [IsL] using h
  | d :: ds, vs, h => by
    simp only [IsL] at h ⊢
    obtain ⟨v, r, e, a, b⟩ := h
    exact ⟨v, r, e, Is.mono s d a, IsL.mono s ds b⟩
end

section
variable {K : PySem.W.Frag} {F : Hp}
theorem IsL.len : ∀ {ds : List D} {vs : List V}, IsL K F ds vs → ds.length = vs.length
  | [], _, h => by simp only [IsL] at h; subst h; rfl
  | d :: ds, _, h => by
    simp only [IsL] at h
    obtain ⟨v, r, rfl, _, b⟩ := h
    simp [IsL.len b]
theorem IsL.get : ∀ {ds : List D} {vs : List V} {i : Nat} {d : D}, IsL K F ds vs → ds[i]? = some d → ∃ v, vs[i]? = some v ∧ Is K F d v
  | [], _, i, d, _, e => by simp at e
  | c :: ds, _, 0, d, h, e => by
    simp only [IsL] at h
    obtain ⟨v, r, rfl, a, b⟩ := h
    simp at e; subst e
    exact ⟨v, by simp, a⟩
  | c :: ds, _, i + 1, d, h, e => by
    simp only [IsL] at h
    obtain ⟨v, r, rfl, a, b⟩ := h
    obtain ⟨w, h1, h2⟩ := IsL.get (i := i) b (by simpa using e)
    exact ⟨w, by simpa using h1, h2⟩
theorem IsL.get' : ∀ {ds : List D} {vs : List V} {i : Nat} {v : V}, IsL K F ds vs → vs[i]? = some v → ∃ d, ds[i]? = some d ∧ Is K F d v := fun {ds vs i v} h e => by
  have hl := h.len
  have hi : i < vs.length := (List.getElem?_eq_some_iff.mp e).1
  have hd : i < ds.length := by omega
  obtain ⟨w, h1, h2⟩ := h.get (List.getElem?_eq_getElem hd)
  rw [e] at h1; cases h1
  exact ⟨_, List.getElem?_eq_getElem hd, h2⟩
theorem IsL.append : ∀ {ds es : List D} {vs ws : List V}, IsL K F ds vs → IsL K F es ws → IsL K F (ds ++ es) (vs ++ ws)
  | [], _, _, _, h, q => by simp only [IsL] at h; subst h; exact q
  | d :: ds, es, _, ws, h, q => by
    simp only [IsL] at h
    obtain ⟨v, r, rfl, a, b⟩ := h
    simp only [List.cons_append, IsL]
    exact ⟨v, r ++ ws, rfl, a, IsL.append b q⟩
theorem IsL.one {d : D} {v : V} (h : Is K F d v) : IsL K F [d] [v] := by
  simp only [IsL]; exact ⟨v, [], rfl, h, rfl⟩
theorem IsL.nil : IsL K F [] [] := by simp only [IsL]
theorem IsL.cons {d : D} {v : V} {ds : List D} {vs : List V} (h : Is K F d v) (t : IsL K F ds vs) : IsL K F (d :: ds) (v :: vs) := by
  simp only [IsL]; exact ⟨v, vs, rfl, h, t⟩
theorem IsL.set {d : D} {v : V} (h : Is K F d v) : ∀ {ds : List D} {vs : List V} (i : Nat), IsL K F ds vs → IsL K F (ds.set i d) (vs.set i v)
  | [], _, _, q => by simp only [IsL] at q; subst q; simp [IsL]
  | c :: ds, _, 0, q => by
    simp only [IsL] at q
    obtain ⟨w, r, rfl, a, b⟩ := q
    exact IsL.cons h b
  | c :: ds, _, i + 1, q => by
    simp only [IsL] at q
    obtain ⟨w, r, rfl, a, b⟩ := q
    exact IsL.cons a (IsL.set h i b)
theorem IsL.take : ∀ {ds : List D} {vs : List V} (n : Nat), IsL K F ds vs → IsL K F (ds.take n) (vs.take n)
  | _, _, 0, _ => by simp [IsL]
  | [], _, _ + 1, q => by simp only [IsL] at q; subst q; simp [IsL]
  | c :: ds, _, n + 1, q => by
    simp only [IsL] at q
    obtain ⟨w, r, rfl, a, b⟩ := q
    exact IsL.cons a (IsL.take n b)
theorem IsL.drop : ∀ {ds : List D} {vs : List V} (n : Nat), IsL K F ds vs → IsL K F (ds.drop n) (vs.drop n)
  | _, _, 0, q => q
  | [], _, _ + 1, q => by simp only [IsL] at q; subst q; simp [IsL]
  | c :: ds, _, n + 1, q => by
    simp only [IsL] at q
    obtain ⟨w, r, rfl, a, b⟩ := q
    exact IsL.drop n b
theorem IsL.ints : ∀ {ns : List Int} {vs : List V}, IsL K F (ns.map D.int) vs ↔ vs = ns.map V.int
  | [], vs => by simp [IsL]
  | n :: ns, vs => by
    simp only [List.map_cons, IsL, Is]
    constructor
    · rintro ⟨v, r, rfl, rfl, h⟩
      rw [IsL.ints.mp h]
    · intro h
      exact ⟨_, _, h, rfl, IsL.ints.mpr rfl⟩
theorem IsL.bls : ∀ {ns : List Bool} {vs : List V}, IsL K F (ns.map D.bl) vs ↔ vs = ns.map V.bl
  | [], vs => by simp [IsL]
  | n :: ns, vs => by
    simp only [List.map_cons, IsL, Is]
    constructor
    · rintro ⟨v, r, rfl, rfl, h⟩
      rw [IsL.bls.mp h]
    · intro h
      exact ⟨_, _, h, rfl, IsL.bls.mpr rfl⟩
theorem IsL.reverse : ∀ {ds : List D} {vs : List V}, IsL K F ds vs → IsL K F ds.reverse vs.reverse
  | [], _, q => by simp only [IsL] at q; subst q; simp [IsL]
  | c :: ds, _, q => by
    simp only [IsL] at q
    obtain ⟨w, r, rfl, a, b⟩ := q
    simp only [List.reverse_cons]
    exact (IsL.reverse b).append (IsL.one a)
end

/-! ## the state: slots by what is known of them -/
/-- pairs of keys and data -/
def KVD (K : PySem.W.Frag) (F : Hp) {κ : Type} : List (κ × D) → List (κ × V) → Prop := Paired fun a b => a.1 = b.1 ∧ Is K F a.2 b.2
theorem KVD.mono {K : PySem.W.Frag} {F F' : Hp} (s : Same F F') {κ : Type} {xs : List (κ × D)} {ys : List (κ × V)} (h : KVD K F xs ys) : KVD K F' xs ys := Paired.mapP h fun a b q => ⟨q.1, Is.mono s _ q.2⟩
theorem KVD.split {K : PySem.W.Frag} {F : Hp} {κ : Type} : ∀ {xs : List (κ × D)} {ys : List (κ × V)}, KVD K F xs ys → ∃ vs, ys = (xs.map (·.1)).zip vs ∧ (xs.map (·.1)).length = vs.length ∧ IsL K F (xs.map (·.2)) vs
  | [], _, .nil => ⟨[], rfl, rfl, by simp [IsL]⟩
  | (k, d) :: xs, (k', v) :: ys, .cons h t => by
    obtain ⟨vs, e1, e2, e3⟩ := KVD.split t
    have hk : k = k' := h.1
    subst hk
    exact ⟨v :: vs, by rw [e1]; rfl, by simpa using e2, IsL.cons h.2 e3⟩
/-- what an own (mutable) object holds -/
inductive Mc where
  | lst (ds : List D)
  | dk (kvs : List (Key × D))
  | dt (kvs : List (List Key × D))
  | ins (C : Str) (fs : List (Str × D))
def MuO (K : PySem.W.Frag) (F : Hp) : Mc → HO → Prop
  | .lst ds, o => ∃ vs, o = .lst vs ∧ IsL K F ds vs
  | .dk kvs, o => ∃ vs, o = .dK vs ∧ KVD K F kvs vs
  | .dt kvs, o => ∃ vs, o = .dT vs ∧ KVD K F kvs vs
  | .ins C fs, o => ∃ dx vs, o = .ins (He.ga K C) dx vs ∧ KVD K F fs vs
def Mc.d : Mc → D
  | .lst ds => .lst ds
  | .dk kvs => .dk (kvs.map (·.1)) (kvs.map (·.2))
  | .dt kvs => .dt (kvs.map (·.1)) (kvs.map (·.2))
  | .ins C fs => .ins C (fs.map (·.1)) (fs.map (·.2))
theorem MuO.mono {K : PySem.W.Frag} {F F' : Hp} (s : Same F F') {c : Mc} {o : HO} (h : MuO K F c o) : MuO K F' c o := by
  cases c with
  | lst ds => obtain ⟨vs, e, q⟩ := h; exact ⟨vs, e, q.mono s⟩
  | dk kvs => obtain ⟨vs, e, q⟩ := h; exact ⟨vs, e, q.mono s⟩
  | dt kvs => obtain ⟨vs, e, q⟩ := h; exact ⟨vs, e, q.mono s⟩
  | ins C fs => obtain ⟨dx, vs, e, q⟩ := h; exact ⟨dx, vs, e, q.mono s⟩
theorem MuO.is {K : PySem.W.Frag} {F : Hp} {c : Mc} {o : HO} {p : Addr} (h : MuO K F c o) (s : F p = some o) : Is K F c.d (.ref p) := by
  cases c with
  | lst ds => obtain ⟨vs, rfl, q⟩ := h; simp only [Mc.d, Is]; exact ⟨p, vs, rfl, s, q⟩
  | dk kvs =>
    obtain ⟨vs, rfl, q⟩ := h
    obtain ⟨us, e1, e2, e3⟩ := q.split
    simp only [Mc.d, Is]
    exact ⟨p, us, rfl, by rw [s, e1], e2, e3⟩
  | dt kvs =>
    obtain ⟨vs, rfl, q⟩ := h
    obtain ⟨us, e1, e2, e3⟩ := q.split
    simp only [Mc.d, Is]
    exact ⟨p, us, rfl, by rw [s, e1], e2, e3⟩
  | ins C fs =>
    obtain ⟨dx, vs, rfl, q⟩ := h
    obtain ⟨us, e1, e2, e3⟩ := q.split
    simp only [Mc.d, Is]
    exact ⟨p, dx, us, rfl, by rw [s, e1], e2, e3⟩
/-- a value: frozen data, or an own object (true: made here; false: lent by the caller), or an own object that is locked (walked) -/
inductive DV where
  | fz (d : D) | mu (own : Bool) (c : Mc) | lk (p : Addr) (c : Mc)
abbrev DEnv := List (Option DV)
/-- the entry: what is frozen, what stands, what may be changed, what is pinned -/
structure Ent where
  F : Hp
  H : Hp
  M : List Addr
  pn : List (Addr × HO)
structure Stp (F H F' H' : Hp) (M : List Addr) : Prop where
  ff : Same F F'
  keep : ∀ q o, H q = some o → q ∉ M → H' q = some o
  there : ∀ q o, H q = some o → ∃ o', H' q = some o'
  old : ∀ q o, H q = some o → F q = none → F' q = none
theorem Stp.refl {F H : Hp} {M : List Addr} : Stp F H F H M := ⟨Same.refl _, fun _ _ h _ => h, fun _ o h => ⟨o, h⟩, fun _ _ _ h => h⟩
theorem Stp.trans {F H F' H' F2 H2 : Hp} {M : List Addr} (a : Stp F H F' H' M) (b : Stp F' H' F2 H2 M) : Stp F H F2 H2 M where
  ff := a.ff.trans b.ff
  keep := fun q o h n => b.keep q o (a.keep q o h n) n
  there := fun q o h => by obtain ⟨o', h'⟩ := a.there q o h; exact b.there q o' h'
  old := fun q o h n => by obtain ⟨o', h'⟩ := a.there q o h; exact b.old q o' h' (a.old q o h n)
theorem Stp.mono {F H F' H' : Hp} {M M' : List Addr} (a : Stp F H F' H' M) (s : ∀ q, q ∈ M → q ∈ M') : Stp F H F' H' M' :=
  ⟨a.ff, fun q o h n => a.keep q o h fun z => n (s q z), a.there, a.old⟩

def Sl (K : PySem.W.Frag) (e : Ent) (F H : Hp) : DV → V → Prop
  | .fz d, v => Is K F d v
  | .mu b c, v => ∃ p o, v = .ref p ∧ F p = none ∧ (b = true → e.H p = none) ∧ (b = false → p ∈ e.M) ∧ (∀ u, (p, u) ∉ e.pn) ∧ H p = some o ∧ MuO K F c o
  | .lk p c, v => ∃ o od, v = .ref p ∧ (p, .frz od o) ∈ e.pn ∧ MuO K F c o
def DV.own : DV → Bool
  | .fz _ => false
  | .mu _ _ => true
  | .lk _ _ => false
structure Sg (K : PySem.W.Frag) (e : Ent) (ρ : DEnv) (F : Hp) (σ : St) (H : Hp) : Prop where
  fh : Same F H
  st : Stp e.F e.H F H e.M
  len : ρ.length = σ.length
  sl : ∀ (i : Nat) (dv : DV), ρ[i]? = some (some dv) → ∃ v, σ[i]? = some (some v) ∧ Sl K e F H dv v
  ap : ∀ (i j : Nat) (dv dw : DV) (v : V), ρ[i]? = some (some dv) → ρ[j]? = some (some dw) → dv.own = true → dw.own = true → σ[i]? = some (some v) → σ[j]? = some (some v) → i = j
  pin : ∀ p, p ∈ e.pn → H p.1 = some p.2 ∧ F p.1 = none ∧ e.H p.1 = none
/-- a result: data, or an own object that no slot holds -/
def Res (K : PySem.W.Frag) (e : Ent) (F H : Hp) (ρ : DEnv) (σ : St) (dv : DV) (v : V) : Prop :=
  Sl K e F H dv v ∧ (dv.own = true → ∀ (i : Nat) (dw : DV), ρ[i]? = some (some dw) → dw.own = true → σ[i]? ≠ some (some v))

section
variable {K : PySem.W.Frag} {e : Ent} {ρ ρ' : DEnv} {F F' : Hp} {σ : St} {H H' : Hp} {i : Nat} {d : D} {dv : DV} {v : V} {c c' : Mc} {o : HO} {p : Addr}
theorem Sg.free (s : Sg K e ρ F σ H) (h : H p = none) : F p = none ∧ e.H p = none := by
  constructor
  · cases q : F p with
    | none => rfl
    | some o => rw [s.fh _ _ q] at h; cases h
  · cases q : e.H p with
    | none => rfl
    | some o => obtain ⟨o', h'⟩ := s.st.there _ _ q; rw [h'] at h; cases h
theorem Sl.mono (h : Sl K e F H dv v) (s : Same F F') (k : ∀ q o, H q = some o → (dv.own = true → v = .ref q → F q = none → F' q = none ∧ H' q = some o)) : Sl K e F' H' dv v := by
  cases dv with
  | fz d => exact Is.mono s d h
  | lk p c =>
    obtain ⟨o, od, rfl, a1, a2⟩ := h
    exact ⟨o, od, rfl, a1, a2.mono s⟩
  | mu b c =>
    obtain ⟨p, o, rfl, a1, a2, a3, a4, a5, a6⟩ := h
    obtain ⟨k1, k2⟩ := k p o a5 rfl rfl a1
    exact ⟨p, o, rfl, k1, a2, a3, a4, k2, a6.mono s⟩
/-- from one state to a later one, where nothing that a slot owns is changed -/
theorem Sg.later (s : Sg K e ρ F σ H) (fh : Same F' H') (st : Stp F H F' H' []) : Sg K e ρ F' σ H' where
  fh := fh
  st := s.st.trans (st.mono fun _ h => nomatch h)
  len := s.len
  sl := fun i dv h => by
    obtain ⟨v, a, b⟩ := s.sl i dv h
    exact ⟨v, a, b.mono st.ff fun q o ho _ _ hf => ⟨st.old q o ho hf, st.keep q o ho (fun z => nomatch z)⟩⟩
  ap := s.ap
  pin := fun p hp => by
    obtain ⟨a, b, c⟩ := s.pin p hp
    exact ⟨st.keep _ _ a (fun z => nomatch z), st.old _ _ a b, c⟩
theorem Res.later (r : Res K e F H ρ σ dv v) (st : Stp F H F' H' []) : Res K e F' H' ρ σ dv v :=
  ⟨r.1.mono st.ff fun q o ho _ _ hf => ⟨st.old q o ho hf, st.keep q o ho (fun z => nomatch z)⟩, r.2⟩
/-- an own result is frozen -/
theorem Sg.frz (s : Sg K e ρ F σ H) (r : Res K e F H ρ σ (.mu true c) v) : ∃ F', Sg K e ρ F' σ H ∧ Same F F' ∧ Is K F' c.d v := by
  obtain ⟨⟨p, o, rfl, a1, a2, a3, a4, a5, a6⟩, nd⟩ := r
  have sm : Same F (upd F p o) := fun b u h => by
    by_cases hb : b = p
    · subst hb; rw [a1] at h; cases h
    · rw [upd_ne hb]; exact h
  refine ⟨upd F p o, ⟨?_, ?_, s.len, ?_, s.ap, ?_⟩, sm, (a6.mono sm).is upd_same⟩
  · intro b u h
    by_cases hb : b = p
    · subst hb; rw [upd_same] at h; cases h; exact a5
    · rw [upd_ne hb] at h; exact s.fh _ _ h
  · refine ⟨s.st.ff.trans sm, s.st.keep, s.st.there, fun q u h n => ?_⟩
    by_cases hb : q = p
    · subst hb; rw [a2 rfl] at h; cases h
    · rw [upd_ne hb]; exact s.st.old q u h n
  · intro i dw h
    obtain ⟨w, b1, b2⟩ := s.sl i dw h
    refine ⟨w, b1, ?_⟩
    cases dw with
    | fz d => exact Is.mono sm d b2
    | lk q c =>
      obtain ⟨u, od, rfl, c1, c2⟩ := b2
      exact ⟨u, od, rfl, c1, c2.mono sm⟩
    | mu b c =>
      obtain ⟨q, u, rfl, c1, c2, c3, c4, c5, c6⟩ := b2
      have hqp : q ≠ p := fun z => nd rfl i _ h rfl (by rw [b1, z])
      exact ⟨q, u, rfl, by rw [upd_ne hqp]; exact c1, c2, c3, c4, c5, c6.mono sm⟩
  · intro q hq
    obtain ⟨b1, b2, b3⟩ := s.pin q hq
    have hqp : q.1 ≠ p := fun z => a4 q.2 (by rw [← z]; exact hq)
    exact ⟨b1, by rw [upd_ne hqp]; exact b2, b3⟩
/-- forget what is known of a slot, or all of it -/
theorem Sg.weak (s : Sg K e ρ F σ H) (hl : ρ'.length = ρ.length) (h : ∀ (i : Nat) (dv : DV), ρ'[i]? = some (some dv) → ρ[i]? = some (some dv)) : Sg K e ρ' F σ H :=
  ⟨s.fh, s.st, hl.trans s.len, fun i dv q => s.sl i dv (h i dv q), fun i j dv dw v a b => s.ap i j dv dw v (h _ _ a) (h _ _ b), s.pin⟩
/-- less is known -/
def Wk : DEnv → DEnv → Prop
  | a :: r, b :: s => (match b with
    | none => True
    | some dv => a = some dv) ∧ Wk r s
  | [], [] => True
  | _, _ => False
theorem Wk.refl : ∀ ρ : DEnv, Wk ρ ρ
  | [] => trivial
  | a :: r => ⟨by cases a <;> trivial, Wk.refl r⟩
theorem Wk.len : ∀ {ρ ρ' : DEnv}, Wk ρ ρ' → ρ'.length = ρ.length
  | [], [], _ => rfl
  | a :: r, b :: s, h => by simp [Wk.len h.2]
theorem Wk.get : ∀ {ρ ρ' : DEnv} {i : Nat} {dv : DV}, Wk ρ ρ' → ρ'[i]? = some (some dv) → ρ[i]? = some (some dv)
  | [], [], _, _, _, e => e
  | a :: r, b :: s, 0, dv, h, e => by
    simp only [List.getElem?_cons_zero, Option.some.injEq] at e
    subst e
    have : a = some dv := h.1
    simp [this]
  | a :: r, b :: s, i + 1, dv, h, e => by
    simp only [List.getElem?_cons_succ] at e ⊢
    exact Wk.get h.2 e
theorem Wk.trans : ∀ {a b c : DEnv}, Wk a b → Wk b c → Wk a c
  | [], [], [], _, _ => trivial
  | a :: r, b :: s, c :: t, h, k => by
    refine ⟨?_, Wk.trans h.2 k.2⟩
    cases c with
    | none => trivial
    | some dv =>
      have e : b = some dv := k.1
      subst e
      exact h.1
theorem Sg.wk (s : Sg K e ρ F σ H) (h : Wk ρ ρ') : Sg K e ρ' F σ H := s.weak h.len fun _ _ => h.get
/-- a slot is set -/
theorem Sg.set (s : Sg K e ρ F σ H) (r : Res K e F H ρ σ dv v) : Sg K e (ρ.set i (some dv)) F (σ.set i (some v)) H where
  fh := s.fh
  st := s.st
  len := by simp [s.len]
  sl := fun j dw h => by
    by_cases hj : i = j
    · subst hj
      have hi : i < ρ.length := by
        have := (List.getElem?_eq_some_iff.mp h).1
        simpa using this
      rw [List.getElem?_set_self hi] at h
      cases h
      exact ⟨v, by rw [List.getElem?_set_self (by rw [← s.len]; exact hi)], r.1⟩
    · rw [List.getElem?_set_ne hj] at h ⊢
      exact s.sl j dw h
  ap := fun j k dw dx w h1 h2 o1 o2 g1 g2 => by
    by_cases hj : i = j
    · subst hj
      by_cases hk : i = k
      · exact hk
      · have hi : i < ρ.length := by
          have := (List.getElem?_eq_some_iff.mp h1).1
          simpa using this
        rw [List.getElem?_set_self hi] at h1
        rw [List.getElem?_set_self (by rw [← s.len]; exact hi)] at g1
        rw [List.getElem?_set_ne hk] at h2 g2
        cases h1; cases g1
        exact absurd g2 (r.2 o1 k dx h2 o2)
    · by_cases hk : i = k
      · subst hk
        have hi : i < ρ.length := by
          have := (List.getElem?_eq_some_iff.mp h2).1
          simpa using this
        rw [List.getElem?_set_self hi] at h2
        rw [List.getElem?_set_self (by rw [← s.len]; exact hi)] at g2
        rw [List.getElem?_set_ne hj] at h1 g1
        cases h2; cases g2
        exact absurd g1 (r.2 o2 j dw h1 o1)
      · rw [List.getElem?_set_ne hj] at h1 g1
        rw [List.getElem?_set_ne hk] at h2 g2
        exact s.ap j k dw dx w h1 h2 o1 o2 g1 g2
  pin := s.pin
theorem Res.fz (h : Is K F d v) : Res K e F H ρ σ (.fz d) v := ⟨h, fun z => nomatch z⟩
/-- a new object -/
theorem Sg.alloc (s : Sg K e ρ F σ H) (hp : H p = none) (m : MuO K F c o) : Sg K e ρ F σ (upd H p o) ∧ Res K e F (upd H p o) ρ σ (.mu true c) (.ref p) := by
  obtain ⟨hf, he⟩ := s.free hp
  have st : Stp F H F (upd H p o) [] := ⟨Same.refl _, fun q u h _ => by rw [upd_ne (ne_of_none h hp)]; exact h, fun q u h => ⟨u, by rw [upd_ne (ne_of_none h hp)]; exact h⟩, fun _ _ _ h => h⟩
  refine ⟨s.later (fun b u h => by rw [upd_ne (ne_of_none (s.fh _ _ h) hp)]; exact s.fh _ _ h) st, ⟨p, o, rfl, hf, fun _ => he, (fun z => nomatch z), fun u hu => ?_, upd_same, m⟩, fun _ i dw h ho z => ?_⟩
  · have := (s.pin _ hu).1
    rw [hp] at this; cases this
  · obtain ⟨w, b1, b2⟩ := s.sl i dw h
    rw [b1] at z; cases z
    cases dw with
    | fz d => cases ho
    | lk _ c => cases ho
    | mu b c =>
      obtain ⟨q, u, e1, _, _, _, _, c5, _⟩ := b2
      cases e1
      rw [hp] at c5; cases c5
/-- the object of a slot is changed -/
theorem Sg.mut {b : Bool} (s : Sg K e ρ F σ H) (hi : ρ[i]? = some (some (.mu b c))) (hσ : σ[i]? = some (some (.ref p))) (m : MuO K F c' o) : Sg K e (ρ.set i (some (.mu b c'))) F σ (upd H p o) := by
  obtain ⟨v, g1, q, u, rfl, a1, a2, a3, a4, a5, a6⟩ := s.sl i _ hi
  rw [hσ] at g1; cases g1
  have hil : i < ρ.length := (List.getElem?_eq_some_iff.mp hi).1
  have own : ∀ (j : Nat) (dw : DV), (ρ.set i (some (.mu b c')))[j]? = some (some dw) → j ≠ i → ρ[j]? = some (some dw) := fun j dw h n => by
    rwa [List.getElem?_set_ne (Ne.symm n)] at h
  refine ⟨fun b u h => ?_, ⟨s.st.ff, fun q u h n => ?_, fun q u h => ?_, s.st.old⟩, by simp [s.len], fun j dw h => ?_, fun j k dw dx w h1 h2 o1 o2 g1 g2 => ?_, fun r hr => ?_⟩
  · have : b ≠ p := fun z => by subst z; rw [a1] at h; cases h
    rw [upd_ne this]; exact s.fh _ _ h
  · by_cases hq : q = p
    · subst hq
      cases hb : b with
      | true => rw [a2 hb] at h; cases h
      | false => exact absurd (a3 hb) n
    · rw [upd_ne hq]; exact s.st.keep q u h n
  · by_cases hq : q = p
    · subst hq; exact ⟨_, upd_same⟩
    · rw [upd_ne hq]; exact s.st.there q u h
  · by_cases hj : j = i
    · subst hj
      rw [List.getElem?_set_self hil] at h; cases h
      exact ⟨_, hσ, p, o, rfl, a1, a2, a3, a4, upd_same, m⟩
    · have h' := own j dw h hj
      obtain ⟨w, b1, b2⟩ := s.sl j dw h'
      refine ⟨w, b1, ?_⟩
      cases dw with
      | fz d => exact b2
      | lk _ c => exact b2
      | mu b' c2 =>
        obtain ⟨r, u2, rfl, c1, c2, c3, c4, c5, c6⟩ := b2
        have : r ≠ p := fun z => hj (s.ap j i _ _ _ h' hi rfl rfl b1 (by rw [hσ, z]))
        exact ⟨r, u2, rfl, c1, c2, c3, c4, by rw [upd_ne this]; exact c5, c6⟩
  · have h1' : ∃ dw', ρ[j]? = some (some dw') ∧ dw'.own = true := by
      by_cases hj : j = i
      · subst hj; exact ⟨_, hi, rfl⟩
      · exact ⟨dw, own j dw h1 hj, o1⟩
    have h2' : ∃ dx', ρ[k]? = some (some dx') ∧ dx'.own = true := by
      by_cases hk : k = i
      · subst hk; exact ⟨_, hi, rfl⟩
      · exact ⟨dx, own k dx h2 hk, o2⟩
    obtain ⟨dw', p1, p2⟩ := h1'
    obtain ⟨dx', p3, p4⟩ := h2'
    exact s.ap j k _ _ w p1 p3 p2 p4 g1 g2
  · obtain ⟨b1, b2, b3⟩ := s.pin r hr
    have : r.1 ≠ p := fun z => a4 r.2 (by rw [← z]; exact hr)
    exact ⟨by rw [upd_ne this]; exact b1, b2, b3⟩
/-- a slot's own object is moved out of it -/
theorem Sg.move {b : Bool} (s : Sg K e ρ F σ H) (hi : ρ[i]? = some (some (.mu b c))) : ∃ v, σ[i]? = some (some v) ∧ Sg K e (ρ.set i none) F σ H ∧ Res K e F H (ρ.set i none) σ (.mu b c) v := by
  obtain ⟨v, g1, g2⟩ := s.sl i _ hi
  have own : ∀ (j : Nat) (dw : DV), (ρ.set i none)[j]? = some (some dw) → j ≠ i ∧ ρ[j]? = some (some dw) := fun j dw h => by
    by_cases n : i = j
    · subst n
      have hil : i < ρ.length := (List.getElem?_eq_some_iff.mp hi).1
      rw [List.getElem?_set_self hil] at h; cases h
    · rw [List.getElem?_set_ne n] at h
      exact ⟨fun z => n z.symm, h⟩
  refine ⟨v, g1, s.weak (by simp) fun j dw h => (own j dw h).2, g2, fun _ j dw h ho z => ?_⟩
  obtain ⟨n, h'⟩ := own j dw h
  exact n (s.ap j i _ _ v h' hi ho rfl z g1)
end
end L2.DL

/-! # DLb.lean -/
set_option Elab.async false
set_option linter.all false
set_option maxRecDepth 100000
namespace L2.DL
open PySem PySem.Spec PyProof.Rows

/-! ## judgements -/
abbrev EXt := Str → List (Str × D) → DEnv → Prop
abbrev WE := EXt → DEnv → (DV → DEnv → Prop) → Prop
abbrev WT := EXt → DEnv → (Bool → DEnv → Prop) → Prop
abbrev WA := EXt → DEnv → (List D → DEnv → Prop) → Prop
abbrev IsKV (K : PySem.W.Frag) (F : Hp) : List (Str × D) → List (Str × V) → Prop := KVD K F
/-- what is wished of an exception, by data -/
def Hx (K : PySem.W.Frag) (Wx : WX) (e : Ent) (EX : EXt) : Prop := ∀ C dd fs kvs ρ' F' σ' H', Sg K e ρ' F' σ' H' → H' dd = some (.xd fs) → F' dd = none → (e.H dd = none ∧ ∀ u, (dd, u) ∉ e.pn) → IsKV K F' kvs fs → EX C kvs ρ' → Wx (.ref (He.ga K C)) (some dd) σ' H'
def cE (K : PySem.W.Frag) (Wx : WX) (W : WE) : TE := fun σ H Q => ∃ e ρ F EX P, Sg K e ρ F σ H ∧ W EX ρ P ∧ Hx K Wx e EX ∧
  ∀ F' H' v dv ρ', Sg K e ρ' F' σ H' → Same F F' → Res K e F' H' ρ' σ dv v → P dv ρ' → Q v H'
def cT (K : PySem.W.Frag) (Wx : WX) (W : WT) : TT := fun σ H Q => ∃ e ρ F EX P, Sg K e ρ F σ H ∧ W EX ρ P ∧ Hx K Wx e EX ∧
  ∀ F' H' b ρ', Sg K e ρ' F' σ H' → Same F F' → P b ρ' → Q b H'
def cA (K : PySem.W.Frag) (Wx : WX) (W : WA) : TA := fun σ H Q => ∃ e ρ F EX P, Sg K e ρ F σ H ∧ W EX ρ P ∧ Hx K Wx e EX ∧
  ∀ F' H' vs ds ρ', Sg K e ρ' F' σ H' → Same F F' → IsL K F' ds vs → P ds ρ' → Q vs H'
abbrev JE (X : Cx) (Wx : WX) (e : Expr) (W : WE) : Prop := PE X e (cE X.K Wx W)
abbrev JT (X : Cx) (Wx : WX) (e : Expr) (W : WT) : Prop := PT X e (cT X.K Wx W)
abbrev JW (X : Cx) (Wx : WX) (e : Expr) (W : WT) : Prop := PW X e (cT X.K Wx W)
abbrev JA (X : Cx) (Wx : WX) (es : List Expr) (W : WA) : Prop := PA X es (cA X.K Wx W)

theorem PE.wk {X : Cx} {e : Expr} {t t' : TE} (h : PE X e t) (i : ∀ σ H Q, t' σ H Q → t σ H Q) : PE X e t' := ⟨fun pins s σ H Q I q => h.run pins s σ H Q I (i σ H Q q)⟩
theorem PT.wk {X : Cx} {e : Expr} {t t' : TT} (h : PT X e t) (i : ∀ σ H Q, t' σ H Q → t σ H Q) : PT X e t' := ⟨fun pins s σ H Q I q => h.run pins s σ H Q I (i σ H Q q)⟩
theorem PW.wk {X : Cx} {e : Expr} {t t' : TT} (h : PW X e t) (i : ∀ σ H Q, t' σ H Q → t σ H Q) : PW X e t' := ⟨fun wh pins s σ H Q I q => h.run wh pins s σ H Q I (i σ H Q q)⟩
theorem PA.wk {X : Cx} {es : List Expr} {t t' : TA} (h : PA X es t) (i : ∀ σ H Q, t' σ H Q → t σ H Q) : PA X es t' := ⟨fun p pins s σ H Q I q => h.run p pins s σ H Q I (i σ H Q q)⟩

/-- two ways -/
def ift (b : Bool) (A B : Prop) : Prop := match b with
  | true => A
  | false => B
theorem ift_of {b : Bool} {A B : Prop} (h1 : b = true → A) (h2 : b = false → B) : ift b A B := by
  cases b
  · exact h2 rfl
  · exact h1 rfl
theorem ift_t {b : Bool} {A B : Prop} (hb : b = true) (h : A) : ift b A B := by subst hb; exact h
theorem ift_f {b : Bool} {A B : Prop} (hb : b = false) (h : B) : ift b A B := by subst hb; exact h
theorem ift_d {p : Prop} [Decidable p] {A B : Prop} (h1 : p → A) (h2 : ¬ p → B) : ift (decide p) A B :=
  ift_of (fun h => h1 (of_decide_eq_true h)) fun h => h2 (of_decide_eq_false h)
theorem ift_n {p : Prop} [Decidable p] {A B : Prop} (h1 : ¬ p → A) (h2 : p → B) : ift (!decide p) A B :=
  ift_of (fun h => h1 (by simpa using h)) fun h => h2 (by simpa using h)
/-- use as data -/
def DV.thn (dv : DV) (P : D → Prop) : Prop := match dv with
  | .fz d => P d
  | .mu true c => P c.d
  | .mu false _ => False
  | .lk _ _ => False
theorem Sg.data {K : PySem.W.Frag} {e : Ent} {ρ : DEnv} {F : Hp} {σ : St} {H : Hp} {dv : DV} {v : V} {P : D → Prop} (s : Sg K e ρ F σ H) (r : Res K e F H ρ σ dv v) (h : dv.thn P) :
    ∃ F' d, Sg K e ρ F' σ H ∧ Same F F' ∧ Is K F' d v ∧ P d := by
  cases dv with
  | fz d => exact ⟨F, d, s, Same.refl _, r.1, h⟩
  | lk _ c => exact h.elim
  | mu b c =>
    cases b with
    | false => exact h.elim
    | true =>
      obtain ⟨F', a, b, c'⟩ := s.frz r
      exact ⟨F', c.d, a, b, c', h⟩

section
variable {X : Cx} {Wx : WX} {pos : Pos}
/-! ### names, constants -/
def wVar (i : Nat) : WE := fun _ ρ P => match ρ[i]? with
  | some (some (.fz d)) => P (.fz d) ρ
  | _ => False
/-- an own object, moved out of its slot -/
def wMov (i : Nat) : WE := fun _ ρ P => match ρ[i]? with
  | some (some (.mu b c)) => P (.mu b c) (ρ.set i none)
  | _ => False
/-- an own object, frozen where it is -/
def wFrz (i : Nat) : WE := fun _ ρ P => match ρ[i]? with
  | some (some (.mu true c)) => P (.fz c.d) (ρ.set i (some (.fz c.d)))
  | _ => False
def wK (d : D) : WE := fun _ ρ P => P (.fz d) ρ
theorem je_var {i : Nat} {x : Str} (h : PE X (.Name x pos) (tVar i)) : JE X Wx (.Name x pos) (wVar i) := by
  refine PE.wk h fun σ H Q h => ?_
  obtain ⟨e, ρ, F, EX, P, s, w, hx, k⟩ := h
  unfold wVar at w
  split at w
  · rename_i d hd
    obtain ⟨v, a, b⟩ := s.sl i _ hd
    exact ⟨v, a, k F H v (.fz d) ρ s (Same.refl _) (Res.fz b) w⟩
  · exact w.elim
theorem je_mov {i : Nat} {x : Str} (h : PE X (.Name x pos) (tVar i)) : JE X Wx (.Name x pos) (wMov i) := by
  refine PE.wk h fun σ H Q h => ?_
  obtain ⟨e, ρ, F, EX, P, s, w, hx, k⟩ := h
  unfold wMov at w
  split at w
  · rename_i b c hd
    obtain ⟨v, a, s', r⟩ := s.move hd
    exact ⟨v, a, k F H v _ _ s' (Same.refl _) r w⟩
  · exact w.elim
theorem je_frz {i : Nat} {x : Str} (h : PE X (.Name x pos) (tVar i)) : JE X Wx (.Name x pos) (wFrz i) := by
  refine PE.wk h fun σ H Q h => ?_
  obtain ⟨e, ρ, F, EX, P, s, w, hx, k⟩ := h
  unfold wFrz at w
  split at w
  · rename_i c hd
    obtain ⟨v, a, s', r⟩ := s.move hd
    obtain ⟨F', s2, sm, r2⟩ := s'.frz r
    have s3 := s2.set (i := i) (Res.fz (H := H) (e := e) (ρ := ρ.set i none) (σ := σ) r2)
    have e1 : (ρ.set i none).set i (some (.fz c.d)) = ρ.set i (some (.fz c.d)) := by simp
    have e2 : σ.set i (some v) = σ := by
      apply List.ext_getElem?
      intro j
      by_cases hj : i = j
      · subst hj
        rw [a, List.getElem?_set_self (List.getElem?_eq_some_iff.mp a).1]
      · rw [List.getElem?_set_ne hj]
    rw [e1, e2] at s3
    exact ⟨v, a, k F' H v _ _ s3 sm (Res.fz r2) w⟩
  · exact w.elim
theorem je_const {ex : Expr} {d : D} {v : V} (h : PE X ex (tC v)) (hd : ∀ F, Is X.K F d v) : JE X Wx ex (wK d) := by
  refine PE.wk h fun σ H Q h => ?_
  obtain ⟨e, ρ, F, EX, P, s, w, hx, k⟩ := h
  exact k F H v _ ρ s (Same.refl _) (Res.fz (hd F)) w
theorem je_int {i : Int} {j} : JE X Wx (.Constant (.int i) j pos) (wK (.int i)) := je_const pe_int fun _ => by simp [Is]
theorem je_bl {i : Bool} {j} : JE X Wx (.Constant (.bool i) j pos) (wK (.bl i)) := je_const pe_bl fun _ => by simp [Is]
theorem je_non {j} : JE X Wx (.Constant .none j pos) (wK .non) := je_const pe_non fun _ => by simp [Is]
theorem je_str {x : Str} {j} : JE X Wx (.Constant (.str x) j pos) (wK (.str x)) := je_const pe_str fun _ => by simp [Is]
theorem je_gint {x : Str} {i : Int} {t : Tok} (hg : Gl X x) (hm : X.mg x = some (.int i t)) (hd : (x == ("__debug__" : Str)) = false := by decide) : JE X Wx (.Name x pos) (wK (.int i)) :=
  je_const (pe_glob (v := .int i) hg hm ⟨t, rfl⟩ hd) fun _ => by simp [Is]
theorem je_gref {x : Str} {a : Addr} (hg : Gl X x) (hm : X.mg x = some (.ref a)) (hd : (x == ("__debug__" : Str)) = false := by decide) : JE X Wx (.Name x pos) (wK (.adr a)) :=
  je_const (pe_glob hg hm (v := .ref a) rfl hd) fun _ => by simp [Is]
theorem je_ty {x : Str} {n : String} (hg : Gl X x) (hm : X.mg x = none) (hv : bootBuiltins x = some (.type n)) (hn : x ≠ "__name__" := by decide) (hd : (x == ("__debug__" : Str)) = false := by decide) : JE X Wx (.Name x pos) (wK (.ty n)) :=
  je_const (pe_bltn hg hm hv (v := .ty n) rfl hn hd) fun _ => by simp [Is]

/-! ### two operands -/
/-- a rule by values, by data -/
def BR (K : PySem.W.Frag) (r : R2) (w : D → D → (DV → Prop) → Prop) : Prop :=
  ∀ e ρ F σ H x y a b Q P, Sg K e ρ F σ H → Is K F a x → Is K F b y → w a b P →
    (∀ F' H' v dv, Sg K e ρ F' σ H' → Same F F' → Res K e F' H' ρ σ dv v → P dv → Q v H') → r x y H Q
def wBin (w : D → D → (DV → Prop) → Prop) (Wa Wb : WE) : WE := fun EX ρ P => Wa EX ρ fun a ρ1 => a.thn fun da => Wb EX ρ1 fun b ρ2 => b.thn fun db => w da db fun dv => P dv ρ2
variable {a b c : Expr} {Wa Wb Wc : WE} {r r' : R2} {w w' : D → D → (DV → Prop) → Prop}
theorem cE_bin (hr : BR X.K r w) (σ : St) (H : Hp) (Q : VK) (h : cE X.K Wx (wBin w Wa Wb) σ H Q) : tOp r (cE X.K Wx Wa) (cE X.K Wx Wb) σ H Q := by
  obtain ⟨e, ρ, F, EX, P, s, w0, hx, k⟩ := h
  refine ⟨e, ρ, F, EX, _, s, w0, hx, fun F1 H1 v1 d1 ρ1 s1 m1 r1 q1 => ?_⟩
  obtain ⟨F1', a1, s1', m1', i1, q1'⟩ := s1.data r1 q1
  refine ⟨e, ρ1, F1', EX, _, s1', q1', hx, fun F2 H2 v2 d2 ρ2 s2 m2 r2 q2 => ?_⟩
  obtain ⟨F2', a2, s2', m2', i2, q2'⟩ := s2.data r2 q2
  exact hr e ρ2 F2' σ H2 v1 v2 a1 a2 Q _ s2' (Is.mono (m2.trans m2') _ i1) i2 q2' fun F' H' v dv s' sm res p => k F' H' v dv ρ2 s' (m1.trans (m1'.trans (m2.trans (m2'.trans sm)))) res p
theorem je_op {op : Operator} (ho : OpR X (binaryOp op) r) (hr : BR X.K r w) (ha : JE X Wx a Wa) (hb : JE X Wx b Wb) : JE X Wx (.BinOp a op b pos) (wBin w Wa Wb) := PE.wk (pe_op ho ha hb) (cE_bin hr)
theorem je_cmp {op : CmpOp} (ho : OpR X (compareOp op) r) (hr : BR X.K r w) (ha : JE X Wx a Wa) (hb : JE X Wx b Wb) (hm : behindInMarks op b = false) : JE X Wx (.Compare a [op] [b] pos) (wBin w Wa Wb) := PE.wk (pe_cmpR ho ha hb hm) (cE_bin hr)
theorem je_ix (ho : IxR X r) (hr : BR X.K r w) (ha : JE X Wx a Wa) (hb : JE X Wx b Wb) (hs : PlainIx b) : JE X Wx (.Subscript a b pos) (wBin w Wa Wb) := PE.wk (pe_ix ho ha hb hs) (cE_bin hr)

/-- a value that is True or False, as a test -/
def wTest (W : WE) : WT := fun EX ρ P => W EX ρ fun dv ρ1 => match dv with
  | .fz (.bl b) => P b ρ1
  | _ => False
theorem cT_test {t : TE} {W : WE} (hi : ∀ σ H Q, cE X.K Wx W σ H Q → t σ H Q) (σ : St) (H : Hp) (Q : Bool → Hp → Prop) (h : cT X.K Wx (wTest W) σ H Q) : tTest t σ H Q := by
  obtain ⟨e, ρ, F, EX, P, s, w0, hx, k⟩ := h
  refine hi _ _ _ ⟨e, ρ, F, EX, _, s, w0, hx, fun F1 H1 v1 d1 ρ1 s1 m1 r1 q1 => ?_⟩
  split at q1
  · rename_i b'
    have : v1 = .bl b' := by simpa [Res, Sl, Is] using r1.1
    exact ⟨b', this, k F1 H1 b' ρ1 s1 m1 q1⟩
  · exact q1.elim
theorem jt_cmp {op : CmpOp} (ho : OpR X (compareOp op) r) (hr : BR X.K r w) (ha : JE X Wx a Wa) (hb : JE X Wx b Wb) (hm : behindInMarks op b = false) : JT X Wx (.Compare a [op] [b] pos) (wTest (wBin w Wa Wb)) :=
  PT.wk (pt_cmpR ho ha hb hm) (cT_test (cE_bin hr))
theorem jt_val (h : JE X Wx a Wa) (he : ∀ whole, isTrue a X.env whole = (do let v ← whole; standAt a.pos; holding [v] (truthy v)) := by intro _; rfl) : JT X Wx a (wTest Wa) :=
  PT.wk (pt_val h he) (cT_test fun _ _ _ h => h)
/-- a < b < c -/
def wChain (w w' : D → D → (DV → Prop) → Prop) (Wa Wb Wc : WE) : WE := fun EX ρ P => Wa EX ρ fun a ρ1 => a.thn fun da => Wb EX ρ1 fun b ρ2 => b.thn fun db => w da db fun z => match z with
  | .fz (.bl k) => ift k (Wc EX ρ2 fun c ρ3 => c.thn fun dc => w' db dc fun dv => P dv ρ3) (P (.fz (.bl false)) ρ2)
  | _ => False
theorem cE_chain (hr : BR X.K r w) (hr' : BR X.K r' w') (σ : St) (H : Hp) (Q : VK) (h : cE X.K Wx (wChain w w' Wa Wb Wc) σ H Q) : tChain r r' (cE X.K Wx Wa) (cE X.K Wx Wb) (cE X.K Wx Wc) σ H Q := by
  obtain ⟨e, ρ, F, EX, P, s, w0, hx, k⟩ := h
  refine ⟨e, ρ, F, EX, _, s, w0, hx, fun F1 H1 v1 d1 ρ1 s1 m1 r1 q1 => ?_⟩
  obtain ⟨F1', a1, s1', m1', i1, q1'⟩ := s1.data r1 q1
  refine ⟨e, ρ1, F1', EX, _, s1', q1', hx, fun F2 H2 v2 d2 ρ2 s2 m2 r2 q2 => ?_⟩
  obtain ⟨F2', a2, s2', m2', i2, q2'⟩ := s2.data r2 q2
  refine hr e ρ2 F2' σ H2 v1 v2 a1 a2 _ _ s2' (Is.mono (m2.trans m2') _ i1) i2 q2' fun F3 H3 v3 d3 s3 m3 r3 q3 => ?_
  split at q3
  · rename_i kk
    have hv : v3 = .bl kk := by simpa [Res, Sl, Is] using r3.1
    refine ⟨kk, hv, ?_⟩
    have mm := m1.trans (m1'.trans (m2.trans (m2'.trans m3)))
    cases kk with
    | false =>
      rw [if_neg (by decide)]
      exact k F3 H3 _ _ ρ2 s3 mm (Res.fz (by simp [Is])) q3
    | true =>
      rw [if_pos rfl]
      refine ⟨e, ρ2, F3, EX, _, s3, q3, hx, fun F4 H4 v4 d4 ρ4 s4 m4 r4 q4 => ?_⟩
      obtain ⟨F4', a4, s4', m4', i4, q4'⟩ := s4.data r4 q4
      exact hr' e ρ4 F4' σ H4 v2 v4 a2 a4 Q _ s4' (Is.mono (m3.trans (m4.trans m4')) _ i2) i4 q4' fun F' H' v dv s' sm res p => k F' H' v dv ρ4 s' (mm.trans (m4.trans (m4'.trans sm))) res p
  · exact q3.elim
theorem je_chain {op op' : CmpOp} (ho : OpR X (compareOp op) r) (ho' : OpR X (compareOp op') r') (hr : BR X.K r w) (hr' : BR X.K r' w') (ha : JE X Wx a Wa) (hb : JE X Wx b Wb) (hc : JE X Wx c Wc)
    (hm : lastMarks [op, op'] [b, c] = false := by with_unfolding_all rfl) : JE X Wx (.Compare a [op, op'] [b, c] pos) (wChain w w' Wa Wb Wc) := PE.wk (pe_chain ho ho' ha hb hc hm) (cE_chain hr hr')
theorem jt_chain {op op' : CmpOp} (ho : OpR X (compareOp op) r) (ho' : OpR X (compareOp op') r') (hr : BR X.K r w) (hr' : BR X.K r' w') (ha : JE X Wx a Wa) (hb : JE X Wx b Wb) (hc : JE X Wx c Wc)
    (hm : lastMarks [op, op'] [b, c] = false := by with_unfolding_all rfl) : JT X Wx (.Compare a [op, op'] [b, c] pos) (wTest (wChain w w' Wa Wb Wc)) := PT.wk (pt_chain ho ho' ha hb hc hm) (cT_test (cE_chain hr hr'))

/-! ### one operand -/
def wUn (g : Int → Int) (Wa : WE) : WE := fun EX ρ P => Wa EX ρ fun a ρ1 => match a with
  | .fz (.int i) => P (.fz (.int (g i))) ρ1
  | _ => False
theorem je_un {op : UnaryOp} {g : Int → Int} (ho : UnR X (unaryOp op) (rU fun i => .int (g i))) (ha : JE X Wx a Wa) : JE X Wx (.UnaryOp op a pos) (wUn g Wa) := by
  refine PE.wk (pe_un ho ha) fun σ H Q h => ?_
  obtain ⟨e, ρ, F, EX, P, s, w0, hx, k⟩ := h
  refine ⟨e, ρ, F, EX, _, s, w0, hx, fun F1 H1 v1 d1 ρ1 s1 m1 r1 q1 => ?_⟩
  split at q1
  · rename_i i
    exact ⟨i, by simpa [Res, Sl, Is] using r1.1, k F1 H1 _ _ ρ1 s1 m1 (Res.fz (by simp [Is])) q1⟩
  · exact q1.elim

/-! ### and, or, not, if -/
variable {Ta Tb Tc : WT} {rest : List Expr}
def wAnd (Ta Tb : WT) : WT := fun EX ρ P => Ta EX ρ fun b ρ1 => ift b (Tb EX ρ1 P) (P false ρ1)
def wOr (Ta Tb : WT) : WT := fun EX ρ P => Ta EX ρ fun b ρ1 => ift b (P true ρ1) (Tb EX ρ1 P)
def wNot (Ta : WT) : WT := fun EX ρ P => Ta EX ρ fun b ρ1 => P (!b) ρ1
theorem jw_and1 (ha : JT X Wx a Ta) : JW X Wx (.BoolOp .And [a] pos) Ta := pw_and1 ha
theorem jw_or1 (ha : JT X Wx a Ta) : JW X Wx (.BoolOp .Or [a] pos) Ta := pw_or1 ha
theorem jw_and (ha : JT X Wx a Ta) (hb : JW X Wx (.BoolOp .And (b :: rest) pos) Tb) : JW X Wx (.BoolOp .And (a :: b :: rest) pos) (wAnd Ta Tb) := by
  refine PW.wk (pw_and ha hb) fun σ H Q h => ?_
  obtain ⟨e, ρ, F, EX, P, s, w0, hx, k⟩ := h
  refine ⟨e, ρ, F, EX, _, s, w0, hx, fun F1 H1 b ρ1 s1 m1 q1 => ?_⟩
  cases b with
  | true => rw [if_pos rfl]; exact ⟨e, ρ1, F1, EX, P, s1, q1, hx, fun F' H' b ρ' s' m' p' => k F' H' b ρ' s' (m1.trans m') p'⟩
  | false => rw [if_neg (by decide)]; exact k _ _ _ _ s1 m1 q1
theorem jw_or (ha : JT X Wx a Ta) (hb : JW X Wx (.BoolOp .Or (b :: rest) pos) Tb) : JW X Wx (.BoolOp .Or (a :: b :: rest) pos) (wOr Ta Tb) := by
  refine PW.wk (pw_or ha hb) fun σ H Q h => ?_
  obtain ⟨e, ρ, F, EX, P, s, w0, hx, k⟩ := h
  refine ⟨e, ρ, F, EX, _, s, w0, hx, fun F1 H1 b ρ1 s1 m1 q1 => ?_⟩
  cases b with
  | true => rw [if_pos rfl]; exact k _ _ _ _ s1 m1 q1
  | false => rw [if_neg (by decide)]; exact ⟨e, ρ1, F1, EX, P, s1, q1, hx, fun F' H' b ρ' s' m' p' => k F' H' b ρ' s' (m1.trans m') p'⟩
theorem jt_w (h : JW X Wx a Ta) : JT X Wx a Ta := h.pt
theorem jt_not (ha : JT X Wx a Ta) : JT X Wx (.UnaryOp .Not a pos) (wNot Ta) := by
  refine PT.wk (pt_not ha) fun σ H Q h => ?_
  obtain ⟨e, ρ, F, EX, P, s, w0, hx, k⟩ := h
  exact ⟨e, ρ, F, EX, _, s, w0, hx, fun F1 H1 b ρ1 s1 m1 q1 => k _ _ _ _ s1 m1 q1⟩
/-- and, or, not as values -/
def wAndV (Wa Wb : WE) : WE := fun EX ρ P => Wa EX ρ fun a ρ1 => match a with
  | .fz (.bl b) => ift b (Wb EX ρ1 P) (P (.fz (.bl false)) ρ1)
  | _ => False
def wOrV (Wa Wb : WE) : WE := fun EX ρ P => Wa EX ρ fun a ρ1 => match a with
  | .fz (.bl b) => ift b (P (.fz (.bl true)) ρ1) (Wb EX ρ1 P)
  | _ => False
def wNotV (Wa : WE) : WE := fun EX ρ P => Wa EX ρ fun a ρ1 => match a with
  | .fz (.bl b) => P (.fz (.bl (!b))) ρ1
  | _ => False
theorem je_one {op} (h : JE X Wx a Wa) : JE X Wx (.BoolOp op [a] pos) Wa := pe_one h
theorem je_and (ha : JE X Wx a Wa) (hb : JE X Wx (.BoolOp .And (b :: rest) pos) Wb) : JE X Wx (.BoolOp .And (a :: b :: rest) pos) (wAndV Wa Wb) := by
  refine PE.wk (pe_and ha hb) fun σ H Q h => ?_
  obtain ⟨e, ρ, F, EX, P, s, w0, hx, k⟩ := h
  refine ⟨e, ρ, F, EX, _, s, w0, hx, fun F1 H1 v1 d1 ρ1 s1 m1 r1 q1 => ?_⟩
  split at q1
  · rename_i b
    refine ⟨b, by simpa [Res, Sl, Is] using r1.1, ?_⟩
    cases b with
    | true => rw [if_pos rfl]; exact ⟨e, ρ1, F1, EX, P, s1, q1, hx, fun F' H' v dv ρ' s' m' r' p' => k F' H' v dv ρ' s' (m1.trans m') r' p'⟩
    | false => rw [if_neg (by decide)]; exact k _ _ _ _ _ s1 m1 (Res.fz (by simp [Is])) q1
  · exact q1.elim
theorem je_or (ha : JE X Wx a Wa) (hb : JE X Wx (.BoolOp .Or (b :: rest) pos) Wb) : JE X Wx (.BoolOp .Or (a :: b :: rest) pos) (wOrV Wa Wb) := by
  refine PE.wk (pe_or ha hb) fun σ H Q h => ?_
  obtain ⟨e, ρ, F, EX, P, s, w0, hx, k⟩ := h
  refine ⟨e, ρ, F, EX, _, s, w0, hx, fun F1 H1 v1 d1 ρ1 s1 m1 r1 q1 => ?_⟩
  split at q1
  · rename_i b
    refine ⟨b, by simpa [Res, Sl, Is] using r1.1, ?_⟩
    cases b with
    | false => rw [if_neg (by decide)]; exact ⟨e, ρ1, F1, EX, P, s1, q1, hx, fun F' H' v dv ρ' s' m' r' p' => k F' H' v dv ρ' s' (m1.trans m') r' p'⟩
    | true => rw [if_pos rfl]; exact k _ _ _ _ _ s1 m1 (Res.fz (by simp [Is])) q1
  · exact q1.elim
theorem je_not (ha : JE X Wx a Wa) : JE X Wx (.UnaryOp .Not a pos) (wNotV Wa) := by
  refine PE.wk (pe_not ha) fun σ H Q h => ?_
  obtain ⟨e, ρ, F, EX, P, s, w0, hx, k⟩ := h
  refine ⟨e, ρ, F, EX, _, s, w0, hx, fun F1 H1 v1 d1 ρ1 s1 m1 r1 q1 => ?_⟩
  split at q1
  · rename_i b
    exact ⟨b, by simpa [Res, Sl, Is] using r1.1, k _ _ _ _ _ s1 m1 (Res.fz (by simp [Is])) q1⟩
  · exact q1.elim
def wIf (Tc : WT) (Wa Wb : WE) : WE := fun EX ρ P => Tc EX ρ fun b ρ1 => ift b (Wa EX ρ1 P) (Wb EX ρ1 P)
theorem je_if (hc : JT X Wx c Tc) (ha : JE X Wx a Wa) (hb : JE X Wx b Wb) : JE X Wx (.IfExp c a b pos) (wIf Tc Wa Wb) := by
  refine PE.wk (pe_ifExp hc ha hb) fun σ H Q h => ?_
  obtain ⟨e, ρ, F, EX, P, s, w0, hx, k⟩ := h
  refine ⟨e, ρ, F, EX, _, s, w0, hx, fun F1 H1 b ρ1 s1 m1 q1 => ?_⟩
  cases b with
  | true => rw [if_pos rfl]; exact ⟨e, ρ1, F1, EX, P, s1, q1, hx, fun F' H' v dv ρ' s' m' r' p' => k F' H' v dv ρ' s' (m1.trans m') r' p'⟩
  | false => rw [if_neg (by decide)]; exact ⟨e, ρ1, F1, EX, P, s1, q1, hx, fun F' H' v dv ρ' s' m' r' p' => k F' H' v dv ρ' s' (m1.trans m') r' p'⟩

/-! ### arguments, displays -/
variable {es : List Expr} {We : WE} {Wr Wargs : WA}
def wNil : WA := fun _ ρ P => P [] ρ
def wCons (We : WE) (Wr : WA) : WA := fun EX ρ P => We EX ρ fun a ρ1 => a.thn fun d => Wr EX ρ1 fun ds ρ2 => P (d :: ds) ρ2
theorem ja_nil : JA X Wx [] wNil := by
  refine PA.wk pa_nil fun σ H Q h => ?_
  obtain ⟨e, ρ, F, EX, P, s, w0, hx, k⟩ := h
  exact k F H [] [] ρ s (Same.refl _) IsL.nil w0
theorem ja_cons (ha : JE X Wx a We) (hr : JA X Wx es Wr) (hs : starEach (a :: es) X.env = (false, eval a X.env) :: starEach es X.env := by rfl) : JA X Wx (a :: es) (wCons We Wr) := by
  refine PA.wk (pa_cons ha hr hs) fun σ H Q h => ?_
  obtain ⟨e, ρ, F, EX, P, s, w0, hx, k⟩ := h
  refine ⟨e, ρ, F, EX, _, s, w0, hx, fun F1 H1 v1 d1 ρ1 s1 m1 r1 q1 => ?_⟩
  obtain ⟨F1', a1, s1', m1', i1, q1'⟩ := s1.data r1 q1
  refine ⟨e, ρ1, F1', EX, _, s1', q1', hx, fun F2 H2 vs ds ρ2 s2 m2 r2 q2 => ?_⟩
  exact k F2 H2 _ _ ρ2 s2 (m1.trans (m1'.trans m2)) (IsL.cons (Is.mono m2 _ i1) r2) q2
def wTup (Wa : WA) : WE := fun EX ρ P => Wa EX ρ fun ds ρ1 => ds.length ≤ sizeLine ∧ P (.fz (.tup ds)) ρ1
def wLst (Wa : WA) : WE := fun EX ρ P => Wa EX ρ fun ds ρ1 => ds.length ≤ sizeLine ∧ P (.mu true (.lst ds)) ρ1
/-- a new frozen object -/
theorem Sg.allocT {K : PySem.W.Frag} {e : Ent} {ρ : DEnv} {F : Hp} {σ : St} {H : Hp} {p : Addr} {o : HO} (s : Sg K e ρ F σ H) (hp : H p = none) : Sg K e ρ (upd F p o) σ (upd H p o) ∧ Same F (upd F p o) := by
  obtain ⟨hf, he⟩ := s.free hp
  have sm : Same F (upd F p o) := fun b u h => by rw [upd_ne (ne_of_none h hf)]; exact h
  refine ⟨s.later (fun b u h => ?_) ⟨sm, fun q u h _ => by rw [upd_ne (ne_of_none h hp)]; exact h, fun q u h => ⟨u, by rw [upd_ne (ne_of_none h hp)]; exact h⟩, fun q u h n => by rw [upd_ne (ne_of_none h hp)]; exact n⟩, sm⟩
  by_cases hb : b = p
  · subst hb; rw [upd_same] at h; cases h; exact upd_same
  · rw [upd_ne hb] at h; rw [upd_ne hb]; exact s.fh _ _ h
theorem je_tup {x1} (h : JA X Wx es Wargs) : JE X Wx (.Tuple es x1 pos) (wTup Wargs) := by
  refine PE.wk (pe_tup h) fun σ H Q h => ?_
  obtain ⟨e, ρ, F, EX, P, s, w0, hx, k⟩ := h
  refine ⟨e, ρ, F, EX, _, s, w0, hx, fun F1 H1 vs ds ρ1 s1 m1 r1 q1 => ⟨by rw [← r1.len]; exact q1.1, fun p hp => ?_⟩⟩
  obtain ⟨s2, m2⟩ := s1.allocT (o := .tup vs) hp
  refine k _ _ _ _ ρ1 s2 (m1.trans m2) (Res.fz ?_) q1.2
  simp only [Is]
  exact ⟨p, vs, rfl, SqT.of upd_same, IsL.mono m2 _ r1⟩
theorem je_lst (h : JA X Wx es Wargs) : JE X Wx (.List es pos) (wLst Wargs) := by
  refine PE.wk (pe_lst h) fun σ H Q h => ?_
  obtain ⟨e, ρ, F, EX, P, s, w0, hx, k⟩ := h
  refine ⟨e, ρ, F, EX, _, s, w0, hx, fun F1 H1 vs ds ρ1 s1 m1 r1 q1 => ⟨by rw [← r1.len]; exact q1.1, fun p hp => ?_⟩⟩
  obtain ⟨s2, r2⟩ := s1.alloc (o := .lst vs) (c := .lst ds) hp ⟨vs, rfl, r1⟩
  exact k _ _ _ _ ρ1 s2 m1 r2 q1.2
def wDictNew : WE := fun _ ρ P => P (.mu true (.dk [])) ρ
theorem je_dictNew : JE X Wx (.Dict [] [] pos) wDictNew := by
  refine PE.wk pe_dnewK fun σ H Q h => ?_
  obtain ⟨e, ρ, F, EX, P, s, w0, hx, k⟩ := h
  intro p hp
  obtain ⟨s2, r2⟩ := s.alloc (o := .dK []) (c := .dk []) hp ⟨[], rfl, .nil⟩
  exact k _ _ _ _ ρ s2 (Same.refl _) r2 w0

def wDictNewT : WE := fun _ ρ P => P (.mu true (.dt [])) ρ
theorem je_dictNewT : JE X Wx (.Dict [] [] pos) wDictNewT := by
  refine PE.wk pe_dnewT fun σ H Q h => ?_
  obtain ⟨e, ρ, F, EX, P, s, w0, hx, k⟩ := h
  intro p hp
  obtain ⟨s2, r2⟩ := s.alloc (o := .dT []) (c := .dt []) hp ⟨[], rfl, .nil⟩
  exact k _ _ _ _ ρ s2 (Same.refl _) r2 w0

/-! ### calls of built-ins -/
def CRl (K : PySem.W.Frag) (r : List V → Hp → VK → Prop) (w : List D → (DV → Prop) → Prop) : Prop :=
  ∀ e ρ F σ H vs ds Q P, Sg K e ρ F σ H → IsL K F ds vs → w ds P →
    (∀ F' H' v dv, Sg K e ρ F' σ H' → Same F F' → Res K e F' H' ρ σ dv v → P dv → Q v H') → r vs H Q
def wCB (w : List D → (DV → Prop) → Prop) (Wa : WA) : WE := fun EX ρ P => Wa EX ρ fun ds ρ1 => w ds fun dv => P dv ρ1
theorem cE_cb {r : List V → Hp → VK → Prop} {w : List D → (DV → Prop) → Prop} (hr : CRl X.K r w) (σ : St) (H : Hp) (Q : VK) (h : cE X.K Wx (wCB w Wargs) σ H Q) : tCB r (cA X.K Wx Wargs) σ H Q := by
  obtain ⟨e, ρ, F, EX, P, s, w0, hx, k⟩ := h
  refine ⟨e, ρ, F, EX, _, s, w0, hx, fun F1 H1 vs ds ρ1 s1 m1 r1 q1 => ?_⟩
  exact hr e ρ1 F1 σ H1 vs ds Q _ s1 r1 q1 fun F' H' v dv s' sm res p => k F' H' v dv ρ1 s' (m1.trans sm) res p
theorem je_callB {x : Str} {p : Pos} {id : String} {r : List V → Hp → VK → Prop} {w : List D → (DV → Prop) → Prop} (hc : CallR X (.builtin id) r) (hr : CRl X.K r w) (hg : Gl X x) (hm : X.mg x = none) (hv : bootBuiltins x = some (.builtin id))
    (ha : JA X Wx (a :: es) Wargs) (hn : x ≠ "__name__" := by decide) (hdb : (x == ("__debug__" : Str)) = false := by decide)
    (he : starEach (a :: es) X.env = (false, eval a X.env) :: starEach es X.env := by rfl) (hpl : (backTo pos (starEach es X.env)).any (·.1) = false := by rfl) : JE X Wx (.Call (.Name x p) (a :: es) [] pos) (wCB w Wargs) :=
  PE.wk (pe_callB hc hg hm hv ha hn hdb he hpl) (cE_cb hr)
theorem je_callTy {x : Str} {p : Pos} {T : String} {r : List V → Hp → VK → Prop} {w : List D → (DV → Prop) → Prop} (hc : CallR X (.type T) r) (hr : CRl X.K r w) (hg : Gl X x) (hm : X.mg x = none) (hv : bootBuiltins x = some (.type T))
    (ha : JA X Wx (a :: es) Wargs) (hn : x ≠ "__name__" := by decide) (hdb : (x == ("__debug__" : Str)) = false := by decide)
    (he : starEach (a :: es) X.env = (false, eval a X.env) :: starEach es X.env := by rfl) (hpl : (backTo pos (starEach es X.env)).any (·.1) = false := by rfl) : JE X Wx (.Call (.Name x p) (a :: es) [] pos) (wCB w Wargs) :=
  PE.wk (pe_callTy hc hg hm hv ha hn hdb he hpl) (cE_cb hr)
end
end L2.DL

/-! # DLc.lean -/
set_option Elab.async false
set_option linter.all false
set_option maxRecDepth 100000
namespace L2.DL
open PySem PySem.Spec PyProof.Rows

/-! ## rules by values -/
section
variable {K : PySem.W.Frag}
def wI0 (g : Int → Int → Int) : D → D → (DV → Prop) → Prop := fun a b P => match a, b with
  | .int i, .int j => P (.fz (.int (g i j)))
  | _, _ => False
def wI (C : Int → Int → Prop) (g : Int → Int → Int) : D → D → (DV → Prop) → Prop := fun a b P => match a, b with
  | .int i, .int j => C i j ∧ P (.fz (.int (g i j)))
  | _, _ => False
def wB0 (p : Int → Int → Bool) : D → D → (DV → Prop) → Prop := fun a b P => match a, b with
  | .int i, .int j => P (.fz (.bl (p i j)))
  | _, _ => False
theorem br_i0 {g : Int → Int → Int} : BR K (rI0 fun i j => .int (g i j)) (wI0 g) := by
  intro e ρ F σ H x y a b Q P s ia ib w k
  unfold wI0 at w
  split at w
  · simp only [Is] at ia ib
    subst ia ib
    exact ⟨_, _, rfl, rfl, k F H _ _ s (Same.refl _) (Res.fz (by simp [Is])) w⟩
  · exact w.elim
theorem br_i {C : Int → Int → Prop} {g : Int → Int → Int} : BR K (rI C fun i j => .int (g i j)) (wI C g) := by
  intro e ρ F σ H x y a b Q P s ia ib w k
  unfold wI at w
  split at w
  · simp only [Is] at ia ib
    subst ia ib
    exact ⟨_, _, rfl, rfl, w.1, k F H _ _ s (Same.refl _) (Res.fz (by simp [Is])) w.2⟩
  · exact w.elim
theorem br_b0 {p : Int → Int → Bool} : BR K (rI0 fun i j => .bl (p i j)) (wB0 p) := by
  intro e ρ F σ H x y a b Q P s ia ib w k
  unfold wB0 at w
  split at w
  · simp only [Is] at ia ib
    subst ia ib
    exact ⟨_, _, rfl, rfl, k F H _ _ s (Same.refl _) (Res.fz (by simp [Is])) w⟩
  · exact w.elim
/-- x is None -/
def D.isNone : D → Bool
  | .non => true
  | _ => false
def wIsN (neg : Bool) : D → D → (DV → Prop) → Prop := fun a b P => match b with
  | .non => P (.fz (.bl (if neg then !a.isNone else a.isNone)))
  | _ => False
theorem is_non {F : Hp} {d : D} {v : V} (h : Is K F d v) : decide (v = .non) = d.isNone := by
  cases d <;> simp only [Is] at h
  case non => subst h; rfl
  case bl => subst h; rfl
  case int => subst h; rfl
  case str => subst h; rfl
  case ty => subst h; rfl
  case adr => subst h; rfl
  case lst => obtain ⟨a, vs, rfl, _⟩ := h; rfl
  case scr => obtain ⟨a, vs, rfl, _⟩ := h; rfl
  case tup => obtain ⟨a, vs, rfl, _⟩ := h; rfl
  case ins => obtain ⟨a, dx, vs, rfl, _⟩ := h; rfl
  case exc => obtain ⟨vs, rfl, _⟩ := h; rfl
  case cn => subst h; rfl
  case dk => obtain ⟨a, vs, rfl, _⟩ := h; rfl
  case dt => obtain ⟨a, vs, rfl, _⟩ := h; rfl
theorem br_isN : BR K (fun x y H Q => y = .non ∧ Q (.bl (decide (x = .non))) H) (wIsN false) := by
  intro e ρ F σ H x y a b Q P s ia ib w k
  cases b <;> try exact w.elim
  simp only [Is] at ib
  exact ⟨ib, k F H _ (.fz (.bl a.isNone)) s (Same.refl _) (Res.fz (by simp only [Is]; rw [is_non ia])) w⟩
theorem br_notN : BR K (fun x y H Q => y = .non ∧ Q (.bl (!decide (x = .non))) H) (wIsN true) := by
  intro e ρ F σ H x y a b Q P s ia ib w k
  cases b <;> try exact w.elim
  simp only [Is] at ib
  exact ⟨ib, k F H _ (.fz (.bl (!a.isNone))) s (Same.refl _) (Res.fz (by simp only [Is]; rw [is_non ia])) w⟩
/-- items of a sequence -/
def D.items : D → Option (List D)
  | .lst ds => some ds
  | .scr ds => some ds
  | .tup ds => some ds
  | _ => none
def wIx : D → D → (DV → Prop) → Prop := fun a b P => match b with
  | .int i => (match a with
    | .lst ds => ∃ d, atI ds i = some d ∧ P (.fz d)
    | .scr ds => ∃ d, atI ds i = some d ∧ P (.fz d)
    | .tup ds => ∃ d, atI ds i = some d ∧ P (.fz d)
    | _ => False)
  | _ => False
theorem IsL.atI {F : Hp} {ds : List D} {vs : List V} {i : Int} {d : D} (h : IsL K F ds vs) (e : atI ds i = some d) : ∃ v, L2.atI vs i = some v ∧ Is K F d v := by
  unfold L2.atI at e ⊢
  rw [← h.len]
  cases q : ixN ds.length i with
  | none => rw [q] at e; simp at e
  | some j =>
    rw [q] at e
    simp only [Option.bind_some] at e ⊢
    exact h.get e
theorem br_ix : BR K (rIx K) wIx := by
  intro e ρ F σ H x y a b Q P s ia ib w k
  cases b <;> try exact w.elim
  simp only [Is] at ib
  cases a <;> try exact w.elim
  all_goals
    simp only [Is] at ia
    obtain ⟨p, vs, rfl, h1, h2⟩ := ia
    obtain ⟨d, h3, h4⟩ := w
    obtain ⟨v, h5, h6⟩ := h2.atI h3
  · exact .inl ⟨p, vs, _, v, rfl, ib, SqL.of (s.fh _ _ h1), h5, k F H v _ s (Same.refl _) (Res.fz h6) h4⟩
  · exact .inl ⟨p, vs, _, v, rfl, ib, Same.seq s.fh h1, h5, k F H v _ s (Same.refl _) (Res.fz h6) h4⟩
  · exact .inr (.inl ⟨p, vs, _, v, rfl, ib, Same.seqT s.fh h1, h5, k F H v _ s (Same.refl _) (Res.fz h6) h4⟩)
def wCatL : D → D → (DV → Prop) → Prop := fun a b P => match a, b with
  | .lst xs, .lst ys => xs.length + ys.length ≤ sizeLine ∧ P (.mu true (.lst (xs ++ ys)))
  | _, _ => False
theorem br_catL : BR K rCat wCatL := by
  intro e ρ F σ H x y a b Q P s ia ib w k
  cases a <;> try exact w.elim
  cases b <;> try exact w.elim
  simp only [Is] at ia ib
  obtain ⟨p, vs, rfl, h1, h2⟩ := ia
  obtain ⟨q, ws, rfl, h3, h4⟩ := ib
  refine ⟨p, q, vs, ws, rfl, rfl, s.fh _ _ h1, s.fh _ _ h3, by rw [← h2.len, ← h4.len]; exact w.1, fun r hr => ?_⟩
  obtain ⟨s2, r2⟩ := s.alloc (o := .lst (vs ++ ws)) (c := .lst _) hr ⟨_, rfl, h2.append h4⟩
  exact k _ _ _ _ s2 (Same.refl _) r2 w.2
def wCatT : D → D → (DV → Prop) → Prop := fun a b P => match a, b with
  | .tup xs, .tup ys => xs.length + ys.length ≤ sizeLine ∧ P (.fz (.tup (xs ++ ys)))
  | _, _ => False
theorem br_catT : BR K (rCatA K) wCatT := by
  intro e ρ F σ H x y a b Q P s ia ib w k
  cases a <;> try exact w.elim
  cases b <;> try exact w.elim
  rename_i xs ys
  simp only [Is] at ia ib
  obtain ⟨p, vs, rfl, h1, h2⟩ := ia
  obtain ⟨q, ws, rfl, h3, h4⟩ := ib
  refine ⟨p, q, vs, ws, rfl, rfl, Same.seqT s.fh h1, Same.seqT s.fh h3, by rw [← h2.len, ← h4.len]; exact w.1, fun hv => ?_, fun _ hw => ?_, fun _ _ r hr => ?_⟩
  · have : xs = [] := List.eq_nil_of_length_eq_zero (by rw [h2.len, hv]; rfl)
    subst this
    refine k F H _ _ s (Same.refl _) (Res.fz ?_) w.2
    simp only [Is]; exact ⟨q, ws, rfl, h3, h4⟩
  · have : ys = [] := List.eq_nil_of_length_eq_zero (by rw [h4.len, hw]; rfl)
    subst this
    refine k F H _ _ s (Same.refl _) (Res.fz ?_) w.2
    simp only [Is, List.append_nil]; exact ⟨p, vs, rfl, h1, h2⟩
  · obtain ⟨s2, m2⟩ := s.allocT (o := .tup (vs ++ ws)) hr
    refine k _ _ _ _ s2 m2 (Res.fz ?_) w.2
    simp only [Is]
    exact ⟨r, _, rfl, SqT.of upd_same, (h2.append h4).mono m2⟩
/-- a list times a number -/
def repD (n : Nat) (xs : List D) : List D := (List.replicate n xs).flatten
theorem IsL.rep {F : Hp} {ds : List D} {vs : List V} (h : IsL K F ds vs) : ∀ n, IsL K F (repD n ds) (List.replicate n vs).flatten
  | 0 => by simp [repD, IsL]
  | n + 1 => by
    unfold repD
    rw [List.replicate_succ, List.replicate_succ, List.flatten_cons, List.flatten_cons]
    exact h.append (IsL.rep h n)
def wRepL : D → D → (DV → Prop) → Prop := fun a b P => match a, b with
  | .lst xs, .int n => -(2 ^ 63) ≤ n ∧ n < 2 ^ 63 ∧ xs.length * n.toNat ≤ sizeLine ∧ P (.mu true (.lst (repD n.toNat xs)))
  | _, _ => False
theorem br_repL : BR K rRep wRepL := by
  intro e ρ F σ H x y a b Q P s ia ib w k
  cases a <;> try exact w.elim
  cases b <;> try exact w.elim
  simp only [Is] at ia ib
  obtain ⟨p, vs, rfl, h1, h2⟩ := ia
  obtain ⟨w1, w2, w3, w4⟩ := w
  refine ⟨p, _, vs, rfl, ib, s.fh _ _ h1, w1, w2, by rw [← h2.len]; exact w3, fun r hr => ?_⟩
  obtain ⟨s2, r2⟩ := s.alloc (o := .lst _) (c := .lst _) hr ⟨_, rfl, h2.rep _⟩
  exact k _ _ _ _ s2 (Same.refl _) r2 w4

/-! ### equality of data -/
mutual
def D.py : D → Option PyData
  | .non => some .none
  | .bl b => some (.bool b)
  | .int i => some (.int i)
  | .str x => some (.str x)
  | .lst ds => (pyL ds).map .list
  | .scr ds => (pyL ds).map .list
  | .tup ds => (pyL ds).map .tuple
  | _ => none
def pyL : List D → Option (List PyData)
  | [] => some []
  | d :: ds => match d.py, pyL ds with
    | some p, some ps => some (p :: ps)
    | _, _ => none
end
mutual
theorem Is.dp {F H : Hp} (m : Same F H) : ∀ (d : D) {v : V} {p : PyData}, Is K F d v → d.py = some p → Dp K H v p
  | .non, v, p, h, e => by simp only [Is] at h; simp only [D.py] at e; cases e; subst h; exact .non
  | .bl b, v, p, h, e => by simp only [Is] at h; simp only [D.py] at e; cases e; subst h; exact .bl b
  | .int b, v, p, h, e => by simp only [Is] at h; simp only [D.py] at e; cases e; subst h; exact .int b
  | .str b, v, p, h, e => by simp only [Is] at h; simp only [D.py] at e; cases e; subst h; exact .str b
  | .lst ds, v, p, h, e => by
    simp only [Is] at h
    simp only [D.py, Option.map_eq_some_iff] at e
    obtain ⟨ps, e1, rfl⟩ := e
    obtain ⟨a, vs, rfl, h1, h2⟩ := h
    exact .lst (SqL.of (m _ _ h1)) (IsL.dp m ds h2 e1)
  | .scr ds, v, p, h, e => by
    simp only [Is] at h
    simp only [D.py, Option.map_eq_some_iff] at e
    obtain ⟨ps, e1, rfl⟩ := e
    obtain ⟨a, vs, rfl, h1, h2⟩ := h
    exact .lst (Same.seq m h1) (IsL.dp m ds h2 e1)
  | .tup ds, v, p, h, e => by
    simp only [Is] at h
    simp only [D.py, Option.map_eq_some_iff] at e
    obtain ⟨ps, e1, rfl⟩ := e
    obtain ⟨a, vs, rfl, h1, h2⟩ := h
    exact .tup (Same.seqT m h1) (IsL.dp m ds h2 e1)
  | .ty n, v, p, h, e => by simp only [D.py] at e; cases e
  | .adr n, v, p, h, e => by simp only [D.py] at e; cases e
  | .ins C ns n, v, p, h, e => by simp only [D.py] at e; cases e
  | .exc _ _ _ _ n, v, p, h, e => by simp only [D.py] at e; cases e
  | .cn _, v, p, h, e => by simp only [D.py] at e; cases e
  | .dk C n, v, p, h, e => by simp only [D.py] at e; cases e
  | .dt C n, v, p, h, e => by simp only [D.py] at e; cases e
theorem IsL.dp {F H : Hp} (m : Same F H) : ∀ (ds : List D) {vs : List V} {ps : List PyData}, IsL K F ds vs → pyL ds = some ps → DpAll K H vs ps
  | [], vs, ps, h, e => by simp only [IsL] at h; simp only [pyL] at e; cases e; subst h; exact .nil
  | d :: ds, vs, ps, h, e => by
    simp only [IsL] at h
    obtain ⟨v, r, rfl, h1, h2⟩ := h
    simp only [pyL] at e
    split at e
    · rename_i p qs e1 e2
      cases e
      exact .cons (Is.dp m d h1 e1) (IsL.dp m ds h2 e2)
    · cases e
end
/-- the outcome of a == b -/
def DEq (a b : D) (r : Bool) : Prop := ∃ p q, a.py = some p ∧ b.py = some q ∧ SeqAt.shaped p = true ∧ SeqAt.shaped q = true ∧ PyData.eqv p q = r
def wEq (neg : Bool) : D → D → (DV → Prop) → Prop := fun a b P => ∃ r, DEq a b r ∧ P (.fz (.bl (if neg then !r else r)))
theorem br_eq : BR K (rEqD K) (wEq false) := by
  intro e ρ F σ H x y a b Q P s ia ib w k
  obtain ⟨r, ⟨p, q, h1, h2, h3, h4, h5⟩, h6⟩ := w
  exact ⟨p, q, Is.dp s.fh _ ia h1, Is.dp s.fh _ ib h2, h3, h4, k F H _ _ s (Same.refl _) (Res.fz (by simp only [Is]; rw [h5]; rfl)) h6⟩
theorem br_ne : BR K (rNeD K) (wEq true) := by
  intro e ρ F σ H x y a b Q P s ia ib w k
  obtain ⟨r, ⟨p, q, h1, h2, h3, h4, h5⟩, h6⟩ := w
  exact ⟨p, q, Is.dp s.fh _ ia h1, Is.dp s.fh _ ib h2, h3, h4, k F H _ _ s (Same.refl _) (Res.fz (by simp only [Is]; rw [h5]; rfl)) h6⟩

/-! ### built-ins -/
def D.size : D → Option Nat
  | .lst ds => some ds.length
  | .scr ds => some ds.length
  | .tup ds => some ds.length
  | _ => none
def wLen : List D → (DV → Prop) → Prop := fun ds P => match ds with
  | [.lst l] => P (.fz (.int l.length))
  | [.scr l] => P (.fz (.int l.length))
  | [.tup l] => P (.fz (.int l.length))
  | _ => False
theorem IsL.one_inv {F : Hp} {d : D} {vs : List V} (h : IsL K F [d] vs) : ∃ v, vs = [v] ∧ Is K F d v := by
  simp only [IsL] at h
  obtain ⟨v, r, rfl, a, rfl⟩ := h
  exact ⟨v, rfl, a⟩
theorem IsL.two_inv {F : Hp} {d c : D} {vs : List V} (h : IsL K F [d, c] vs) : ∃ v w, vs = [v, w] ∧ Is K F d v ∧ Is K F c w := by
  simp only [IsL] at h
  obtain ⟨v, r, rfl, a, w, r', rfl, b, rfl⟩ := h
  exact ⟨v, w, rfl, a, b⟩
theorem cr_len : CRl K (fun xs H Q => ∃ x n, xs = [x] ∧ LenV K x H n ∧ Q (.int n) H) wLen := by
  intro e ρ F σ H vs ds Q P s i w k
  unfold wLen at w
  split at w
  all_goals try exact w.elim
  all_goals
    obtain ⟨v, rfl, iv⟩ := i.one_inv
    simp only [Is] at iv
    obtain ⟨a, us, rfl, h1, h2⟩ := iv
    refine ⟨_, us.length, rfl, ?_, k F H _ _ s (Same.refl _) (Res.fz (by simp only [Is]; rw [h2.len])) w⟩
  · exact .inl ⟨us, SqL.of (s.fh _ _ h1), rfl⟩
  · exact .inl ⟨us, Same.seq s.fh h1, rfl⟩
  · exact .inr ⟨us, Same.seqT s.fh h1, rfl⟩
/-- the intsD, the truth values of a list -/
def intsD : List D → Option (List Int)
  | [] => some []
  | .int i :: r => (intsD r).map (i :: ·)
  | _ :: _ => none
theorem ints_map : ∀ ns : List Int, intsD (ns.map D.int) = some ns
  | [] => rfl
  | n :: ns => by simp [intsD, ints_map ns]
theorem ints_of : ∀ {ds : List D} {ns : List Int}, intsD ds = some ns → ds = ns.map D.int
  | [], ns, h => by simp [intsD] at h; subst h; rfl
  | .int i :: r, ns, h => by
    simp only [intsD, Option.map_eq_some_iff] at h
    obtain ⟨ms, h1, rfl⟩ := h
    simp [ints_of h1]
  | .non :: _, _, h | .bl _ :: _, _, h | .str _ :: _, _, h | .ty _ :: _, _, h | .adr _ :: _, _, h | .lst _ :: _, _, h | .scr _ :: _, _, h | .tup _ :: _, _, h | .ins _ _ _ :: _, _, h | .exc _ _ _ _ _ :: _, _, h | .cn _ :: _, _, h | .dk _ _ :: _, _, h | .dt _ _ :: _, _, h => by simp [intsD] at h
def bls : List D → Option (List Bool)
  | [] => some []
  | .bl i :: r => (bls r).map (i :: ·)
  | _ :: _ => none
theorem bls_map : ∀ ns : List Bool, bls (ns.map D.bl) = some ns
  | [] => rfl
  | n :: ns => by simp [bls, bls_map ns]
theorem bls_of : ∀ {ds : List D} {ns : List Bool}, bls ds = some ns → ds = ns.map D.bl
  | [], ns, h => by simp [bls] at h; subst h; rfl
  | .bl i :: r, ns, h => by
    simp only [bls, Option.map_eq_some_iff] at h
    obtain ⟨ms, h1, rfl⟩ := h
    simp [bls_of h1]
  | .non :: _, _, h | .int _ :: _, _, h | .str _ :: _, _, h | .ty _ :: _, _, h | .adr _ :: _, _, h | .lst _ :: _, _, h | .scr _ :: _, _, h | .tup _ :: _, _, h | .ins _ _ _ :: _, _, h | .exc _ _ _ _ _ :: _, _, h | .cn _ :: _, _, h | .dk _ _ :: _, _, h | .dt _ _ :: _, _, h => by simp [bls] at h
theorem one_list {e : Ent} {ρ : DEnv} {F : Hp} {σ : St} {H : Hp} {vs : List V} {l : List D} (s : Sg K e ρ F σ H) (i : IsL K F [.lst l] vs) : ∃ a us, vs = [.ref a] ∧ SqL K H a us ∧ IsL K F l us := by
  obtain ⟨v, rfl, iv⟩ := i.one_inv
  simp only [Is] at iv
  obtain ⟨a, us, rfl, h1, h2⟩ := iv
  exact ⟨a, us, rfl, SqL.of (s.fh _ _ h1), h2⟩
def wInts (Z : List Int → (DV → Prop) → Prop) : List D → (DV → Prop) → Prop := fun ds P => match ds with
  | [.lst l] => ∃ ns, intsD l = some ns ∧ Z ns P
  | _ => False
theorem ints_arg {e : Ent} {ρ : DEnv} {F : Hp} {σ : St} {H : Hp} {vs : List V} {ds : List D} {Z : List Int → (DV → Prop) → Prop} {P : DV → Prop} (s : Sg K e ρ F σ H) (i : IsL K F ds vs) (w : wInts Z ds P) :
    ∃ a ns, vs = [V.ref a] ∧ SqL K H a (ns.map V.int) ∧ Z ns P := by
  unfold wInts at w
  split at w
  · obtain ⟨ns, h1, h2⟩ := w
    obtain ⟨a, us, rfl, h3, h4⟩ := one_list s i
    rw [ints_of h1] at h4
    rw [IsL.ints.mp h4] at h3
    exact ⟨a, ns, rfl, h3, h2⟩
  · exact w.elim
def wBls (Z : List Bool → (DV → Prop) → Prop) : List D → (DV → Prop) → Prop := fun ds P => match ds with
  | [.lst l] => ∃ ns, bls l = some ns ∧ Z ns P
  | _ => False
theorem bls_arg {e : Ent} {ρ : DEnv} {F : Hp} {σ : St} {H : Hp} {vs : List V} {ds : List D} {Z : List Bool → (DV → Prop) → Prop} {P : DV → Prop} (s : Sg K e ρ F σ H) (i : IsL K F ds vs) (w : wBls Z ds P) :
    ∃ a ns, vs = [V.ref a] ∧ SqL K H a (ns.map V.bl) ∧ Z ns P := by
  unfold wBls at w
  split at w
  · obtain ⟨ns, h1, h2⟩ := w
    obtain ⟨a, us, rfl, h3, h4⟩ := one_list s i
    rw [bls_of h1] at h4
    rw [IsL.bls.mp h4] at h3
    exact ⟨a, ns, rfl, h3, h2⟩
  · exact w.elim
def wSum := wInts fun ns P => P (.fz (.int ns.sum))
def wMaxL := wInts fun ns P => 0 < ns.length ∧ ∀ m, m ∈ ns → (∀ y, y ∈ ns → y ≤ m) → P (.fz (.int m))
def wMinL := wInts fun ns P => 0 < ns.length ∧ ∀ m, m ∈ ns → (∀ y, y ∈ ns → m ≤ y) → P (.fz (.int m))
def wAll := wBls fun ns P => P (.fz (.bl (ns.all id)))
def wAny := wBls fun ns P => P (.fz (.bl (ns.any id)))
theorem cr_sumD : CRl K (rSum K) wSum := by
  intro e ρ F σ H vs ds Q P s i w k
  obtain ⟨a, ns, h1, h2, h3⟩ := ints_arg s i w
  exact ⟨a, ns, h1, h2, k F H _ _ s (Same.refl _) (Res.fz (by simp [Is])) h3⟩
theorem cr_maxD : CRl K (rMax K) wMaxL := by
  intro e ρ F σ H vs ds Q P s i w k
  obtain ⟨a, ns, h1, h2, h3, h4⟩ := ints_arg s i w
  exact ⟨a, ns, h1, h2, h3, fun m hm hy => k F H _ _ s (Same.refl _) (Res.fz (by simp [Is])) (h4 m hm hy)⟩
theorem cr_minD : CRl K (rMin K) wMinL := by
  intro e ρ F σ H vs ds Q P s i w k
  obtain ⟨a, ns, h1, h2, h3, h4⟩ := ints_arg s i w
  exact ⟨a, ns, h1, h2, h3, fun m hm hy => k F H _ _ s (Same.refl _) (Res.fz (by simp [Is])) (h4 m hm hy)⟩
theorem cr_allD : CRl K (rAll K) wAll := by
  intro e ρ F σ H vs ds Q P s i w k
  obtain ⟨a, ns, h1, h2, h3⟩ := bls_arg s i w
  exact ⟨a, ns, h1, h2, k F H _ _ s (Same.refl _) (Res.fz (by simp [Is])) h3⟩
theorem cr_anyD : CRl K (rAny K) wAny := by
  intro e ρ F σ H vs ds Q P s i w k
  obtain ⟨a, ns, h1, h2, h3⟩ := bls_arg s i w
  exact ⟨a, ns, h1, h2, k F H _ _ s (Same.refl _) (Res.fz (by simp [Is])) h3⟩
def wOneI (g : Int → Int) : List D → (DV → Prop) → Prop := fun ds P => match ds with
  | [.int i] => P (.fz (.int (g i)))
  | _ => False
def wTwoI (g : Int → Int → Int) : List D → (DV → Prop) → Prop := fun ds P => match ds with
  | [.int i, .int j] => P (.fz (.int (g i j)))
  | _ => False
def wAbs := wOneI fun i => if i < 0 then -i else i
def wMax2 := wTwoI fun i j => if j > i then j else i
def wMin2 := wTwoI fun i j => if j < i then j else i
theorem cr_absD : CRl K (fun xs H Q => ∃ i, xs = [.int i] ∧ Q (.int (if i < 0 then -i else i)) H) wAbs := by
  intro e ρ F σ H vs ds Q P s i w k
  unfold wAbs wOneI at w
  split at w
  · obtain ⟨v, rfl, iv⟩ := i.one_inv
    simp only [Is] at iv
    exact ⟨_, by rw [iv], k F H _ _ s (Same.refl _) (Res.fz (by simp [Is])) w⟩
  · exact w.elim
theorem two_ints {r : List V → Hp → VK → Prop} {g : Int → Int → Int} (h : ∀ (i j : Int) H (Q : VK), Q (.int (g i j)) H → r [.int i, .int j] H Q) : CRl K r (wTwoI g) := by
  intro e ρ F σ H vs ds Q P s i w k
  unfold wTwoI at w
  split at w
  · obtain ⟨v, u, rfl, iv, iu⟩ := i.two_inv
    simp only [Is] at iv iu
    subst iv iu
    exact h _ _ _ _ (k F H _ _ s (Same.refl _) (Res.fz (by simp [Is])) w)
  · exact w.elim
theorem cr_max2D : CRl K (fun xs H Q => ∃ i j, xs = [.int i, .int j] ∧ Q (.int (if j > i then j else i)) H) wMax2 := two_ints fun i j _ _ q => ⟨i, j, rfl, q⟩
theorem cr_min2D : CRl K (fun xs H Q => ∃ i j, xs = [.int i, .int j] ∧ Q (.int (if j < i then j else i)) H) wMin2 := two_ints fun i j _ _ q => ⟨i, j, rfl, q⟩
def wInt1 : List D → (DV → Prop) → Prop := fun ds P => match ds with
  | [.int i] => P (.fz (.int i))
  | [.bl b] => P (.fz (.int (if b then 1 else 0)))
  | _ => False
theorem cr_int1D : CRl K (fun xs H Q => (∃ i, xs = [.int i] ∧ Q (.int i) H) ∨ ∃ k, xs = [.bl k] ∧ Q (.int (if k then 1 else 0)) H) wInt1 := by
  intro e ρ F σ H vs ds Q P s i w k
  unfold wInt1 at w
  split at w
  · obtain ⟨v, rfl, iv⟩ := i.one_inv
    simp only [Is] at iv
    exact .inl ⟨_, by rw [iv], k F H _ _ s (Same.refl _) (Res.fz (by simp [Is])) w⟩
  · obtain ⟨v, rfl, iv⟩ := i.one_inv
    simp only [Is] at iv
    exact .inr ⟨_, by rw [iv], k F H _ _ s (Same.refl _) (Res.fz (by simp [Is])) w⟩
  · exact w.elim
def wListOf : List D → (DV → Prop) → Prop := fun ds P => match ds with
  | [.lst l] => P (.mu true (.lst l))
  | [.scr l] => P (.mu true (.lst l))
  | [.tup l] => P (.mu true (.lst l))
  | _ => False
theorem cr_listOf : CRl K (fun xs H Q => ∃ p ys, xs = [.ref p] ∧ (SqL K H p ys ∨ SqT K H p ys) ∧ ∀ l, H l = none → Q (.ref l) (upd H l (.lst ys))) wListOf := by
  intro e ρ F σ H vs ds Q P s i w k
  unfold wListOf at w
  split at w
  all_goals try exact w.elim
  all_goals
    obtain ⟨v, rfl, iv⟩ := i.one_inv
    simp only [Is] at iv
    obtain ⟨a, us, rfl, h1, h2⟩ := iv
    refine ⟨a, us, rfl, ?_, fun l hl => ?_⟩
  · exact .inl (SqL.of (s.fh _ _ h1))
  · obtain ⟨s2, r2⟩ := s.alloc (o := .lst us) (c := .lst _) hl ⟨_, rfl, h2⟩
    exact k _ _ _ _ s2 (Same.refl _) r2 w
  · exact .inl (Same.seq s.fh h1)
  · obtain ⟨s2, r2⟩ := s.alloc (o := .lst us) (c := .lst _) hl ⟨_, rfl, h2⟩
    exact k _ _ _ _ s2 (Same.refl _) r2 w
  · exact .inr (Same.seqT s.fh h1)
  · obtain ⟨s2, r2⟩ := s.alloc (o := .lst us) (c := .lst _) hl ⟨_, rfl, h2⟩
    exact k _ _ _ _ s2 (Same.refl _) r2 w
def wTupleOf : List D → (DV → Prop) → Prop := fun ds P => match ds with
  | [.lst l] => P (.fz (.tup l))
  | [.scr l] => P (.fz (.tup l))
  | [.tup l] => P (.fz (.tup l))
  | _ => False
theorem cr_tupleOf : CRl K (fun xs H Q => ∃ p ys, xs = [.ref p] ∧ ((SqL K H p ys ∧ ∀ l, H l = none → Q (.ref l) (upd H l (.tup ys))) ∨ (SqT K H p ys ∧ Q (.ref p) H))) wTupleOf := by
  intro e ρ F σ H vs ds Q P s i w k
  unfold wTupleOf at w
  split at w
  all_goals try exact w.elim
  all_goals
    obtain ⟨v, rfl, iv⟩ := i.one_inv
    simp only [Is] at iv
    obtain ⟨a, us, rfl, h1, h2⟩ := iv
    refine ⟨a, us, rfl, ?_⟩
  · refine .inl ⟨SqL.of (s.fh _ _ h1), fun l hl => ?_⟩
    obtain ⟨s2, m2⟩ := s.allocT (o := .tup us) hl
    refine k _ _ _ _ s2 m2 (Res.fz ?_) w
    simp only [Is]; exact ⟨l, us, rfl, SqT.of upd_same, h2.mono m2⟩
  · refine .inl ⟨Same.seq s.fh h1, fun l hl => ?_⟩
    obtain ⟨s2, m2⟩ := s.allocT (o := .tup us) hl
    refine k _ _ _ _ s2 m2 (Res.fz ?_) w
    simp only [Is]; exact ⟨l, us, rfl, SqT.of upd_same, h2.mono m2⟩
  · refine .inr ⟨Same.seqT s.fh h1, k F H _ _ s (Same.refl _) (Res.fz ?_) w⟩
    simp only [Is]; exact ⟨a, us, rfl, h1, h2⟩
/-- the kinds of data -/
def D.cls : D → String
  | .non => "NoneType"
  | .bl _ => "bool"
  | .int _ => "int"
  | .str _ => "str"
  | .lst _ => "list"
  | .scr _ => "list"
  | .tup _ => "tuple"
  | .dk _ _ => "dict"
  | .dt _ _ => "dict"
  | .ty _ => ""
  | .adr _ => ""
  | .ins _ _ _ => ""
  | .exc _ _ _ _ _ => ""
  | .cn _ => ""
def D.plain : D → Bool
  | .non | .bl _ | .int _ | .str _ | .lst _ | .tup _ | .dk _ _ | .dt _ _ | .scr _ => true
  | _ => false
theorem tyX_of {F H : Hp} (m : Same F H) {d : D} {v : V} (h : Is K F d v) (p : d.plain = true) : TyX K H v (.type d.cls) := by
  cases d <;> simp only [Is] at h <;> simp only [D.plain] at p <;> try cases p
  case non => subst h; exact .base .non
  case bl => subst h; exact .base (.bl _)
  case int => subst h; exact .base (.int _)
  case str => subst h; exact .base (.str _)
  case lst => obtain ⟨a, us, rfl, h1, h2⟩ := h; exact .base (.lst (m _ _ h1))
  case scr =>
    obtain ⟨a, us, rfl, h1, h2⟩ := h
    rcases h1 with (h1 | ⟨o, h1⟩) | ⟨o, its, n, h1, h3, _⟩
    · exact .base (.lst (m _ _ h1))
    · exact .base (.frz (m _ _ h1))
    · exact .kList h1 h3
  case tup =>
    obtain ⟨a, us, rfl, h1, h2⟩ := h
    rcases h1 with (h1 | ⟨o, h1⟩) | ⟨o, its, n, h1, h3, _⟩
    · exact .base (.tup (m _ _ h1))
    · exact .fTuple (m _ _ h1)
    · exact .kTuple h1 h3
  case dk => obtain ⟨a, us, rfl, h1, h2⟩ := h; exact .base (.dK (m _ _ h1))
  case dt => obtain ⟨a, us, rfl, h1, h2⟩ := h; exact .base (.dT (m _ _ h1))
/-- the built-in classes that are asked for -/
inductive Ty where
  | int | bool | tuple | list | str
def Ty.nm : Ty → String
  | .int => "int"
  | .bool => "bool"
  | .tuple => "tuple"
  | .list => "list"
  | .str => "str"
def D.isT : D → Ty → Bool
  | .int _, .int => true
  | .bl _, .int => true
  | .bl _, .bool => true
  | .tup _, .tuple => true
  | .lst _, .list => true
  | .scr _, .list => true
  | .str _, .str => true
  | _, _ => false
theorem kits : ∀ a ∈ ["NoneType", "bool", "int", "str", "list", "tuple", "dict"], ∀ b ∈ ["bool", "int", "str", "list", "tuple"], kitB a b = some (a == b || (a == "bool" && b == "int")) := by decide +kernel
theorem kit_is {d : D} (t : Ty) (hp : d.plain = true) : kitB d.cls t.nm = some (d.isT t) := by
  have h := kits d.cls (by cases d <;> first | (simp [D.cls]; done) | simp [D.plain] at hp) t.nm (by cases t <;> simp [Ty.nm])
  rw [h]
  cases d <;> cases t <;> first | rfl | simp [D.plain] at hp
def wIsi (t : Ty) : List D → (DV → Prop) → Prop := fun ds P => match ds with
  | [d, .ty n] => n = t.nm ∧ d.plain = true ∧ P (.fz (.bl (d.isT t)))
  | _ => False
theorem cr_isi {t : Ty} : CRl K (rIsi K) (wIsi t) := by
  intro e ρ F σ H vs ds Q P s i w k
  unfold wIsi at w
  split at w
  · rename_i d n
    obtain ⟨v, u, rfl, iv, iu⟩ := i.two_inv
    simp only [Is] at iu
    subst iu
    obtain ⟨rfl, w1, w2⟩ := w
    exact ⟨v, _, _, _, _, rfl, .ty _, tyX_of s.fh iv w1, kit_ty (kit_is t w1), k F H _ _ s (Same.refl _) (Res.fz (by simp [Is])) w2⟩
  · exact w.elim
end
end L2.DL

/-! # DLd.lean -/
set_option Elab.async false
set_option linter.all false
set_option maxRecDepth 100000
namespace L2.DL
open PySem PySem.Spec PyProof.Rows

/-! ## targets -/
abbrev WG := D → DEnv → (DEnv → Prop) → Prop
abbrev WGs := List D → DEnv → (DEnv → Prop) → Prop
def cG (K : PySem.W.Frag) (vs : List Nat) (g : WG) : TG := fun v σ H Q => ∃ e ρ F d P, Sg K e ρ F σ H ∧ Is K F d v ∧ g d ρ P ∧
  ∀ ρ' F' σ' H', Sg K e ρ' F' σ' H' → Same F F' → wipe σ' vs = wipe σ vs → P ρ' → Q σ' H'
def cGs (K : PySem.W.Frag) (vs : List Nat) (g : WGs) : TGs := fun us σ H Q => ∃ e ρ F ds P, Sg K e ρ F σ H ∧ IsL K F ds us ∧ g ds ρ P ∧
  ∀ ρ' F' σ' H', Sg K e ρ' F' σ' H' → Same F F' → wipe σ' vs = wipe σ vs → P ρ' → Q σ' H'
abbrev JG (X : Cx) (vs : List Nat) (t : Expr) (g : WG) : Prop := PG X t (cG X.K vs g)
abbrev JGs (X : Cx) (vs : List Nat) (t : List Expr) (g : WGs) : Prop := PGs X t (cGs X.K vs g)
theorem PG.wk {X : Cx} {e : Expr} {t t' : TG} (h : PG X e t) (i : ∀ v σ H Q, t' v σ H Q → t v σ H Q) : PG X e t' := ⟨fun pins s σ H v u Q I r q => h.run pins s σ H v u Q I r (i v σ H Q q)⟩
theorem PGs.wk {X : Cx} {e : List Expr} {t t' : TGs} (h : PGs X e t) (i : ∀ v σ H Q, t' v σ H Q → t v σ H Q) : PGs X e t' := ⟨fun pins s σ H v u Q I r q => h.run pins s σ H v u Q I r (i v σ H Q q)⟩
theorem wipe_set {σ : St} {i : Nat} {x : Option V} : ∀ {vs : List Nat}, i ∈ vs → wipe (σ.set i x) vs = wipe σ vs
  | [], h => by simp at h
  | v :: vs, h => by
    unfold wipe
    by_cases hv : i = v
    · subst hv
      by_cases hm : i ∈ vs
      · rw [wipe_set hm]
      · have : ∀ vs : List Nat, i ∉ vs → wipe (σ.set i x) vs = (wipe σ vs).set i x := by
          intro vs
          induction vs with
          | nil => intro _; rfl
          | cons w ws ih =>
            intro hw
            simp only [List.mem_cons, not_or] at hw
            unfold wipe
            rw [ih hw.2, List.set_comm _ _ hw.1]
        rw [this vs hm, List.set_set]
    · have hm : i ∈ vs := by
        rcases List.mem_cons.mp h with z | z
        · exact absurd z hv
        · exact z
      rw [wipe_set hm]
theorem wipe_wipe {σ : St} {vs : List Nat} : wipe (wipe σ vs) vs = wipe σ vs := by
  apply List.ext_getElem?
  intro j
  by_cases hj : j ∈ vs
  · have e : ∀ σ : St, (wipe σ vs)[j]? = (σ[j]?).map fun _ => none := by
      intro σ
      induction vs with
      | nil => simp at hj
      | cons w ws ih =>
        unfold wipe
        by_cases hw : w = j
        · subst hw
          rw [List.getElem?_set]
          have hl := wipe_length σ ws
          by_cases hlt : w < σ.length
          · rw [if_pos rfl, if_pos (by omega), List.getElem?_eq_getElem hlt]; rfl
          · rw [if_pos rfl, if_neg (by omega), List.getElem?_eq_none (by omega)]; rfl
        · rw [List.getElem?_set_ne hw]
          exact ih (by rcases List.mem_cons.mp hj with z | z; exact absurd z.symm hw; exact z)
    rw [e, e]; cases σ[j]? <;> rfl
  · rw [wipe_out hj]
section
variable {X : Cx} {vs : List Nat} {pos : Pos}
def wgName (i : Nat) : WG := fun d ρ P => P (ρ.set i (some (.fz d)))
theorem jg_name {i : Nat} {x : Str} (hv : i ∈ vs) (h : PG X (.Name x pos) (gName i)) : JG X vs (.Name x pos) (wgName i) := by
  refine PG.wk h fun v σ H Q h => ?_
  obtain ⟨e, ρ, F, d, P, s, hd, w, k⟩ := h
  exact k _ F _ H (s.set (Res.fz hd)) (Same.refl _) (wipe_set hv) w
def wgNil : WGs := fun ds ρ P => match ds with
  | [] => P ρ
  | _ => False
def wgCons (g : WG) (r : WGs) : WGs := fun ds ρ P => match ds with
  | d :: ds => g d ρ fun ρ1 => r ds ρ1 P
  | [] => False
theorem jgs_nil : JGs X vs [] wgNil := by
  refine PGs.wk pgs_nil fun v σ H Q h => ?_
  obtain ⟨e, ρ, F, ds, P, s, hd, w, k⟩ := h
  cases ds with
  | nil => simp only [IsL] at hd; exact ⟨hd, k _ F _ H s (Same.refl _) rfl w⟩
  | cons => exact w.elim
theorem jgs_cons {t : Expr} {ts : List Expr} {g : WG} {r : WGs} (h1 : JG X vs t g) (h2 : JGs X vs ts r) (hs : (assignEach (t :: ts) X.env).map (·.2) = assign t X.env :: (assignEach ts X.env).map (·.2) := by rfl) : JGs X vs (t :: ts) (wgCons g r) := by
  refine PGs.wk (pgs_cons h1 h2 hs) fun us σ H Q h => ?_
  obtain ⟨e, ρ, F, ds, P, s, hd, w, k⟩ := h
  cases ds with
  | nil => exact w.elim
  | cons d ds =>
    simp only [IsL] at hd
    obtain ⟨v, us', rfl, h3, h4⟩ := hd
    refine ⟨v, us', rfl, e, ρ, F, d, _, s, h3, w, fun ρ1 F1 σ1 H1 s1 m1 e1 w1 => ?_⟩
    exact ⟨e, ρ1, F1, ds, P, s1, h4.mono m1, w1, fun ρ2 F2 σ2 H2 s2 m2 e2 p2 => k ρ2 F2 σ2 H2 s2 (m1.trans m2) (e2.trans e1) p2⟩
def wgTup (n : Nat) (g : WGs) : WG := fun d ρ P => match d with
  | .tup ds => ds.length = n ∧ g ds ρ P
  | _ => False
theorem jg_tup {es : List Expr} {k : Nat} {g : WGs} {n : Nat} (hc : X.calm = true) (h : JGs X vs es g) (hn : (assignEach es X.env).length = n := by rfl) (hst : (assignEach es X.env).findIdx? (·.1) = none := by rfl) : JG X vs (.Tuple es k pos) (wgTup n g) := by
  refine PG.wk (pg_tup hc h hn hst) fun v σ H Q h => ?_
  obtain ⟨e, ρ, F, d, P, s, hd, w, k⟩ := h
  cases d <;> try exact w.elim
  simp only [Is] at hd
  obtain ⟨a, us, rfl, h1, h2⟩ := hd
  exact ⟨a, us, rfl, Same.seqT s.fh h1, by rw [← h2.len]; exact w.1, e, ρ, F, _, P, s, h2, w.2, k⟩
end

/-! ## what is walked -/
abbrev WI := EXt → DEnv → (List D → DEnv → Prop) → Prop
structure WalkD (K : PySem.W.Frag) (e : Ent) (F : Hp) (G : Hp → Prop) (Y : Nat → Hp → V → Hp → Prop) (xs : List D) : Prop where
  stay : ∀ e' ρ F2 σ H, Sg K e' ρ F2 σ H → Same F F2 → (∀ p, p ∈ e.pn → p ∈ e'.pn) → G H
  item : ∀ i H x H', i < xs.length → G H → Y i H x H' → (H' = H ∧ ∃ d, xs[i]? = some d ∧ Is K F d x) ∨ (∃ T vs ds, x = .ref T ∧ H T = none ∧ H' = upd H T (.tup vs) ∧ xs[i]? = some (.tup ds) ∧ IsL K F ds vs)
def cI (K : PySem.W.Frag) (Wx : WX) (W : WI) : TI := fun σ H R => ∃ e ρ F EX P, Sg K e ρ F σ H ∧ W EX ρ P ∧ Hx K Wx e EX ∧
  ∀ F' H' xs ρ' J n G Y, Sg K e ρ' F' σ H' → Same F F' → P xs ρ' → Walk J n G Y → n = xs.length → WalkD K e F' G Y xs → R J H'
abbrev JI (X : Cx) (Wx : WX) (tg it : Expr) (W : WI) : Prop := PI X tg it (cI X.K Wx W)
theorem PI.wk {X : Cx} {tg it : Expr} {t t' : TI} (h : PI X tg it t) (i : ∀ σ H Q, t' σ H Q → t σ H Q) : PI X tg it t' := ⟨fun pins s σ H R I q => h.run pins s σ H R I (i σ H R q)⟩
/-- the item of a turn, in the state of the turn -/
theorem WalkD.at {K : PySem.W.Frag} {e0 e : Ent} {F F2 : Hp} {G : Hp → Prop} {Y : Nat → Hp → V → Hp → Prop} {xs : List D} {ρ : DEnv} {σ : St} {i : Nat} {H H' : Hp} {x : V} (wd : WalkD K e0 F G Y xs) (s : Sg K e ρ F2 σ H) (m : Same F F2) (g : G H) (hi : i < xs.length) (y : Y i H x H') :
    ∃ F3, Sg K e ρ F3 σ H' ∧ Same F2 F3 ∧ Is K F3 xs[i] x := by
  have hx : xs[i]? = some xs[i] := List.getElem?_eq_getElem hi
  rcases wd.item i H x H' hi g y with ⟨rfl, d, h1, h2⟩ | ⟨T, vs, ds, rfl, h1, rfl, h2, h3⟩
  · rw [hx] at h1; cases h1
    exact ⟨F2, s, Same.refl _, h2.mono m⟩
  · rw [hx] at h2
    obtain ⟨s2, m2⟩ := s.allocT (o := .tup vs) h1
    refine ⟨_, s2, m2, ?_⟩
    rw [Option.some.inj h2]
    simp only [Is]
    exact ⟨T, vs, rfl, SqT.of upd_same, h3.mono (m.trans m2)⟩
section
variable {X : Cx} {Wx : WX} {tg it : Expr} {Wt : WE} {Wa : WA} {pos p tpos : Pos}
def wItL (W : WE) : WI := fun EX ρ P => W EX ρ fun dv ρ1 => dv.thn fun d => match d with
  | .lst ds => P ds ρ1
  | .scr ds => P ds ρ1
  | _ => False
def wItT (W : WE) : WI := fun EX ρ P => W EX ρ fun dv ρ1 => dv.thn fun d => match d with
  | .tup ds => P ds ρ1
  | _ => False
theorem walkD_seq {K : PySem.W.Frag} {e : Ent} {F : Hp} {G : Hp → Prop} {ds : List D} {us : List V} (h2 : IsL K F ds us) (hG : ∀ F2 H, Same F F2 → Same F2 H → G H) : WalkD K e F G (YAt us) ds where
  stay := fun e' ρ F2 σ H s m _ => hG F2 H m s.fh
  item := fun i H x H' hi g y => by
    obtain ⟨rfl, y⟩ := y
    exact .inl ⟨rfl, h2.get' y⟩
theorem ji_list (h : JE X Wx it Wt) : JI X Wx tg it (wItL Wt) := by
  refine PI.wk (pi_list h) fun σ H R h => ?_
  obtain ⟨e, ρ, F, EX, P, s, w0, hx, k⟩ := h
  refine ⟨e, ρ, F, EX, _, s, w0, hx, fun F1 H1 v1 d1 ρ1 s1 m1 r1 q1 => ?_⟩
  obtain ⟨F1', a1, s1', m1', i1, q1'⟩ := s1.data r1 q1
  cases a1 <;> try exact q1'.elim
  all_goals
    simp only [Is] at i1
    obtain ⟨a, us, rfl, h1, h2⟩ := i1
  · exact ⟨a, rfl, ⟨us, SqL.of (s1'.fh _ _ h1)⟩, k F1' H1 _ ρ1 _ _ _ _ s1' (m1.trans m1') q1' (walk_list (xs := us)) h2.len.symm (walkD_seq h2 fun F2 H m f => SqL.of (f _ _ (m _ _ h1)))⟩
  · exact ⟨a, rfl, ⟨us, Same.seq s1'.fh h1⟩, k F1' H1 _ ρ1 _ _ _ _ s1' (m1.trans m1') q1' (walk_list (xs := us)) h2.len.symm (walkD_seq h2 fun F2 H m f => Same.seq f (Same.seq m h1))⟩
theorem ji_tup (h : JE X Wx it Wt) : JI X Wx tg it (wItT Wt) := by
  refine PI.wk (pi_tup h) fun σ H R h => ?_
  obtain ⟨e, ρ, F, EX, P, s, w0, hx, k⟩ := h
  refine ⟨e, ρ, F, EX, _, s, w0, hx, fun F1 H1 v1 d1 ρ1 s1 m1 r1 q1 => ?_⟩
  obtain ⟨F1', a1, s1', m1', i1, q1'⟩ := s1.data r1 q1
  cases a1 <;> try exact q1'.elim
  simp only [Is] at i1
  obtain ⟨a, us, rfl, h1, h2⟩ := i1
  exact ⟨a, rfl, ⟨us, Same.seqT s1'.fh h1⟩, k F1' H1 _ ρ1 _ _ _ _ s1' (m1.trans m1') q1' (walk_tup (xs := us)) h2.len.symm (walkD_seq h2 fun F2 H m f => Same.seqT f (Same.seqT m h1))⟩
/-- lo, lo + c, .. -/
def rngD (lo c : Int) (n : Nat) : List D := (List.range n).map fun i : Nat => D.int (lo + i * c)
theorem rngD_len (lo c : Int) (n : Nat) : (rngD lo c n).length = n := by simp [rngD]
theorem rngD_get (lo c : Int) (n i : Nat) (h : i < (rngD lo c n).length) : (rngD lo c n)[i] = D.int (lo + i * c) := by simp [rngD]
theorem walkD_range {K : PySem.W.Frag} {e : Ent} {F : Hp} {lo : Int} {n : Nat} : WalkD K e F (fun _ => True) (YFn fun i => .int (lo + i)) (rngD lo 1 n) where
  stay := fun _ _ _ _ _ _ _ _ => trivial
  item := fun i H x H' hi _ y => by
    obtain ⟨rfl, rfl⟩ := y
    refine .inl ⟨rfl, _, List.getElem?_eq_getElem hi, ?_⟩
    rw [rngD_get]; simp only [Is, Int.mul_one]
theorem walkD_rangeC {K : PySem.W.Frag} {e : Ent} {F : Hp} {lo c : Int} {n : Nat} : WalkD K e F (fun _ => True) (YFn fun i => .int (lo + (i : Nat) * c)) (rngD lo c n) where
  stay := fun _ _ _ _ _ _ _ _ => trivial
  item := fun i H x H' hi _ y => by
    obtain ⟨rfl, rfl⟩ := y
    refine .inl ⟨rfl, _, List.getElem?_eq_getElem hi, ?_⟩
    rw [rngD_get]; simp only [Is]
def wRng1 (Wa : WA) : WI := fun EX ρ P => Wa EX ρ fun ds ρ1 => match ds with
  | [.int j] => -(2 ^ 62) ≤ j ∧ j < 2 ^ 62 ∧ P (rngD 0 1 j.toNat) ρ1
  | _ => False
def wRng2 (Wa : WA) : WI := fun EX ρ P => Wa EX ρ fun ds ρ1 => match ds with
  | [.int i, .int j] => (-(2 ^ 62) ≤ i ∧ i < 2 ^ 62 ∧ -(2 ^ 62) ≤ j ∧ j < 2 ^ 62) ∧ P (rngD i 1 (j - i).toNat) ρ1
  | _ => False
def wRng3 (Wa : WA) : WI := fun EX ρ P => Wa EX ρ fun ds ρ1 => match ds with
  | [.int i, .int j, .int c] => ∃ n, RgC i j c n ∧ P (rngD i c n) ρ1
  | _ => False
theorem ji_range1 {a : Expr} (hg : Gl X "range") (hm : X.mg "range" = none) (ha : JA X Wx [a] Wa) (hs : starEach [a] X.env = [(false, eval a X.env)] := by rfl) : JI X Wx tg (.Call (.Name "range" p) [a] [] pos) (wRng1 Wa) := by
  refine PI.wk (pi_range1 hg hm ha hs) fun σ H R h => ?_
  obtain ⟨e, ρ, F, EX, P, s, w0, hx, k⟩ := h
  refine ⟨e, ρ, F, EX, _, s, w0, hx, fun F1 H1 vs ds ρ1 s1 m1 r1 q1 => ?_⟩
  split at q1
  · obtain ⟨v, rfl, iv⟩ := r1.one_inv
    simp only [Is] at iv
    exact ⟨_, by rw [iv], q1.1, q1.2.1, k F1 H1 _ ρ1 _ _ _ _ s1 m1 q1.2.2 walk_range (rngD_len _ _ _).symm walkD_range⟩
  · exact q1.elim
theorem ji_range2 {a b : Expr} (hg : Gl X "range") (hm : X.mg "range" = none) (ha : JA X Wx [a, b] Wa) (hs : starEach [a, b] X.env = [(false, eval a X.env), (false, eval b X.env)] := by rfl) (hs2 : starEach [b] X.env = [(false, eval b X.env)] := by rfl) :
    JI X Wx tg (.Call (.Name "range" p) [a, b] [] pos) (wRng2 Wa) := by
  refine PI.wk (pi_range2 hg hm ha hs hs2) fun σ H R h => ?_
  obtain ⟨e, ρ, F, EX, P, s, w0, hx, k⟩ := h
  refine ⟨e, ρ, F, EX, _, s, w0, hx, fun F1 H1 vs ds ρ1 s1 m1 r1 q1 => ?_⟩
  split at q1
  · obtain ⟨v, u, rfl, iv, iu⟩ := r1.two_inv
    simp only [Is] at iv iu
    exact ⟨_, _, by rw [iv, iu], q1.1, k F1 H1 _ ρ1 _ _ _ _ s1 m1 q1.2 walk_range (rngD_len _ _ _).symm walkD_range⟩
  · exact q1.elim
theorem ji_range3 {a b c : Expr} (hg : Gl X "range") (hm : X.mg "range" = none) (ha : JA X Wx [a, b, c] Wa) (hs : starEach [a, b, c] X.env = (false, eval a X.env) :: starEach [b, c] X.env := by rfl) (hpl : (backTo pos (starEach [b, c] X.env)).any (·.1) = false := by rfl) :
    JI X Wx tg (.Call (.Name "range" p) [a, b, c] [] pos) (wRng3 Wa) := by
  refine PI.wk (pi_range3 hg hm ha hs hpl) fun σ H R h => ?_
  obtain ⟨e, ρ, F, EX, P, s, w0, hx, k⟩ := h
  refine ⟨e, ρ, F, EX, _, s, w0, hx, fun F1 H1 vs ds ρ1 s1 m1 r1 q1 => ?_⟩
  split at q1
  · simp only [IsL, Is] at r1
    obtain ⟨v, r, rfl, rfl, u, r', rfl, rfl, t, r'', rfl, rfl, rfl⟩ := r1
    obtain ⟨n, h1, h2⟩ := q1
    exact ⟨_, _, _, n, rfl, h1, k F1 H1 _ ρ1 _ _ _ _ s1 m1 h2 walk_rangeC (rngD_len _ _ _).symm walkD_rangeC⟩
  · exact q1.elim
/-- pairs of the place and the item -/
def enumD (ds : List D) : List D := ds.zipIdx.map fun x => .tup [.int (x.2 : Nat), x.1]
theorem enumD_len (ds : List D) : (enumD ds).length = ds.length := by simp [enumD]
theorem enumD_get (ds : List D) (i : Nat) (h : i < (enumD ds).length) : (enumD ds)[i] = .tup [.int (i : Nat), ds[i]'(by simpa [enumD] using h)] := by simp [enumD]
def wEnum (Wa : WA) : WI := fun EX ρ P => Wa EX ρ fun ds ρ1 => match ds with
  | [.lst l] => P (enumD l) ρ1
  | _ => False
theorem ji_enum {a : Expr} {elts : List Expr} {kk : Nat} (hg : Gl X "enumerate") (hm : X.mg "enumerate" = none) (ha : JA X Wx [a] Wa) (hs : starEach [a] X.env = [(false, eval a X.env)] := by rfl) :
    JI X Wx (.Tuple elts kk tpos) (.Call (.Name "enumerate" p) [a] [] pos) (wEnum Wa) := by
  refine PI.wk (pi_enum hg hm ha hs) fun σ H R h => ?_
  obtain ⟨e, ρ, F, EX, P, s, w0, hx, k⟩ := h
  refine ⟨e, ρ, F, EX, _, s, w0, hx, fun F1 H1 vs ds ρ1 s1 m1 r1 q1 => ?_⟩
  split at q1
  · obtain ⟨v, rfl, iv⟩ := r1.one_inv
    simp only [Is] at iv
    obtain ⟨a, us, rfl, h1, h2⟩ := iv
    refine ⟨a, us, rfl, SqL.of (s1.fh _ _ h1), k F1 H1 _ ρ1 _ _ _ _ s1 m1 q1 (walk_enum (xs := us)) (by rw [enumD_len, h2.len]) ⟨fun e' ρ' F2 σ' H' s' m' _ => SqL.of (s'.fh _ _ (m' _ _ h1)), fun i H x H' hi _ y => ?_⟩⟩
    obtain ⟨T, y1, y2, rfl, hT, rfl, e1, e2⟩ := y
    cases e1
    obtain ⟨d, h3, h4⟩ := h2.get' e2
    refine .inr ⟨T, _, [.int (i : Nat), d], rfl, hT, rfl, ?_, ?_⟩
    · rw [List.getElem?_eq_getElem hi, enumD_get]
      have := (List.getElem?_eq_some_iff.mp h3).2
      rw [this]
    · exact .cons (by simp [Is]) (.one h4)
  · exact q1.elim
/-- pairs of items -/
def zipD (xs ys : List D) : List D := (xs.zip ys).map fun x => .tup [x.1, x.2]
theorem zipD_len (xs ys : List D) : (zipD xs ys).length = min xs.length ys.length := by simp [zipD]
theorem zipD_get (xs ys : List D) (i : Nat) (h : i < (zipD xs ys).length) : (zipD xs ys)[i] = .tup [xs[i]'(by simp [zipD] at h; omega), ys[i]'(by simp [zipD] at h; omega)] := by simp [zipD]
def wZip (Wa : WA) : WI := fun EX ρ P => Wa EX ρ fun ds ρ1 => match ds with
  | [.lst l, .lst m] => P (zipD l m) ρ1
  | _ => False
theorem ji_zip {a b : Expr} {elts : List Expr} {kk : Nat} (hg : Gl X "zip") (hm : X.mg "zip" = none) (ha : JA X Wx [a, b] Wa) (hs : starEach [a, b] X.env = (false, eval a X.env) :: starEach [b] X.env := by rfl) (hpl : (backTo pos (starEach [b] X.env)).any (·.1) = false := by rfl) :
    JI X Wx (.Tuple elts kk tpos) (.Call (.Name "zip" p) [a, b] [] pos) (wZip Wa) := by
  refine PI.wk (pi_zip hg hm ha hs hpl) fun σ H R h => ?_
  obtain ⟨e, ρ, F, EX, P, s, w0, hx, k⟩ := h
  refine ⟨e, ρ, F, EX, _, s, w0, hx, fun F1 H1 vs ds ρ1 s1 m1 r1 q1 => ?_⟩
  split at q1
  · obtain ⟨v, u, rfl, iv, iu⟩ := r1.two_inv
    simp only [Is] at iv iu
    obtain ⟨a, us, rfl, h1, h2⟩ := iv
    obtain ⟨b, ws, rfl, h3, h4⟩ := iu
    refine ⟨a, b, us, ws, rfl, SqL.of (s1.fh _ _ h1), SqL.of (s1.fh _ _ h3), k F1 H1 _ ρ1 _ _ _ _ s1 m1 q1 (walk_zip (xs := us) (ys := ws) rfl) (by rw [zipD_len, h2.len, h4.len]) ⟨fun e' ρ' F2 σ' H' s' m' _ => ⟨SqL.of (s'.fh _ _ (m' _ _ h1)), SqL.of (s'.fh _ _ (m' _ _ h3))⟩, fun i H x H' hi _ y => ?_⟩⟩
    obtain ⟨T, y1, y2, rfl, hT, rfl, e1, e2⟩ := y
    obtain ⟨d, h5, h6⟩ := h2.get' e1
    obtain ⟨c, h7, h8⟩ := h4.get' e2
    refine .inr ⟨T, _, [d, c], rfl, hT, rfl, ?_, ?_⟩
    · rw [List.getElem?_eq_getElem hi, zipD_get]
      rw [(List.getElem?_eq_some_iff.mp h5).2, (List.getElem?_eq_some_iff.mp h7).2]
    · exact .cons h6 (.one h8)
  · exact q1.elim
def wRev (Wa : WA) : WI := fun EX ρ P => Wa EX ρ fun ds ρ1 => match ds with
  | [.lst l] => P l.reverse ρ1
  | _ => False
theorem ji_rev {a : Expr} (hg : Gl X "reversed") (hm : X.mg "reversed" = none) (ha : JA X Wx [a] Wa) (hs : starEach [a] X.env = [(false, eval a X.env)] := by rfl) : JI X Wx tg (.Call (.Name "reversed" p) [a] [] pos) (wRev Wa) := by
  refine PI.wk (pi_reversed hg hm ha hs) fun σ H R h => ?_
  obtain ⟨e, ρ, F, EX, P, s, w0, hx, k⟩ := h
  refine ⟨e, ρ, F, EX, _, s, w0, hx, fun F1 H1 vs ds ρ1 s1 m1 r1 q1 => ?_⟩
  split at q1
  · obtain ⟨v, rfl, iv⟩ := r1.one_inv
    simp only [Is] at iv
    obtain ⟨a, us, rfl, h1, h2⟩ := iv
    refine ⟨a, us, rfl, SqL.of (s1.fh _ _ h1), k F1 H1 _ ρ1 _ _ _ _ s1 m1 q1 (walk_rev (xs := us)) (by rw [List.length_reverse, h2.len]) ⟨fun e' ρ' F2 σ' H' s' m' _ => SqL.of (s'.fh _ _ (m' _ _ h1)), fun i H x H' hi _ y => ?_⟩⟩
    obtain ⟨rfl, y⟩ := y
    refine .inl ⟨rfl, ?_⟩
    obtain ⟨d, h5, h6⟩ := h2.get' y
    refine ⟨d, ?_, h6⟩
    rw [List.length_reverse] at hi
    rw [List.getElem?_reverse hi, h2.len]
    exact h5
  · exact q1.elim
end

/-! ## comprehensions -/
def wipeD (ρ : DEnv) : List Nat → DEnv
  | [] => ρ
  | v :: vs => (wipeD ρ vs).set v none
/-- behind a comprehension: its own slots as they were, where they hold data -/
def backD (ρ ρ' : DEnv) : List Nat → DEnv
  | [] => ρ'
  | v :: vs => (backD ρ ρ' vs).set v (match ρ[v]? with
    | some (some (.fz d)) => some (.fz d)
    | some (some (.lk p c)) => some (.lk p c)
    | _ => none)
def NX : EXt := fun _ _ _ => False
def NW : WX := fun _ _ _ _ => False
theorem Hx.never {K : PySem.W.Frag} {e : Ent} : Hx K NW e NX := fun _ _ _ _ _ _ _ _ _ _ _ _ _ h => h
theorem Sg.wipe {K : PySem.W.Frag} {e : Ent} {ρ : DEnv} {F : Hp} {σ : St} {H : Hp} (s : Sg K e ρ F σ H) : ∀ vs, Sg K e (wipeD ρ vs) F (L2.wipe σ vs) H
  | [] => s
  | v :: vs => by
    have s1 := Sg.wipe s vs
    unfold wipeD L2.wipe
    have hsub : ∀ (i : Nat) (dv : DV), ((wipeD ρ vs).set v none)[i]? = some (some dv) → i ≠ v ∧ (wipeD ρ vs)[i]? = some (some dv) := fun i dv h => by
      by_cases hv : v = i
      · subst hv
        by_cases hl : v < (wipeD ρ vs).length
        · rw [List.getElem?_set_self hl] at h; cases h
        · rw [List.getElem?_eq_none (by simpa using hl)] at h; cases h
      · rw [List.getElem?_set_ne hv] at h; exact ⟨fun z => hv z.symm, h⟩
    refine ⟨s1.fh, s1.st, by simp [s1.len], fun i dv h => ?_, fun i j dv dw v' a b c d g1 g2 => ?_, s1.pin⟩
    · obtain ⟨n, h'⟩ := hsub i dv h
      obtain ⟨w, w1, w2⟩ := s1.sl i dv h'
      exact ⟨w, by rw [List.getElem?_set_ne (Ne.symm n)]; exact w1, w2⟩
    · obtain ⟨n1, h1⟩ := hsub i dv a
      obtain ⟨n2, h2⟩ := hsub j dw b
      rw [List.getElem?_set_ne (Ne.symm n1)] at g1
      rw [List.getElem?_set_ne (Ne.symm n2)] at g2
      exact s1.ap i j dv dw v' h1 h2 c d g1 g2
/-- with one more pin -/
def Ent.pinned (e : Ent) (p : Addr) (o : HO) : Ent := { e with pn := (p, o) :: e.pn }
theorem Sg.topin {K : PySem.W.Frag} {e : Ent} {ρ : DEnv} {F : Hp} {σ : St} {H : Hp} {p : Addr} {o : HO} (s : Sg K e ρ F σ H) (h : H p = some o) (hf : F p = none) (he : e.H p = none)
    (nd : ∀ (i : Nat) (dw : DV), ρ[i]? = some (some dw) → dw.own = true → σ[i]? ≠ some (some (.ref p))) : Sg K (e.pinned p o) ρ F σ H where
  fh := s.fh
  st := s.st
  len := s.len
  sl := fun i dv q => by
    obtain ⟨v, a, b⟩ := s.sl i dv q
    refine ⟨v, a, ?_⟩
    cases dv with
    | fz d => exact b
    | lk r c =>
      obtain ⟨u, od, rfl, a1, a2⟩ := b
      exact ⟨u, od, rfl, List.mem_cons_of_mem _ a1, a2⟩
    | mu bb c =>
      obtain ⟨r, u, rfl, a1, a2, a3, a4, a5, a6⟩ := b
      refine ⟨r, u, rfl, a1, a2, a3, fun u' hu => ?_, a5, a6⟩
      rcases List.mem_cons.mp hu with z | z
      · cases z
        exact nd i _ q rfl a
      · exact a4 u' z
  ap := s.ap
  pin := fun r hr => by
    rcases List.mem_cons.mp hr with z | z
    · subst z; exact ⟨h, hf, he⟩
    · exact s.pin r z
theorem Sg.unpin {K : PySem.W.Frag} {e : Ent} {ρ : DEnv} {F : Hp} {σ : St} {H : Hp} {p : Addr} {o : HO} (s : Sg K (e.pinned p o) ρ F σ H) (ho : ∀ od u, o ≠ .frz od u := by intro _ _ z; cases z) : Sg K e ρ F σ H ∧ H p = some o ∧ F p = none ∧ e.H p = none ∧
    (∀ (i : Nat) (dw : DV), ρ[i]? = some (some dw) → dw.own = true → σ[i]? ≠ some (some (.ref p))) := by
  obtain ⟨a1, a2, a3⟩ := s.pin (p, o) List.mem_cons_self
  refine ⟨⟨s.fh, s.st, s.len, fun i dv q => ?_, s.ap, fun r hr => s.pin r (List.mem_cons_of_mem _ hr)⟩, a1, a2, a3, fun i dw h ho z => ?_⟩
  · obtain ⟨v, a, b⟩ := s.sl i dv q
    refine ⟨v, a, ?_⟩
    cases dv with
    | fz d => exact b
    | lk r c =>
      obtain ⟨u, od, rfl, a1, a2⟩ := b
      rcases List.mem_cons.mp a1 with z | z
      · cases z; exact absurd rfl (ho _ _)
      · exact ⟨u, od, rfl, z, a2⟩
    | mu bb c =>
      obtain ⟨r, u, rfl, a1, a2, a3, a4, a5, a6⟩ := b
      exact ⟨r, u, rfl, a1, a2, a3, fun u' hu => a4 u' (List.mem_cons_of_mem _ hu), a5, a6⟩
  · obtain ⟨v, a, b⟩ := s.sl i dw h
    rw [z] at a; cases a
    cases dw with
    | fz d => cases ho
    | lk _ c => cases ho
    | mu bb c =>
      obtain ⟨r, u, e1, _, _, _, a4, _, _⟩ := b
      cases e1
      exact a4 o List.mem_cons_self
/-- an object that no slot, no pin and no data knows is changed -/
theorem Sg.other {K : PySem.W.Frag} {e : Ent} {ρ : DEnv} {F : Hp} {σ : St} {H : Hp} {p : Addr} {o : HO} (s : Sg K e ρ F σ H) (hf : F p = none) (he : e.H p = none)
    (nd : ∀ (i : Nat) (dw : DV), ρ[i]? = some (some dw) → dw.own = true → σ[i]? ≠ some (some (.ref p))) (np : ∀ u, (p, u) ∉ e.pn) : Sg K e ρ F σ (upd H p o) where
  fh := fun b u h => by
    have : b ≠ p := fun z => by subst z; rw [hf] at h; cases h
    rw [upd_ne this]; exact s.fh _ _ h
  st := ⟨s.st.ff, fun q u h n => by
      have : q ≠ p := fun z => by subst z; rw [he] at h; cases h
      rw [upd_ne this]; exact s.st.keep q u h n, fun q u h => by
      have : q ≠ p := fun z => by subst z; rw [he] at h; cases h
      rw [upd_ne this]; exact s.st.there q u h, s.st.old⟩
  len := s.len
  sl := fun i dv q => by
    obtain ⟨v, a, b⟩ := s.sl i dv q
    refine ⟨v, a, ?_⟩
    cases dv with
    | fz d => exact b
    | lk _ c => exact b
    | mu bb c =>
      obtain ⟨r, u, rfl, a1, a2, a3, a4, a5, a6⟩ := b
      have : r ≠ p := fun z => nd i _ q rfl (by rw [a, z])
      exact ⟨r, u, rfl, a1, a2, a3, a4, by rw [upd_ne this]; exact a5, a6⟩
  ap := s.ap
  pin := fun r hr => by
    obtain ⟨a, b, c⟩ := s.pin r hr
    have : r.1 ≠ p := fun z => np r.2 (by rw [← z]; exact hr)
    exact ⟨by rw [upd_ne this]; exact a, b, c⟩
theorem back_get {ρ ρ' : DEnv} {j : Nat} {dv : DV} : ∀ {vs : List Nat}, (backD ρ ρ' vs)[j]? = some (some dv) → (j ∈ vs ∧ ρ[j]? = some (some dv) ∧ dv.own = false) ∨ (j ∉ vs ∧ ρ'[j]? = some (some dv))
  | [], h => .inr ⟨by simp, h⟩
  | v :: vs, h => by
    unfold backD at h
    by_cases hv : v = j
    · subst hv
      left
      by_cases hl : v < (backD ρ ρ' vs).length
      · rw [List.getElem?_set_self hl] at h
        have h := Option.some.inj h
        split at h
        · rename_i d hd
          cases h
          exact ⟨List.mem_cons_self, hd, rfl⟩
        · rename_i p d hd
          cases h
          exact ⟨List.mem_cons_self, hd, rfl⟩
        · cases h
      · rw [List.getElem?_eq_none (by simpa using hl)] at h; cases h
    · rw [List.getElem?_set_ne hv] at h
      rcases back_get h with ⟨a, b⟩ | ⟨a, b⟩
      · exact .inl ⟨List.mem_cons_of_mem _ a, b⟩
      · exact .inr ⟨by simp only [List.mem_cons, not_or]; exact ⟨fun z => hv z.symm, a⟩, b⟩
theorem back_len {ρ ρ' : DEnv} : ∀ {vs : List Nat}, (backD ρ ρ' vs).length = ρ'.length
  | [] => rfl
  | v :: vs => by unfold backD; rw [List.length_set, back_len]
/-- back in the def's own slots -/
theorem Sg.back {K : PySem.W.Frag} {e : Ent} {ρ ρ' : DEnv} {F F' : Hp} {σ : St} {H H' : Hp} {vs : List Nat} (s0 : Sg K e ρ F σ H) (m : Same F F') (s : Sg K e ρ' F' (L2.wipe σ vs) H') : Sg K e (backD ρ ρ' vs) F' σ H' := by
  refine ⟨s.fh, s.st, by rw [back_len, s.len, wipe_length], fun i dv h => ?_, fun i j dv dw v a b c d g1 g2 => ?_, s.pin⟩
  · rcases back_get h with ⟨h1, h2, h3⟩ | ⟨h1, h2⟩
    · obtain ⟨v, a, b⟩ := s0.sl i dv h2
      cases dv with
      | fz d => exact ⟨v, a, Is.mono m _ b⟩
      | lk r c =>
        obtain ⟨u, od, rfl, a1, a2⟩ := b
        exact ⟨_, a, u, od, rfl, a1, a2.mono m⟩
      | mu => cases h3
    · obtain ⟨v, a, b⟩ := s.sl i dv h2
      rw [wipe_out h1] at a
      exact ⟨v, a, b⟩
  · rcases back_get a with ⟨h1, h2, h3⟩ | ⟨h1, h2⟩
    · rw [h3] at c; cases c
    · rcases back_get b with ⟨h4, h5, h6⟩ | ⟨h4, h5⟩
      · rw [h6] at d; cases d
      · exact s.ap i j dv dw v h2 h5 c d (by rw [wipe_out h1]; exact g1) (by rw [wipe_out h4]; exact g2)
section
variable {X : Cx} {Wx : WX} {tg iter elt : Expr} {ifs : List Expr} {scope : Scope} {own : List (Str × Nat)} {Wi : WI} {g : WG} {Wt : WT} {We : WE} {pos : Pos}
structure LcP (xs : List D) (g : WG) (Wt : WT) (We : WE) (vs : List Nat) (ρ : DEnv) (P : DV → DEnv → Prop) : Prop where
  ex : ∃ I : Nat → List D → DEnv → Prop, (∃ ρ', Wk (wipeD ρ vs) ρ' ∧ I 0 [] ρ') ∧
    (∀ i acc ρ' (hi : i < xs.length), I i acc ρ' → g xs[i] ρ' fun ρ2 => Wt NX ρ2 fun b ρ3 => ift b (We NX ρ3 fun y ρ4 => y.thn fun d => acc.length < sizeLine ∧ ∃ ρ5, Wk (wipeD ρ4 vs) ρ5 ∧ I (i + 1) (acc ++ [d]) ρ5) (∃ ρ5, Wk (wipeD ρ3 vs) ρ5 ∧ I (i + 1) acc ρ5)) ∧
    ∀ acc ρ', I xs.length acc ρ' → P (.mu true (.lst acc)) (backD ρ ρ' vs)
def wLc (Wi : WI) (g : WG) (Wt : WT) (We : WE) (vs : List Nat) : WE := fun EX ρ P => Wi EX ρ fun xs ρ1 => LcP xs g Wt We vs ρ1 P
abbrev JTs (X : Cx) (Wx : WX) (ifs : List Expr) (W : WT) : Prop := PTs X ifs (cT X.K Wx W)
def wYes : WT := fun _ ρ P => P true ρ
theorem jts_nil : JTs X Wx [] wYes := ⟨fun pins s σ H Q I h => by
  obtain ⟨e, ρ, F, EX, P, s', w0, hx, k⟩ := h
  exact pts_nil.run pins s σ H Q I (k F H true ρ s' (Same.refl _) w0)⟩
theorem jts_one {c : Expr} {W : WT} (h : JT X Wx c W) : JTs X Wx [c] W := pts_one h
theorem cE_lc (vs : List Nat) (σ : St) (H : Hp) (Q : VK) (h : cE X.K Wx (wLc Wi g Wt We vs) σ H Q) : tLc (cI X.K Wx Wi) (cG X.K vs g) (cT X.K NW Wt) (cE X.K NW We) vs σ H Q := by
  obtain ⟨e, ρ, F, EX, P, s, w0, hx, k⟩ := h
  refine ⟨e, ρ, F, EX, _, s, w0, hx, fun F1 H1 xs ρ1 J n G Y s1 m1 q1 wk hn wd => ?_⟩
  obtain ⟨I, ⟨ρ0, wk0, i0⟩, iS, iE⟩ := q1.ex
  intro D hD
  obtain ⟨sD, rD⟩ := s1.alloc (o := .lst []) (c := .lst []) hD ⟨[], rfl, IsL.nil⟩
  -- the invariant: the new list stands apart
  let Pv : Nat → Hp → Prop := fun i H => ∃ acc us ρ' F2, I i acc ρ' ∧ Same F1 F2 ∧ IsL X.K F2 acc us ∧ Sg X.K (e.pinned D (.lst us)) ρ' F2 (L2.wipe σ vs) H
  refine lc_it (Qd := fun H => Q (.ref D) H) wk Pv ⟨[], [], ρ0, F1, i0, Same.refl _, IsL.nil, ?_⟩ ?_ ?_ ?_
  · refine Sg.wk (ρ := wipeD ρ1 vs) ?_ wk0
    refine (sD.wipe vs).topin upd_same (s1.free hD).1 (s1.free hD).2 fun i dw h ho z => ?_
    have := (sD.wipe vs).sl i dw h
    have z' := wipe_some z
    obtain ⟨w, a, b⟩ := this
    rw [z] at a; cases a
    cases dw with
    | fz d => cases ho
    | lk _ c => cases ho
    | mu bb c =>
      -- the slot's object is none of the new list
      have key : ∀ (vs : List Nat), (wipeD ρ1 vs)[i]? = some (some (.mu bb c)) → ρ1[i]? = some (some (.mu bb c)) := by
        intro vs
        induction vs with
        | nil => exact fun q => q
        | cons v vs ih =>
          intro q
          unfold wipeD at q
          by_cases hv : v = i
          · subst hv
            by_cases hl : v < (wipeD ρ1 vs).length
            · rw [List.getElem?_set_self hl] at q; cases q
            · rw [List.getElem?_eq_none (by simpa using hl)] at q; cases q
          · rw [List.getElem?_set_ne hv] at q; exact ih q
      exact rD.2 rfl i _ (key vs h) rfl z'.1
  · rintro i H2 hi ⟨acc, us, ρ', F2, _, m2, _, s2⟩
    obtain ⟨s2', _⟩ := s2.unpin
    exact wd.stay e ρ' F2 _ H2 s2' m2 fun _ h => h
  · rintro i x H2 H2' hi ⟨acc, us, ρ', F2, hI, m2, ia, s2⟩ y
    have hix : i < xs.length := by omega
    have hG : G H2 := wd.stay e ρ' F2 _ H2 s2.unpin.1 m2 fun _ h => h
    obtain ⟨F3, s3, m3, i3⟩ := wd.at s2 m2 hG hix y
    refine ⟨_, ρ', F3, _, _, s3, i3, iS i acc ρ' hix hI, fun ρ2 F4 σ2 H4 s4 m4 e4 q4 => ⟨by rw [e4, wipe_wipe], ?_⟩⟩
    have e4' : L2.wipe σ2 vs = L2.wipe σ vs := by rw [e4, wipe_wipe]
    refine ⟨_, ρ2, F4, NX, _, s4, q4, Hx.never, fun F5 H5 b ρ3 s5 m5 q5 => ?_⟩
    cases b with
    | false =>
      rw [if_neg (by decide)]
      obtain ⟨ρ5, wk5, q5'⟩ := q5
      refine ⟨acc, us, ρ5, F5, q5', (m2.trans m3).trans (m4.trans m5), ia.mono (m3.trans (m4.trans m5)), ?_⟩
      have := (s5.wipe vs).wk wk5
      rwa [e4'] at this
    | true =>
      rw [if_pos rfl]
      refine ⟨_, ρ3, F5, NX, _, s5, q5, Hx.never, fun F6 H6 v6 d6 ρ4 s6 m6 r6 q6 => ?_⟩
      obtain ⟨F7, a7, s7, m7, i7, q7⟩ := s6.data r6 q6
      obtain ⟨s8, h1, h2, h3, h4⟩ := s7.unpin
      have ia' : IsL X.K F7 acc us := ia.mono (m3.trans (m4.trans (m5.trans (m6.trans m7))))
      obtain ⟨q71, ρ5, wk5, q7'⟩ := q7
      refine ⟨us, h1, by rw [← ia'.len]; exact q71, acc ++ [a7], us ++ [v6], ρ5, F7, q7', (m2.trans m3).trans (m4.trans (m5.trans (m6.trans m7))), ia'.append (IsL.one i7), ?_⟩
      have np : ∀ u, (D, u) ∉ e.pn := fun u hu => rD.1.elim fun p hp => by
        obtain ⟨o, e1, _, _, _, h5, _⟩ := hp
        cases e1
        exact h5 u hu
      have s9 := (s8.other (o := .lst (us ++ [v6])) h2 h3 h4 np).topin upd_same h2 h3 h4
      have := (s9.wipe vs).wk wk5
      rwa [e4'] at this
  · rintro H2 ⟨acc, us, ρ', F2, hI, m2, ia, s2⟩
    obtain ⟨s3, h1, h2, h3, h4⟩ := s2.unpin
    have sb := Sg.back s1 m2 s3
    have hI' : I xs.length acc ρ' := by rw [← hn]; exact hI
    have np : ∀ u, (D, u) ∉ e.pn := fun u hu => by
      obtain ⟨p, o, e1, _, _, _, h5, _⟩ := rD.1
      cases e1
      exact h5 u hu
    refine k F2 H2 (.ref D) (.mu true (.lst acc)) _ sb (m1.trans m2) ⟨⟨D, .lst us, rfl, h2, fun _ => h3, (fun z => nomatch z), np, h1, us, rfl, ia⟩, fun _ i dw h ho z => ?_⟩ (iE acc ρ' hI')
    rcases back_get h with ⟨h5, h6, h7⟩ | ⟨h5, h6⟩
    · rw [h7] at ho; cases ho
    · exact h4 i dw h6 ho (by rw [wipe_out h5]; exact z)
end
end L2.DL

/-! # DLe.lean -/
set_option Elab.async false
set_option linter.all false
set_option maxRecDepth 100000
namespace L2.DL
open PySem PySem.Spec PyProof.Rows

section
variable {X : Cx} {Wx : WX} {tg iter elt : Expr} {ifs : List Expr} {scope : Scope} {own : List (Str × Nat)} {Wi : WI} {g : WG} {Wt : WT} {We : WE} {pos spos py : Pos}
theorem je_lc (hc : X.calm = true) (hN : X.N.Nodup) (hi : JI X Wx tg iter Wi) (ok : BlkOk X.N X.env.scope scope own)
    (hg : ∀ (s : Shared) (H : Hp) (C : Addr) (cl : List (Str × Addr)) (fp : List Addr), JG (X.blk s H scope (compEnvC scope cl C X.env) fp) (own.map (·.2)) tg g)
    (ht : ∀ (s : Shared) (H : Hp) (C : Addr) (cl : List (Str × Addr)) (fp : List Addr), JTs (X.blk s H scope (compEnvC scope cl C X.env) fp) NW ifs Wt)
    (he : ∀ (s : Shared) (H : Hp) (C : Addr) (cl : List (Str × Addr)) (fp : List Addr), JE (X.blk s H scope (compEnvC scope cl C X.env) fp) NW elt We) (hs : ∀ x, foldedSetIterable iter X.env x = pure x := by intro _; rfl) :
    JE X Wx (.ListComp elt [⟨tg, iter, ifs, 0⟩] scope pos) (wLc Wi g Wt We (own.map (·.2))) := PE.wk (pe_lc hc hN hi ok hg ht he hs) (cE_lc _)

/-! ## statements -/
structure DEnds where
  nx : DEnv → Prop
  rt : DV → DEnv → Prop
  bk : DEnv → Prop := fun _ => False
  ct : DEnv → Prop := fun _ => False
  ex : EXt := NX
abbrev WS := DEnds → DEnv → Prop
structure Rf (K : PySem.W.Frag) (Wx : WX) (e : Ent) (E : DEnds) (D : Ends) : Prop where
  nx : ∀ ρ F σ H, Sg K e ρ F σ H → E.nx ρ → D.nx σ H
  rt : ∀ ρ F σ H v dv, Sg K e ρ F σ H → Res K e F H ρ σ dv v → E.rt dv ρ → D.rt v H
  bk : ∀ ρ F σ H, Sg K e ρ F σ H → E.bk ρ → D.bk σ H
  ct : ∀ ρ F σ H, Sg K e ρ F σ H → E.ct ρ → D.ct σ H
  ex : Hx K Wx e E.ex
def cS (K : PySem.W.Frag) (Wx : WX) (W : WS) : TS := fun D σ H => ∃ e ρ F E, Sg K e ρ F σ H ∧ W E ρ ∧ Rf K Wx e E D
abbrev JS (X : Cx) (Wx : WX) (st : Stmt) (W : WS) : Prop := PS X st (cS X.K Wx W)
abbrev JSs (X : Cx) (Wx : WX) (st : List Stmt) (W : WS) : Prop := PSs X st (cS X.K Wx W)
theorem PS.wk {st : Stmt} {t t' : TS} (h : PS X st t) (i : ∀ D σ H, t' D σ H → t D σ H) : PS X st t' := ⟨fun pins s σ H D I q => h.run pins s σ H D I (i D σ H q)⟩
theorem PSs.wk {st : List Stmt} {t t' : TS} (h : PSs X st t) (i : ∀ D σ H, t' D σ H → t D σ H) : PSs X st t' := ⟨fun pins s σ H D I q => h.run pins s σ H D I (i D σ H q)⟩
theorem Rf.nxt {K : PySem.W.Frag} {e : Ent} {E : DEnds} {D : Ends} {N : DEnv → Prop} {N' : St → Hp → Prop} (r : Rf K Wx e E D) (h : ∀ ρ F σ H, Sg K e ρ F σ H → N ρ → N' σ H) : Rf K Wx e { E with nx := N } { D with nx := N' } :=
  ⟨h, r.rt, r.bk, r.ct, r.ex⟩
variable {st : Stmt} {rest a b body : List Stmt} {W W1 W2 : WS} {ex : Expr}
def wNext : WS := fun E ρ => E.nx ρ
def wSeq (W1 W2 : WS) : WS := fun E ρ => W1 { E with nx := W2 E } ρ
theorem jss_nil : JSs X Wx [] wNext := PSs.wk pss_nil fun D σ H h => by
  obtain ⟨e, ρ, F, E, s, w, r⟩ := h
  exact r.nx ρ F σ H s w
theorem jss_cons (h1 : JS X Wx st W1) (h2 : JSs X Wx rest W2) : JSs X Wx (st :: rest) (wSeq W1 W2) := PSs.wk (pss_cons h1 h2) fun D σ H h => by
  obtain ⟨e, ρ, F, E, s, w, r⟩ := h
  exact ⟨e, ρ, F, _, s, w, r.nxt fun ρ' F' σ' H' s' w' => ⟨e, ρ', F', E, s', w', r⟩⟩
theorem jss_one (h1 : JS X Wx st W1) : JSs X Wx [st] W1 := PSs.wk (pss_one h1) fun D σ H h => h
theorem js_pass : JS X Wx (.Pass pos) wNext := PS.wk ps_pass fun D σ H h => by
  obtain ⟨e, ρ, F, E, s, w, r⟩ := h
  exact r.nx ρ F σ H s w
def wBrk : WS := fun E ρ => E.bk ρ
def wCnt : WS := fun E ρ => E.ct ρ
theorem js_break : JS X Wx (.Break pos) wBrk := PS.wk ps_break fun D σ H h => by
  obtain ⟨e, ρ, F, E, s, w, r⟩ := h
  exact r.bk ρ F σ H s w
theorem js_continue : JS X Wx (.Continue pos) wCnt := PS.wk ps_continue fun D σ H h => by
  obtain ⟨e, ρ, F, E, s, w, r⟩ := h
  exact r.ct ρ F σ H s w
theorem js_never : JS X Wx st (fun _ _ => False) := PS.wk ps_never fun D σ H h => by
  obtain ⟨e, ρ, F, E, s, w, r⟩ := h
  exact w
theorem jss_never {sts : List Stmt} : JSs X Wx sts (fun _ _ => False) := PSs.wk pss_never fun D σ H h => by
  obtain ⟨e, ρ, F, E, s, w, r⟩ := h
  exact w
def wSet (i : Nat) (We : WE) : WS := fun E ρ => We E.ex ρ fun dv ρ1 => E.nx (ρ1.set i (some dv))
theorem cS_asg {i : Nat} {te : TE} (h0 : ∀ σ H Q, cE X.K Wx We σ H Q → te σ H Q) (D : Ends) (σ : St) (H : Hp) (h : cS X.K Wx (wSet i We) D σ H) : tAsg te (gName i) D σ H := by
  obtain ⟨e, ρ, F, E, s, w, r⟩ := h
  exact h0 _ _ _ ⟨e, ρ, F, E.ex, _, s, w, r.ex, fun F' H' v dv ρ' s' m r' p => r.nx _ F' _ H' (s'.set r') p⟩
theorem js_set {i : Nat} {x : Str} {pos' : Pos} (hN : X.N.Nodup) (hi : X.N[i]? = some x) (hx : Loc X.env.scope x) (he : JE X Wx ex We) (hs : swapsWith ex (some (.Name x pos')) pos.line X.env = pure false := by rfl) (hf : X.fn x = true ∨ X.env.scope.names.lookup x = some .local := by first | exact .inl rfl | exact .inr rfl | assumption) :
    JS X Wx (.Assign [.Name x pos'] ex pos) (wSet i We) := PS.wk (ps_set hN hi hx he hs hf) (cS_asg fun _ _ _ h => h)
theorem js_setLc {i : Nat} {y : Str} (hc : X.calm = true) (hN : X.N.Nodup) (hy : X.N[i]? = some y) (hyl : X.env.scope.names.lookup y = some .local)
    (hsw : swapsWith (.ListComp elt [⟨tg, iter, ifs, 0⟩] scope pos) (some (.Name y py)) spos.line X.env = pure true) (hi : JI X Wx tg iter Wi) (ok : BlkOk X.N X.env.scope scope own)
    (hg : ∀ (s : Shared) (H : Hp) (C : Addr) (cl : List (Str × Addr)) (fp : List Addr), JG (X.blk s H scope (compEnvC scope cl C X.env) fp) (own.map (·.2)) tg g)
    (ht : ∀ (s : Shared) (H : Hp) (C : Addr) (cl : List (Str × Addr)) (fp : List Addr), JTs (X.blk s H scope (compEnvC scope cl C X.env) fp) NW ifs Wt)
    (he : ∀ (s : Shared) (H : Hp) (C : Addr) (cl : List (Str × Addr)) (fp : List Addr), JE (X.blk s H scope (compEnvC scope cl C X.env) fp) NW elt We) (hs : ∀ x, foldedSetIterable iter X.env x = pure x := by intro _; rfl) :
    JS X Wx (.Assign [.Name y py] (.ListComp elt [⟨tg, iter, ifs, 0⟩] scope pos) spos) (wSet i (wLc Wi g Wt We (own.map (·.2)))) :=
  PS.wk (ps_setLc hc hN hy hyl hsw hi ok hg ht he hs) (cS_asg (cE_lc _))
def wExpr (We : WE) : WS := fun E ρ => We E.ex ρ fun _ ρ1 => E.nx ρ1
theorem js_expr (he : JE X Wx ex We) (hs : swapsWith ex none pos.line X.env = pure false := by rfl) : JS X Wx (.Expr ex pos) (wExpr We) := PS.wk (ps_expr he hs) fun D σ H h => by
  obtain ⟨e, ρ, F, E, s, w, r⟩ := h
  exact ⟨e, ρ, F, E.ex, _, s, w, r.ex, fun F' H' v dv ρ' s' m r' p => r.nx _ F' _ H' s' p⟩
def wRet (We : WE) : WS := fun E ρ => We E.ex ρ fun dv ρ1 => E.rt dv ρ1
theorem js_ret (he : JE X Wx ex We) : JS X Wx (.Return (some ex) pos) (wRet We) := PS.wk (ps_ret he) fun D σ H h => by
  obtain ⟨e, ρ, F, E, s, w, r⟩ := h
  exact ⟨e, ρ, F, E.ex, _, s, w, r.ex, fun F' H' v dv ρ' s' m r' p => r.rt _ F' _ H' v dv s' r' p⟩
def wRetN : WS := fun E ρ => E.rt (.fz .non) ρ
theorem js_retN : JS X Wx (.Return none pos) wRetN := PS.wk ps_retN fun D σ H h => by
  obtain ⟨e, ρ, F, E, s, w, r⟩ := h
  exact r.rt ρ F σ H _ _ s (Res.fz (by simp [Is])) w
def wIfS (Wt : WT) (W1 W2 : WS) : WS := fun E ρ => Wt E.ex ρ fun b ρ1 => ift b (W1 E ρ1) (W2 E ρ1)
theorem js_if (hc : JT X Wx ex Wt) (ha : JSs X Wx a W1) (hb : JSs X Wx b W2) : JS X Wx (.If ex a b pos) (wIfS Wt W1 W2) := PS.wk (ps_if hc ha hb) fun D σ H h => by
  obtain ⟨e, ρ, F, E, s, w, r⟩ := h
  refine ⟨e, ρ, F, E.ex, _, s, w, r.ex, fun F' H' bb ρ' s' m p => ?_⟩
  cases bb with
  | true => rw [if_pos rfl]; exact ⟨e, ρ', F', E, s', p, r⟩
  | false => rw [if_neg (by decide)]; exact ⟨e, ρ', F', E, s', p, r⟩
def wAsg (We : WE) (g : WG) : WS := fun E ρ => We E.ex ρ fun dv ρ1 => dv.thn fun d => g d ρ1 E.nx
theorem js_asg {vs : List Nat} {tgt : Expr} (h0 : PS X (.Assign [tgt] ex pos) (tAsg (cE X.K Wx We) (cG X.K vs g))) : JS X Wx (.Assign [tgt] ex pos) (wAsg We g) := PS.wk h0 fun D σ H h => by
  obtain ⟨e, ρ, F, E, s, w, r⟩ := h
  refine ⟨e, ρ, F, E.ex, _, s, w, r.ex, fun F' H' v dv ρ' s' m r' p => ?_⟩
  obtain ⟨F2, d, s2, m2, i2, p2⟩ := s'.data r' p
  exact ⟨e, ρ', F2, d, _, s2, i2, p2, fun ρ3 F3 σ3 H3 s3 m3 _ p3 => r.nx _ F3 _ H3 s3 p3⟩

/-! ### loops -/
structure ForP (xs : List D) (g : WG) (W : WS) (E : DEnds) (ρ : DEnv) : Prop where
  ex : ∃ I : Nat → DEnv → Prop, (∃ ρ', Wk ρ ρ' ∧ I 0 ρ') ∧
    (∀ i ρ' (hi : i < xs.length), I i ρ' → g xs[i] ρ' fun ρ2 => W { E with nx := fun ρ3 => ∃ ρ4, Wk ρ3 ρ4 ∧ I (i + 1) ρ4, ct := fun ρ3 => ∃ ρ4, Wk ρ3 ρ4 ∧ I (i + 1) ρ4, bk := E.nx } ρ2) ∧ ∀ ρ', I xs.length ρ' → E.nx ρ'
def wFor (Wi : WI) (g : WG) (W : WS) : WS := fun E ρ => Wi E.ex ρ fun xs ρ1 => ForP xs g W E ρ1
theorem js_for {vs : List Nat} (hp : PassesOwn (model X.prog X.w) X.A X.env X.xe) (hc : X.calm = true) (hi : JI X Wx tg iter Wi) (hg : JG X vs tg g) (hb : JSs X Wx body W) (hs : ∀ x, foldedSetIterable iter X.env x = pure x := by intro _; rfl) :
    JS X Wx (.For tg iter body [] pos) (wFor Wi g W) := PS.wk (ps_for hp hc hi hg hb hs) fun D σ H h => by
  obtain ⟨e, ρ, F, E, s, w, r⟩ := h
  refine ⟨e, ρ, F, E.ex, _, s, w, r.ex, fun F1 H1 xs ρ1 J n G Y s1 m1 q1 wk hn wd => ?_⟩
  obtain ⟨I, ⟨ρ0, wk0, i0⟩, iS, iE⟩ := q1.ex
  refine for_it wk (fun i σ H => ∃ ρ' F2, I i ρ' ∧ Same F1 F2 ∧ Sg X.K e ρ' F2 σ H) ⟨ρ0, F1, i0, Same.refl _, s1.wk wk0⟩ ?_ ?_ ?_
  · rintro i σ2 H2 hi ⟨ρ', F2, _, m2, s2⟩
    exact wd.stay e ρ' F2 σ2 H2 s2 m2 fun _ h => h
  · rintro i x σ2 H2 H2' hi ⟨ρ', F2, hI, m2, s2⟩ y
    have hix : i < xs.length := by omega
    obtain ⟨F3, s3, m3, i3⟩ := wd.at s2 m2 (wd.stay e ρ' F2 σ2 H2 s2 m2 fun _ h => h) hix y
    have m13 := m2.trans m3
    -- the state behind the target, over what is frozen there
    refine ⟨{ e with F := F3, H := e.H }, ρ', F3, _, _, ?_, i3, iS i ρ' hix hI, fun ρ4 F4 σ4 H4 s4 m4 _ q4 => ?_⟩
    · exact ⟨s3.fh, ⟨Same.refl _, s3.st.keep, s3.st.there, fun q o ho hn => hn⟩, s3.len, fun i dv h => by
        obtain ⟨v, a, b⟩ := s3.sl i dv h
        exact ⟨v, a, b⟩, s3.ap, s3.pin⟩
    · have back : ∀ ρ F σ H, Sg X.K { e with F := F3, H := e.H } ρ F σ H → Sg X.K e ρ F σ H ∧ Same F3 F := fun ρ F σ H s =>
        ⟨⟨s.fh, ⟨s3.st.ff.trans s.st.ff, s.st.keep, s.st.there, fun q o ho hn => s.st.old q o ho (s3.st.old q o ho hn)⟩, s.len, s.sl, s.ap, s.pin⟩, s.st.ff⟩
      have m14 : Same F1 F4 := m13.trans (back _ _ _ _ s4).2
      refine ⟨{ e with F := F3, H := e.H }, ρ4, F4, _, s4, q4, ⟨fun ρ F σ H s h => ?_, fun ρ F σ H v dv s res h => ?_, fun ρ F σ H s h => ?_, fun ρ F σ H s h => ?_, ?_⟩⟩
      · obtain ⟨s', m'⟩ := back _ _ _ _ s
        obtain ⟨ρ5, wk5, h⟩ := h
        exact ⟨ρ5, F, h, m13.trans m', s'.wk wk5⟩
      · exact r.rt ρ F σ H v dv (back _ _ _ _ s).1 res h
      · exact r.nx ρ F σ H (back _ _ _ _ s).1 h
      · obtain ⟨s', m'⟩ := back _ _ _ _ s
        obtain ⟨ρ5, wk5, h⟩ := h
        exact ⟨ρ5, F, h, m13.trans m', s'.wk wk5⟩
      · exact fun C dd fs kvs ρ F σ H s => r.ex C dd fs kvs ρ F σ H (back _ _ _ _ s).1
  · rintro σ2 H2 ⟨ρ', F2, hI, m2, s2⟩
    rw [hn] at hI
    exact r.nx ρ' F2 σ2 H2 s2 (iE ρ' hI)
structure WhileP (Wt : WT) (W : WS) (E : DEnds) (ρ : DEnv) : Prop where
  ex : ∃ I : Nat → DEnv → Prop, (∃ m ρ', Wk ρ ρ' ∧ I m ρ') ∧ ∀ ρ1 m, I m ρ1 →
    Wt E.ex ρ1 fun b ρ2 => ift b (W { E with nx := fun ρ3 => ∃ m' ρ4, m' < m ∧ Wk ρ3 ρ4 ∧ I m' ρ4, ct := fun ρ3 => ∃ m' ρ4, m' < m ∧ Wk ρ3 ρ4 ∧ I m' ρ4, bk := E.nx } ρ2) (E.nx ρ2)
def wWhile (Wt : WT) (W : WS) : WS := fun E ρ => WhileP Wt W E ρ
theorem js_while (hp : PassesOwn (model X.prog X.w) X.A X.env X.xe) (hc : JT X Wx ex Wt) (hb : JSs X Wx body W) : JS X Wx (.While ex body [] pos) (wWhile Wt W) := PS.wk (ps_while hp hc hb) fun D σ H h => by
  obtain ⟨e, ρ, F, E, s, w, r⟩ := h
  obtain ⟨I, ⟨m0, ρ0, wk0, i0⟩, iS⟩ := w.ex
  refine ⟨fun m σ H => ∃ ρ' F', I m ρ' ∧ Sg X.K e ρ' F' σ H, ⟨m0, ρ0, F, i0, s.wk wk0⟩, ?_⟩
  rintro m σ1 H1 ⟨ρ1, F1, i1, s1⟩
  refine ⟨e, ρ1, F1, E.ex, _, s1, iS ρ1 m i1, r.ex, fun F2 H2 b ρ2 s2 m2 p2 => ?_⟩
  cases b with
  | false => rw [if_neg (by decide)]; exact r.nx ρ2 F2 σ1 H2 s2 p2
  | true =>
    rw [if_pos rfl]
    refine ⟨fun σ' H' => ∃ m', m' < m ∧ ∃ ρ' F', I m' ρ' ∧ Sg X.K e ρ' F' σ' H', fun σ' H' ⟨m', lt, q⟩ => ⟨m', lt, q⟩, e, ρ2, F2, _, s2, p2, ⟨fun ρ F σ H s h => ?_, r.rt, r.nx, fun ρ F σ H s h => ?_, r.ex⟩⟩
    · obtain ⟨m', ρ4, lt, wk4, h4⟩ := h
      exact ⟨m', lt, ρ4, F, h4, s.wk wk4⟩
    · obtain ⟨m', ρ4, lt, wk4, h4⟩ := h
      exact ⟨m', lt, ρ4, F, h4, s.wk wk4⟩

/-! ### stores -/
def wApp (i : Nat) (We : WE) : WS := fun E ρ => match ρ[i]? with
  | some (some (.mu _ (.lst _))) => We E.ex ρ fun dv ρ1 => dv.thn fun d => match ρ1[i]? with
    | some (some (.mu b (.lst ds))) => ds.length < sizeLine ∧ E.nx (ρ1.set i (some (.mu b (.lst (ds ++ [d])))))
    | _ => False
  | _ => False
theorem js_app {i : Nat} {x : Str} {p apos cpos : Pos}
    (h0 : PS X (.Expr (.Call (.Attribute (.Name x p) "append" apos) [ex] [] cpos) pos) (tDrop (tBM X.K "list" rAppend (tVar i) (tCons (cE X.K Wx We) tNil)))) :
    JS X Wx (.Expr (.Call (.Attribute (.Name x p) "append" apos) [ex] [] cpos) pos) (wApp i We) := PS.wk h0 fun D σ H h => by
  obtain ⟨e, ρ, F, E, s, w, r⟩ := h
  unfold wApp at w
  split at w
  · rename_i b c hb
    obtain ⟨v, hσ, q, o, rfl, a1, a2, a3, a4, a5, vs, rfl, a6⟩ := s.sl i _ hb
    refine ⟨_, hσ, .inl ⟨rfl, vs, SqL.of a5⟩, e, ρ, F, E.ex, _, s, w, r.ex, fun F1 H1 v1 d1 ρ1 s1 m1 r1 q1 => ?_⟩
    obtain ⟨F2, d, s2, m2, i2, q2⟩ := s1.data r1 q1
    split at q2
    · rename_i b' ds hb'
      obtain ⟨v', hσ', q', o', e', b1, b2, b3, b4, b5, vs', rfl, b6⟩ := s2.sl i _ hb'
      rw [hσ] at hσ'
      cases hσ'
      cases e'
      refine ⟨q, vs', v1, rfl, rfl, b5, by rw [← b6.len]; exact q2.1, ?_⟩
      exact r.nx _ F2 σ _ (s2.mut (c' := .lst (ds ++ [d])) hb' hσ (o := .lst (vs' ++ [v1])) ⟨_, rfl, b6.append (.one i2)⟩) q2.2
    · exact q2.elim
  · exact w.elim
def isMu (ρ : DEnv) (i : Nat) : Prop := match ρ[i]? with
  | some (some (.mu _ _)) => True
  | _ => False
theorem isMu_at {K : PySem.W.Frag} {e : Ent} {ρ : DEnv} {F : Hp} {σ : St} {H : Hp} {i : Nat} (s : Sg K e ρ F σ H) (h : isMu ρ i) : ∃ p, σ[i]? = some (some (.ref p)) := by
  unfold isMu at h
  split at h
  · rename_i b c hb
    obtain ⟨v, hσ, q, o, rfl, _⟩ := s.sl i _ hb
    exact ⟨q, hσ⟩
  · exact h.elim
def wSetIx (i : Nat) (Wi We : WE) : WS := fun E ρ => We E.ex ρ fun dv ρ1 => dv.thn fun d => isMu ρ1 i ∧ Wi E.ex ρ1 fun iv ρ2 => match iv with
  | .fz (.int k) => (match ρ2[i]? with
    | some (some (.mu b (.lst ds))) => ∃ j, ixN ds.length k = some j ∧ E.nx (ρ2.set i (some (.mu b (.lst (ds.set j d)))))
    | _ => False)
  | _ => False
theorem js_setIx {i : Nat} {x : Str} {p ps : Pos} {ix : Expr} {Wi' : WE}
    (h0 : PS X (.Assign [.Subscript (.Name x p) ix ps] ex pos) (tAsg (cE X.K Wx We) (gSub (tVar i) (cE X.K Wx Wi') rSetL))) :
    JS X Wx (.Assign [.Subscript (.Name x p) ix ps] ex pos) (wSetIx i Wi' We) := PS.wk h0 fun D σ H h => by
  obtain ⟨e, ρ, F, E, s, w, r⟩ := h
  refine ⟨e, ρ, F, E.ex, _, s, w, r.ex, fun F1 H1 v1 d1 ρ1 s1 m1 r1 q1 => ?_⟩
  obtain ⟨F2, d, s2, m2, i2, hmu, q2⟩ := s1.data r1 q1
  obtain ⟨pp, hσ⟩ := isMu_at s2 hmu
  refine ⟨_, hσ, e, ρ1, F2, E.ex, _, s2, q2, r.ex, fun F3 H3 v3 d3 ρ3 s3 m3 r3 q3 => ?_⟩
  split at q3
  · rename_i k
    have hk : v3 = .int k := by simpa [Res, Sl, Is] using r3.1
    split at q3
    · rename_i b' ds hb'
      obtain ⟨v', hσ', q', o', rfl, b1, b2, b3, b4, b5, vs', rfl, b6⟩ := s3.sl i _ hb'
      rw [hσ] at hσ'
      cases hσ'
      obtain ⟨j, j1, j2⟩ := q3
      refine ⟨pp, vs', k, j, rfl, hk, b5, by rw [← b6.len]; exact j1, ?_⟩
      exact r.nx _ F3 σ _ (s3.mut (c' := .lst (ds.set j d)) hb' hσ (o := .lst (vs'.set j v1)) ⟨_, rfl, b6.set (Is.mono m3 _ i2) j⟩) j2
    · exact q3.elim
  · exact q3.elim
/-! x op= e -/
def wAug (i : Nat) (w : D → D → (DV → Prop) → Prop) (We : WE) : WS := fun E ρ => match ρ[i]? with
  | some (some (.fz d)) => We E.ex ρ fun b ρ1 => b.thn fun db => w d db fun dv => E.nx (ρ1.set i (some dv))
  | _ => False
theorem js_aug {i : Nat} {x : Str} {pos' : Pos} {op : Operator} {r : R2} {w : D → D → (DV → Prop) → Prop} (hN : X.N.Nodup) (hi : X.N[i]? = some x) (hx : Loc X.env.scope x) (ho : OpR X (inplaceOp op) r) (hr : BR X.K r w) (he : JE X Wx ex We)
    (hf : X.fn x = true ∨ X.env.scope.names.lookup x = some .local := by first | exact .inl rfl | exact .inr rfl | assumption) :
    JS X Wx (.AugAssign (.Name x pos') op ex pos) (wAug i w We) := PS.wk (ps_aug (ti := r) hN hi hx he ho hf) fun D σ H h => by
  obtain ⟨e, ρ, F, E, s, w0, rf⟩ := h
  unfold wAug at w0
  split at w0
  · rename_i d hd
    obtain ⟨v, hσ, iv⟩ := s.sl i _ hd
    refine ⟨v, hσ, e, ρ, F, E.ex, _, s, w0, rf.ex, fun F1 H1 v1 d1 ρ1 s1 m1 r1 q1 => ?_⟩
    obtain ⟨F2, b, s2, m2, i2, q2⟩ := s1.data r1 q1
    exact hr e ρ1 F2 σ H1 v v1 d b _ _ s2 (Is.mono (m1.trans m2) _ iv) i2 q2 fun F' H' v' dv s' sm res p => rf.nx _ F' _ H' (s'.set res) p
  · exact w0.elim
/-! dicts: d[k] = v -/
def D.key : D → Option Key
  | .int i => some (.inl i)
  | .str x => some (.inr x)
  | _ => none
theorem key_is {K : PySem.W.Frag} {F : Hp} {d : D} {v : V} {k : Key} (h : Is K F d v) (e : d.key = some k) : v = kV k := by
  cases d <;> simp only [D.key] at e <;> cases e <;> simp only [Is] at h <;> exact h
def valD {κ : Type} [DecidableEq κ] (kvs : List (κ × D)) (k : κ) : Option D := (kvs.find? fun kv => decide (kv.1 = k)).map (·.2)
def putD {κ : Type} [DecidableEq κ] (kvs : List (κ × D)) (k : κ) (d : D) : List (κ × D) :=
  if (kvs.any fun kv => decide (kv.1 = k)) then kvs.map (fun kv => if kv.1 = k then (kv.1, d) else kv) else kvs ++ [(k, d)]
section
variable {κ : Type} [DecidableEq κ] {K : PySem.W.Frag} {F : Hp}
theorem KVD.val {k : κ} : ∀ {xs : List (κ × D)} {ys : List (κ × V)}, KVD K F xs ys → (valD xs k = none ∧ valV ys k = none) ∨ ∃ d v, valD xs k = some d ∧ valV ys k = some v ∧ Is K F d v
  | [], _, .nil => .inl ⟨rfl, rfl⟩
  | (k1, d) :: xs, (k2, v) :: ys, .cons h t => by
    have hk : k1 = k2 := h.1
    subst hk
    by_cases e : k1 = k
    · right
      refine ⟨d, v, ?_, ?_, h.2⟩
      · simp [valD, e]
      · simp [valV, e]
    · have ih := KVD.val (k := k) t
      have e1 : valD ((k1, d) :: xs) k = valD xs k := by simp [valD, e]
      have e2 : valV ((k1, v) :: ys) k = valV ys k := by simp [valV, e]
      rw [e1, e2]; exact ih
theorem KVD.any {k : κ} : ∀ {xs : List (κ × D)} {ys : List (κ × V)}, KVD K F xs ys → (xs.any fun kv => decide (kv.1 = k)) = (ys.any fun kv => decide (kv.1 = k))
  | [], _, .nil => rfl
  | (k1, d) :: xs, (k2, v) :: ys, .cons h t => by
    have hk : k1 = k2 := h.1
    subst hk
    simp only [List.any_cons]
    rw [KVD.any t]
theorem KVD.set {k : κ} {d : D} {v : V} (i : Is K F d v) : ∀ {xs : List (κ × D)} {ys : List (κ × V)}, KVD K F xs ys → KVD K F (xs.map fun kv => if kv.1 = k then (kv.1, d) else kv) (ys.map fun kv => if kv.1 = k then (kv.1, v) else kv)
  | [], _, .nil => .nil
  | (k1, d1) :: xs, (k2, v1) :: ys, .cons h t => by
    have hk : k1 = k2 := h.1
    subst hk
    simp only [List.map_cons]
    refine .cons ?_ (KVD.set i t)
    by_cases e : k1 = k
    · simp only [if_pos e]; exact ⟨trivial, i⟩
    · simp only [if_neg e]; exact ⟨trivial, h.2⟩
theorem KVD.put {k : κ} {d : D} {v : V} (i : Is K F d v) {xs : List (κ × D)} {ys : List (κ × V)} (h : KVD K F xs ys) : KVD K F (putD xs k d) (putK ys k v) := by
  unfold putD putK
  rw [h.any (k := k)]
  split
  · exact h.set i
  · exact Paired.snoc h ⟨rfl, i⟩
theorem KVD.len {xs : List (κ × D)} {ys : List (κ × V)} (h : KVD K F xs ys) : xs.length = ys.length := Paired.length h
end
def wDPut (i : Nat) (Wk We : WE) : WS := fun E ρ => We E.ex ρ fun dv ρ1 => dv.thn fun d => isMu ρ1 i ∧ Wk E.ex ρ1 fun kv ρ2 => kv.thn fun kd => match ρ2[i]? with
    | some (some (.mu b (.dk kvs))) => ∃ k, kd.key = some k ∧ kvs.length < sizeLine ∧ E.nx (ρ2.set i (some (.mu b (.dk (putD kvs k d)))))
    | _ => False
theorem js_dput {i : Nat} {x : Str} {p ps : Pos} {ix : Expr} {Wk : WE} (hu : X.A.units + 1 < cLine) (hv : PE X (.Name x p) (tVar i)) (hi : JE X Wx ix Wk) (he : JE X Wx ex We)
    (hs : swapsWith ex (some (.Subscript (.Name x p) ix ps)) pos.line X.env = pure false := by rfl) :
    JS X Wx (.Assign [.Subscript (.Name x p) ix ps] ex pos) (wDPut i Wk We) := PS.wk (ps_dput hu hv hi he hs) fun D σ H h => by
  obtain ⟨e, ρ, F, E, s, w, r⟩ := h
  refine ⟨e, ρ, F, E.ex, _, s, w, r.ex, fun F1 H1 v1 d1 ρ1 s1 m1 r1 q1 => ?_⟩
  obtain ⟨F2, d, s2, m2, i2, hmu, q2⟩ := s1.data r1 q1
  obtain ⟨pp, hσ⟩ := isMu_at s2 hmu
  refine ⟨_, hσ, e, ρ1, F2, E.ex, _, s2, q2, r.ex, fun F3 H3 v3 d3 ρ3 s3 m3 r3 q3 => ?_⟩
  obtain ⟨F4, kd, s4, m4, i4, q4⟩ := s3.data r3 q3
  split at q4
  · rename_i b' kvs hb'
    obtain ⟨v', hσ', q', o', rfl, b1, b2, b3, b4, b5, vs', rfl, b6⟩ := s4.sl i _ hb'
    rw [hσ] at hσ'
    cases hσ'
    obtain ⟨k, k1, k2, k3⟩ := q4
    refine ⟨pp, _, rfl, by rw [key_is i4 k1]; exact DPut.k (k := k) b5 (by rw [← b6.len]; exact k2), ?_⟩
    exact r.nx _ F4 σ _ (s4.mut (c' := .dk (putD kvs k d)) hb' hσ (o := .dK (putK vs' k v1)) ⟨_, rfl, b6.put (Is.mono (m3.trans m4) _ i2)⟩) k3
  · exact q4.elim
/-! d[k], k in d, d.get(k, x) of an own dict that stays in its slot -/
def wDGet (i : Nat) (Wk : WE) : WE := fun EX ρ P => isMu ρ i ∧ Wk EX ρ fun kv ρ1 => kv.thn fun kd => match ρ1[i]? with
    | some (some (.mu _ (.dk kvs))) => ∃ k d, kd.key = some k ∧ valD kvs k = some d ∧ P (.fz d) ρ1
    | _ => False
theorem je_dget {i : Nat} {x : Str} {p : Pos} {ix : Expr} {Wk : WE} (hu : X.A.units + 1 < cLine) (hv : PE X (.Name x p) (tVar i)) (hi : JE X Wx ix Wk) (hs : NoSl ix) : JE X Wx (.Subscript (.Name x p) ix pos) (wDGet i Wk) := by
  refine PE.wk (pe_dget hu hv hi hs) fun σ H Q h => ?_
  obtain ⟨e, ρ, F, EX, P, s, ⟨hmu, w0⟩, hx, k⟩ := h
  obtain ⟨pp, hσ⟩ := isMu_at s hmu
  refine ⟨_, hσ, e, ρ, F, EX, _, s, w0, hx, fun F1 H1 v1 d1 ρ1 s1 m1 r1 q1 => ?_⟩
  obtain ⟨F2, kd, s2, m2, i2, q2⟩ := s1.data r1 q1
  split at q2
  · rename_i b' kvs hb'
    obtain ⟨v', hσ', q', o', rfl, b1, b2, b3, b4, b5, vs', rfl, b6⟩ := s2.sl i _ hb'
    rw [hσ] at hσ'
    cases hσ'
    obtain ⟨kk, d, k1, k2, k3⟩ := q2
    rcases b6.val (k := kk) with ⟨z, _⟩ | ⟨d', v', z1, z2, z3⟩
    · rw [k2] at z; cases z
    · rw [k2] at z1; cases z1
      exact ⟨pp, v', rfl, by rw [key_is i2 k1, ← z2]; exact DGet.k b5, k F2 H1 v' _ ρ1 s2 (m1.trans m2) (Res.fz z3) k3⟩
  · exact q2.elim
def wDGet2 (i : Nat) (Wk Wd : WE) : WE := fun EX ρ P => (∃ b kvs, ρ[i]? = some (some (.mu b (.dk kvs)))) ∧ Wk EX ρ fun kv ρ1 => kv.thn fun kd => Wd EX ρ1 fun dv ρ2 => dv.thn fun dd => match ρ2[i]? with
    | some (some (.mu _ (.dk kvs))) => ∃ k, kd.key = some k ∧ P (.fz ((valD kvs k).getD dd)) ρ2
    | _ => False
theorem je_dget2 {i : Nat} {x : Str} {p apos : Pos} {ix dx : Expr} {Wk Wd : WE} (hu : X.A.units + 1 < cLine) (hv : PE X (.Name x p) (tVar i)) (hi : JE X Wx ix Wk) (hd : JE X Wx dx Wd)
    (m : M2 X (.Name x p) "get" apos ix dx pos) : JE X Wx (.Call (.Attribute (.Name x p) "get" apos) [ix, dx] [] pos) (wDGet2 i Wk Wd) := by
  refine PE.wk (pe_dget2 hu hv hi hd m) fun σ H Q h => ?_
  obtain ⟨e, ρ, F, EX, P, s, ⟨⟨b0, kv0, h0⟩, w0⟩, hx, k⟩ := h
  obtain ⟨v', hσ, pp, o', rfl, _, _, _, _, b5, vs', rfl, _⟩ := s.sl i _ h0
  refine ⟨_, hσ, pp, rfl, .inl ⟨_, .of b5⟩, e, ρ, F, EX, _, s, w0, hx, fun F1 H1 v1 d1 ρ1 s1 m1 r1 q1 => ?_⟩
  obtain ⟨F2, kd, s2, m2, i2, q2⟩ := s1.data r1 q1
  refine ⟨e, ρ1, F2, EX, _, s2, q2, hx, fun F3 H3 v3 d3 ρ3 s3 m3 r3 q3 => ?_⟩
  obtain ⟨F4, dd, s4, m4, i4, q4⟩ := s3.data r3 q3
  split at q4
  · rename_i b' kvs hb'
    obtain ⟨v', hσ', q', o', rfl, b1, b2, b3, b4, b5, vs', rfl, b6⟩ := s4.sl i _ hb'
    rw [hσ] at hσ'
    cases hσ'
    obtain ⟨kk, k1, k3⟩ := q4
    refine ⟨valV vs' kk, by rw [key_is i2 k1]; exact DGet.k b5, ?_⟩
    refine k F4 H3 _ _ ρ3 s4 (m1.trans (m2.trans (m3.trans m4))) (Res.fz ?_) k3
    rcases b6.val (k := kk) with ⟨z1, z2⟩ | ⟨d', v', z1, z2, z3⟩
    · rw [z1, z2]; exact i4
    · rw [z1, z2]; exact z3
  · exact q4.elim
end
end L2.DL

/-! # DLf.lean -/
set_option Elab.async false
set_option linter.all false
set_option maxRecDepth 100000
namespace L2.DL
open PySem PySem.Spec PyProof.Rows

/-! ## promises -/
/-- what a caller gets: data, or a new own object -/
def Out (K : PySem.W.Frag) (H F' H' : Hp) : DV → V → Prop
  | .fz d, v => Is K F' d v
  | .mu b c, v => ∃ p o, v = .ref p ∧ b = true ∧ F' p = none ∧ H p = none ∧ H' p = some o ∧ MuO K F' c o
  | .lk _ _, _ => False
/-- a def of data alone: R args (what is wanted of the result) -/
abbrev RF := List D → (DV → Prop) → Prop
def spF (K : PySem.W.Frag) (R : RF) : Sp := fun vs H Q _ => ∃ F ds P, Same F H ∧ IsL K F ds vs ∧ R ds P ∧
  ∀ F' H' v dv, Stp F H F' H' [] → Same F' H' → Out K H F' H' dv v → P dv → Q v H'
/-- a def whose first argument is an own object that it changes: R it args (what is wanted of the result and of the object) -/
abbrev RB := Mc → List D → (DV → Mc → Prop) → Prop
def spB (K : PySem.W.Frag) (R : RB) : Sp := fun vs H Q _ => ∃ F c ds P p o us, vs = .ref p :: us ∧ Same F H ∧ F p = none ∧ H p = some o ∧ MuO K F c o ∧ IsL K F ds us ∧ R c ds P ∧
  ∀ F' H' v dv c' o', Stp F H F' H' [p] → Same F' H' → F' p = none → H' p = some o' → MuO K F' c' o' → Out K H F' H' dv v → P dv c' → Q v H'

section
variable {X : Cx} {Wx : WX} {f : Addr} {fd : FuncData} {ps : List Str} {k : Nat} {x : Str} {p pos : Pos} {a : Expr} {es : List Expr} {Wargs : WA} {K : PySem.W.Frag}
theorem Out.res {e : Ent} {ρ : DEnv} {F H F' H' : Hp} {σ : St} {dv : DV} {v : V} (s : Sg K e ρ F σ H) (o : Out K H F' H' dv v) : Res K e F' H' ρ σ dv v := by
  cases dv with
  | fz d => exact Res.fz o
  | lk _ c => exact o.elim
  | mu b c =>
    obtain ⟨p, u, rfl, rfl, h1, h2, h3, h4⟩ := o
    refine ⟨⟨p, u, rfl, h1, fun _ => (s.free h2).2, (fun z => nomatch z), fun u' hu => ?_, h3, h4⟩, fun _ i dw h ho z => ?_⟩
    · have := (s.pin _ hu).1
      rw [h2] at this; cases this
    · obtain ⟨w, b1, b2⟩ := s.sl i dw h
      rw [b1] at z; cases z
      cases dw with
      | fz d => cases ho
      | lk _ c => cases ho
      | mu b c =>
        obtain ⟨q, u, e1, _, _, _, _, c5, _⟩ := b2
        cases e1
        rw [h2] at c5; cases c5
def wCall (R : RF) (Wa : WA) : WE := fun EX ρ P => Wa EX ρ fun ds ρ1 => R ds fun dv => P dv ρ1
theorem je_call {R : RF} (G : FnOk X.prog X.w X.K X.mg X.base CX0 k f fd ps (spF X.K R)) (hr : Room k X.A) (hg : Gl X x) (hm : X.mg x = some (.ref f)) (hk : PySem.W.keepIn X.K (.ref f) = true) (hb : Binds X.K fd ps [])
    (ha : JA X Wx (a :: es) Wargs) (hdb : (x == ("__debug__" : Str)) = false := by decide) (he : starEach (a :: es) X.env = (false, eval a X.env) :: starEach es X.env := by rfl) (hpl : (backTo pos (starEach es X.env)).any (·.1) = false := by rfl) :
    JE X Wx (.Call (.Name x p) (a :: es) [] pos) (wCall R Wargs) := by
  refine PE.wk (pe_call G hr hg hm hk hb .nil pass0 ha hdb he hpl) fun σ H Q h => ?_
  obtain ⟨e, ρ, F, EX, P, s, w0, hx, kk⟩ := h
  refine ⟨e, ρ, F, EX, _, s, w0, hx, fun F1 H1 vs ds ρ1 s1 m1 r1 q1 => ?_⟩
  show spF X.K R (vs ++ []) H1 Q E0
  rw [List.append_nil]
  refine ⟨F1, ds, _, s1.fh, r1, q1, fun F' H' v dv st sm o p => ?_⟩
  exact kk F' H' v dv ρ1 (s1.later sm st) (m1.trans st.ff) ((Out.res s1 o)) p
def wCall0 (R : RF) : WE := fun EX ρ P => R [] fun dv => P dv ρ
theorem je_call0 {R : RF} (G : FnOk X.prog X.w X.K X.mg X.base CX0 k f fd ps (spF X.K R)) (hr : Room k X.A) (hg : Gl X x) (hm : X.mg x = some (.ref f)) (hk : PySem.W.keepIn X.K (.ref f) = true) (hb : Binds X.K fd ps [])
    (hdb : (x == ("__debug__" : Str)) = false := by decide) : JE X Wx (.Call (.Name x p) [] [] pos) (wCall0 R) := by
  refine PE.wk (pe_call0 G hr hg hm hk hb .nil pass0 hdb) fun σ H Q h => ?_
  obtain ⟨e, ρ, F, EX, P, s, w0, hx, kk⟩ := h
  exact ⟨F, [], _, s.fh, IsL.nil, w0, fun F' H' v dv st sm o p => kk F' H' v dv ρ (s.later sm st) st.ff (Out.res s o) p⟩
/-- behind a call that was lent the object of a slot -/
theorem Sg.lent {e : Ent} {ρ : DEnv} {F H F' H' : Hp} {σ : St} {i : Nat} {b : Bool} {c c' : Mc} {p : Addr} {o' : HO} (s : Sg K e ρ F σ H) (hi : ρ[i]? = some (some (.mu b c))) (hσ : σ[i]? = some (some (.ref p)))
    (st : Stp F H F' H' [p]) (fh : Same F' H') (hf : F' p = none) (ho : H' p = some o') (m : MuO K F' c' o') : Sg K e (ρ.set i (some (.mu b c'))) F' σ H' := by
  obtain ⟨v, g1, q, u, rfl, a1, a2, a3, a4, a5, a6⟩ := s.sl i _ hi
  rw [hσ] at g1; cases g1
  have hil : i < ρ.length := (List.getElem?_eq_some_iff.mp hi).1
  have own : ∀ (j : Nat) (dw : DV), (ρ.set i (some (.mu b c')))[j]? = some (some dw) → j ≠ i → ρ[j]? = some (some dw) := fun j dw h n => by
    rwa [List.getElem?_set_ne (Ne.symm n)] at h
  have kp : ∀ q u, H q = some u → q ≠ p → H' q = some u := fun q u h n => st.keep q u h (by simpa using n)
  refine ⟨fh, ⟨s.st.ff.trans st.ff, fun q u h n => ?_, fun q u h => ?_, fun q u h n => ?_⟩, by simp [s.len], fun j dw h => ?_, fun j k dw dx w h1 h2 o1 o2 g1 g2 => ?_, fun r hr => ?_⟩
  · have h1 := s.st.keep q u h n
    by_cases hq : q = p
    · subst hq
      cases hb : b with
      | true => rw [a2 hb] at h; cases h
      | false => exact absurd (a3 hb) n
    · exact kp q u h1 hq
  · obtain ⟨u', h'⟩ := s.st.there q u h
    exact st.there q u' h'
  · obtain ⟨u', h'⟩ := s.st.there q u h
    exact st.old q u' h' (s.st.old q u h n)
  · by_cases hj : j = i
    · subst hj
      rw [List.getElem?_set_self hil] at h; cases h
      exact ⟨_, hσ, p, o', rfl, hf, a2, a3, a4, ho, m⟩
    · have h' := own j dw h hj
      obtain ⟨w, b1, b2⟩ := s.sl j dw h'
      refine ⟨w, b1, ?_⟩
      cases dw with
      | fz d => exact Is.mono st.ff d b2
      | lk q c =>
        obtain ⟨u, od, rfl, c1, c2⟩ := b2
        exact ⟨u, od, rfl, c1, c2.mono st.ff⟩
      | mu b' c2 =>
        obtain ⟨r, u2, rfl, c1, c2, c3, c4, c5, c6⟩ := b2
        have : r ≠ p := fun z => hj (s.ap j i _ _ _ h' hi rfl rfl b1 (by rw [hσ, z]))
        exact ⟨r, u2, rfl, st.old r u2 c5 c1, c2, c3, c4, kp r u2 c5 this, c6.mono st.ff⟩
  · have h1' : ∃ dw', ρ[j]? = some (some dw') ∧ dw'.own = true := by
      by_cases hj : j = i
      · subst hj; exact ⟨_, hi, rfl⟩
      · exact ⟨dw, own j dw h1 hj, o1⟩
    have h2' : ∃ dx', ρ[k]? = some (some dx') ∧ dx'.own = true := by
      by_cases hk : k = i
      · subst hk; exact ⟨_, hi, rfl⟩
      · exact ⟨dx, own k dx h2 hk, o2⟩
    obtain ⟨dw', p1, p2⟩ := h1'
    obtain ⟨dx', p3, p4⟩ := h2'
    exact s.ap j k _ _ w p1 p3 p2 p4 g1 g2
  · obtain ⟨b1, b2, b3⟩ := s.pin r hr
    have : r.1 ≠ p := fun z => a4 r.2 (by rw [← z]; exact hr)
    exact ⟨kp _ _ b1 this, st.old _ _ b1 b2, b3⟩
/-- f(x, ..), x a slot whose object is lent -/
def wCallL (R : RB) (i : Nat) (Wa : WA) : WE := fun EX ρ P => isMu ρ i ∧ Wa EX ρ fun ds ρ1 => match ρ1[i]? with
  | some (some (.mu b c)) => R c ds fun dv c' => P dv (ρ1.set i (some (.mu b c')))
  | _ => False
theorem je_callL {R : RB} {i : Nat} {y : Str} {py : Pos} (G : FnOk X.prog X.w X.K X.mg X.base CX0 k f fd ps (spB X.K R)) (hr : Room k X.A) (hg : Gl X x) (hm : X.mg x = some (.ref f)) (hk : PySem.W.keepIn X.K (.ref f) = true) (hb : Binds X.K fd ps [])
    (hv : PE X (.Name y py) (tVar i)) (ha : JA X Wx es Wargs) (hdb : (x == ("__debug__" : Str)) = false := by decide)
    (he : starEach (.Name y py :: es) X.env = (false, eval (.Name y py) X.env) :: starEach es X.env := by rfl) (hpl : (backTo pos (starEach es X.env)).any (·.1) = false := by rfl) :
    JE X Wx (.Call (.Name x p) (.Name y py :: es) [] pos) (wCallL R i Wargs) := by
  refine PE.wk (pe_call G hr hg hm hk hb .nil pass0 (pa_cons hv ha he) hdb he hpl) fun σ H Q h => ?_
  obtain ⟨e, ρ, F, EX, P, s, ⟨hmu, w0⟩, hx, kk⟩ := h
  obtain ⟨pp, hσ⟩ := isMu_at s hmu
  refine ⟨_, hσ, e, ρ, F, EX, _, s, w0, hx, fun F1 H1 vs ds ρ1 s1 m1 r1 q1 => ?_⟩
  show spB X.K R ((.ref pp :: vs) ++ []) H1 Q E0
  rw [List.append_nil]
  split at q1
  · rename_i b c hb'
    obtain ⟨v', hσ', q', o', rfl, b1, b2, b3, b4, b5, b6⟩ := s1.sl i _ hb'
    rw [hσ] at hσ'
    cases hσ'
    refine ⟨F1, c, ds, _, pp, o', vs, rfl, s1.fh, b1, b5, b6, r1, q1, fun F' H' v dv c' o'' st sm h1 h2 h3 o p => ?_⟩
    refine kk F' H' v dv _ (s1.lent hb' hσ st sm h1 h2 h3) (m1.trans st.ff) ?_ p
    have r := Out.res s1 o
    refine ⟨?_, fun ho j dw hj hw => ?_⟩
    · exact r.1
    · by_cases hji : j = i
      · subst hji
        have := r.2 ho j _ hb' rfl
        exact this
      · rw [List.getElem?_set_ne (fun z => hji z.symm)] at hj
        exact r.2 ho j dw hj hw
  · exact q1.elim
end

/-! ## further forms -/
section
variable {X : Cx} {Wx : WX} {ex : Expr} {We : WE} {pos : Pos} {tg iter elt : Expr} {ifs : List Expr} {scope : Scope} {own : List (Str × Nat)} {Wi : WI} {g : WG} {Wt : WT} {spos py : Pos}
theorem je_gintE {x : Str} {i : Int} (hg : Gl X x) (hm : ∃ t, X.mg x = some (.int i t)) (hd : (x == ("__debug__" : Str)) = false := by decide) : JE X Wx (.Name x pos) (wK (.int i)) := by
  obtain ⟨t, h⟩ := hm
  exact je_gint hg h hd
/-- x = e, the result frozen -/
def wSetF (i : Nat) (We : WE) : WS := fun E ρ => We E.ex ρ fun dv ρ1 => dv.thn fun d => E.nx (ρ1.set i (some (.fz d)))
theorem cS_asgF {i : Nat} {te : TE} (h0 : ∀ σ H Q, cE X.K Wx We σ H Q → te σ H Q) (D : Ends) (σ : St) (H : Hp) (h : cS X.K Wx (wSetF i We) D σ H) : tAsg te (gName i) D σ H := by
  obtain ⟨e, ρ, F, E, s, w, r⟩ := h
  refine h0 _ _ _ ⟨e, ρ, F, E.ex, _, s, w, r.ex, fun F' H' v dv ρ' s' m r' p => ?_⟩
  obtain ⟨F2, d, s2, m2, i2, p2⟩ := s'.data r' p
  exact r.nx _ F2 _ H' (s2.set (Res.fz i2)) p2
theorem js_setF {i : Nat} {x : Str} {pos' : Pos} (hN : X.N.Nodup) (hi : X.N[i]? = some x) (hx : Loc X.env.scope x) (he : JE X Wx ex We) (hs : swapsWith ex (some (.Name x pos')) pos.line X.env = pure false := by rfl) (hf : X.fn x = true ∨ X.env.scope.names.lookup x = some .local := by first | exact .inl rfl | exact .inr rfl | assumption) :
    JS X Wx (.Assign [.Name x pos'] ex pos) (wSetF i We) := PS.wk (ps_set hN hi hx he hs hf) (cS_asgF fun _ _ _ h => h)
theorem js_setLcF {i : Nat} {y : Str} (hc : X.calm = true) (hN : X.N.Nodup) (hy : X.N[i]? = some y) (hyl : X.env.scope.names.lookup y = some .local)
    (hsw : swapsWith (.ListComp elt [⟨tg, iter, ifs, 0⟩] scope pos) (some (.Name y py)) spos.line X.env = pure true) (hi : JI X Wx tg iter Wi) (ok : BlkOk X.N X.env.scope scope own)
    (hg : ∀ (s : Shared) (H : Hp) (C : Addr) (cl : List (Str × Addr)) (fp : List Addr), JG (X.blk s H scope (compEnvC scope cl C X.env) fp) (own.map (·.2)) tg g)
    (ht : ∀ (s : Shared) (H : Hp) (C : Addr) (cl : List (Str × Addr)) (fp : List Addr), JTs (X.blk s H scope (compEnvC scope cl C X.env) fp) NW ifs Wt)
    (he : ∀ (s : Shared) (H : Hp) (C : Addr) (cl : List (Str × Addr)) (fp : List Addr), JE (X.blk s H scope (compEnvC scope cl C X.env) fp) NW elt We) (hs : ∀ x, foldedSetIterable iter X.env x = pure x := by intro _; rfl) :
    JS X Wx (.Assign [.Name y py] (.ListComp elt [⟨tg, iter, ifs, 0⟩] scope pos) spos) (wSetF i (wLc Wi g Wt We (own.map (·.2)))) :=
  PS.wk (ps_setLc hc hN hy hyl hsw hi ok hg ht he hs) (cS_asgF (cE_lc _))
/-! an own list that stays in its slot: its length, its items -/
def wLenM (i : Nat) : WE := fun _ ρ P => match ρ[i]? with
  | some (some (.mu _ (.lst ds))) => P (.fz (.int ds.length)) ρ
  | _ => False
theorem je_lenM {i : Nat} {x y : Str} {p py : Pos} (hg : Gl X x) (hm : X.mg x = none) (hv : bootBuiltins x = some (.builtin "len")) (h : PE X (.Name y py) (tVar i)) (hn : x ≠ "__name__" := by decide) (hdb : (x == ("__debug__" : Str)) = false := by decide)
    (he : starEach (.Name y py :: []) X.env = (false, eval (.Name y py) X.env) :: starEach [] X.env := by rfl) (hpl : (backTo pos (starEach [] X.env)).any (·.1) = false := by rfl) : JE X Wx (.Call (.Name x p) [.Name y py] [] pos) (wLenM i) := by
  refine PE.wk (pe_callB call_len_seq hg hm hv (pa_cons h pa_nil he) hn hdb he hpl) fun σ H Q h => ?_
  obtain ⟨e, ρ, F, EX, P, s, w0, hx, k⟩ := h
  unfold wLenM at w0
  split at w0
  · rename_i b ds hb
    obtain ⟨v, hσ, q, o, rfl, a1, a2, a3, a4, a5, vs, rfl, a6⟩ := s.sl i _ hb
    exact ⟨_, hσ, q, vs, rfl, .inl (SqL.of a5), k F H _ _ ρ s (Same.refl _) (Res.fz (by simp only [Is]; rw [a6.len])) w0⟩
  · exact w0.elim
def wIxM (i : Nat) (Wi : WE) : WE := fun EX ρ P => isMu ρ i ∧ Wi EX ρ fun iv ρ1 => match iv with
  | .fz (.int k) => (match ρ1[i]? with
    | some (some (.mu _ (.lst ds))) => ∃ d, atI ds k = some d ∧ P (.fz d) ρ1
    | _ => False)
  | _ => False
theorem je_ixM {i : Nat} {y : Str} {py : Pos} {ix : Expr} {Wi : WE} (h : PE X (.Name y py) (tVar i)) (hi : JE X Wx ix Wi) (hs : PlainIx ix) : JE X Wx (.Subscript (.Name y py) ix pos) (wIxM i Wi) := by
  refine PE.wk (pe_ix ix_list h hi hs) fun σ H Q h => ?_
  obtain ⟨e, ρ, F, EX, P, s, ⟨hmu, w0⟩, hx, k⟩ := h
  obtain ⟨pp, hσ⟩ := isMu_at s hmu
  refine ⟨_, hσ, e, ρ, F, EX, _, s, w0, hx, fun F1 H1 v1 d1 ρ1 s1 m1 r1 q1 => ?_⟩
  split at q1
  · rename_i kk
    have hk : v1 = .int kk := by simpa [Res, Sl, Is] using r1.1
    split at q1
    · rename_i b ds hb
      obtain ⟨v', hσ', q', o', rfl, b1, b2, b3, b4, b5, vs', rfl, b6⟩ := s1.sl i _ hb
      rw [hσ] at hσ'
      cases hσ'
      obtain ⟨d, h3, h4⟩ := q1
      obtain ⟨v, h5, h6⟩ := b6.atI h3
      exact ⟨pp, vs', kk, v, rfl, hk, SqL.of b5, h5, k F1 H1 v _ ρ1 s1 m1 (Res.fz h6) h4⟩
    · exact q1.elim
  · exact q1.elim
/-! slices -/
abbrev WO := EXt → DEnv → (Option Int → DEnv → Prop) → Prop
def cO (K : PySem.W.Frag) (Wx : WX) (W : WO) : TO := fun σ H Q => ∃ e ρ F EX P, Sg K e ρ F σ H ∧ W EX ρ P ∧ Hx K Wx e EX ∧ ∀ F' H' o ρ', Sg K e ρ' F' σ H' → Same F F' → P o ρ' → Q o H'
abbrev JO (X : Cx) (Wx : WX) (e : Option Expr) (W : WO) : Prop := PO X e (cO X.K Wx W)
theorem PO.wk {e : Option Expr} {t t' : TO} (h : PO X e t) (i : ∀ σ H Q, t' σ H Q → t σ H Q) : PO X e t' := ⟨fun pins s σ H Q I q => h.run pins s σ H Q I (i σ H Q q)⟩
def woNone : WO := fun _ ρ P => P none ρ
def woSome (W : WE) : WO := fun EX ρ P => W EX ρ fun dv ρ1 => match dv with
  | .fz (.int i) => P (some i) ρ1
  | _ => False
theorem jo_none : JO X Wx none woNone := PO.wk po_none fun σ H Q h => by
  obtain ⟨e, ρ, F, EX, P, s, w0, hx, k⟩ := h
  exact k F H _ ρ s (Same.refl _) w0
theorem jo_some (h : JE X Wx ex We) : JO X Wx (some ex) (woSome We) := PO.wk (po_some h) fun σ H Q h => by
  obtain ⟨e, ρ, F, EX, P, s, w0, hx, k⟩ := h
  refine ⟨e, ρ, F, EX, _, s, w0, hx, fun F1 H1 v1 d1 ρ1 s1 m1 r1 q1 => ?_⟩
  split at q1
  · exact ⟨_, by simpa [Res, Sl, Is] using r1.1, k F1 H1 _ ρ1 s1 m1 q1⟩
  · exact q1.elim
def cutD (xs : List D) (lo hi : Option Int) : List D := (xs.drop (HT.sIx xs.length 0 lo)).take (HT.sIx xs.length xs.length hi - HT.sIx xs.length 0 lo)
theorem IsL.cut {K : PySem.W.Frag} {F : Hp} {ds : List D} {vs : List V} {lo hi : Option Int} (h : IsL K F ds vs) : IsL K F (cutD ds lo hi) (cutV vs lo hi) := by
  unfold cutD cutV
  rw [h.len]
  exact (h.drop _).take _
def wSlL (W : WE) (Wl Wh : WO) : WE := fun EX ρ P => W EX ρ fun dv ρ1 => dv.thn fun d => Wl EX ρ1 fun lo ρ2 => Wh EX ρ2 fun hi ρ3 => match d with
  | .lst ds => P (.mu true (.lst (cutD ds lo hi))) ρ3
  | .scr ds => P (.mu true (.lst (cutD ds lo hi))) ρ3
  | _ => False
def wSlT (W : WE) (Wl Wh : WO) : WE := fun EX ρ P => W EX ρ fun dv ρ1 => dv.thn fun d => Wl EX ρ1 fun lo ρ2 => Wh EX ρ2 fun hi ρ3 => match d with
  | .tup ds => P (.fz (.tup (cutD ds lo hi))) ρ3
  | _ => False
variable {lo hi : Option Expr} {Wl Wh : WO} {p2 : Pos}
theorem je_slL (h : JE X Wx ex We) (hl : JO X Wx lo Wl) (hh : JO X Wx hi Wh) : JE X Wx (.Subscript ex (.Slice lo hi none p2) pos) (wSlL We Wl Wh) := by
  refine PE.wk (pe_slice sl_list h hl hh) fun σ H Q h => ?_
  obtain ⟨e, ρ, F, EX, P, s, w0, hx, k⟩ := h
  refine ⟨e, ρ, F, EX, _, s, w0, hx, fun F1 H1 v1 d1 ρ1 s1 m1 r1 q1 => ?_⟩
  obtain ⟨F1', d, s1', m1', i1, q1'⟩ := s1.data r1 q1
  refine ⟨e, ρ1, F1', EX, _, s1', q1', hx, fun F2 H2 l ρ2 s2 m2 q2 => ?_⟩
  refine ⟨e, ρ2, F2, EX, _, s2, q2, hx, fun F3 H3 u ρ3 s3 m3 q3 => ?_⟩
  have i3 := Is.mono (m2.trans m3) _ i1
  have mm := m1.trans (m1'.trans (m2.trans m3))
  cases d <;> try exact q3.elim
  all_goals
    simp only [Is] at i3
    obtain ⟨a, vs, rfl, h1, h2⟩ := i3
    refine ⟨a, vs, rfl, ?_, fun p hp => ?_⟩
  · exact SqL.of (s3.fh _ _ h1)
  · obtain ⟨s4, r4⟩ := s3.alloc (o := .lst _) (c := .lst _) hp ⟨_, rfl, h2.cut (lo := l) (hi := u)⟩
    exact k _ _ _ _ ρ3 s4 mm r4 q3
  · exact Same.seq s3.fh h1
  · obtain ⟨s4, r4⟩ := s3.alloc (o := .lst _) (c := .lst _) hp ⟨_, rfl, h2.cut (lo := l) (hi := u)⟩
    exact k _ _ _ _ ρ3 s4 mm r4 q3
theorem cut_whole {α : Type} {xs : List α} {lo hi : Option Int} (h : HT.sIx xs.length 0 lo = 0 ∧ HT.sIx xs.length xs.length hi = xs.length) : (xs.drop (HT.sIx xs.length 0 lo)).take (HT.sIx xs.length xs.length hi - HT.sIx xs.length 0 lo) = xs := by
  rw [h.1, h.2]; simp
theorem je_slT (h : JE X Wx ex We) (hl : JO X Wx lo Wl) (hh : JO X Wx hi Wh) : JE X Wx (.Subscript ex (.Slice lo hi none p2) pos) (wSlT We Wl Wh) := by
  refine PE.wk (pe_slice sl_tupA h hl hh) fun σ H Q h => ?_
  obtain ⟨e, ρ, F, EX, P, s, w0, hx, k⟩ := h
  refine ⟨e, ρ, F, EX, _, s, w0, hx, fun F1 H1 v1 d1 ρ1 s1 m1 r1 q1 => ?_⟩
  obtain ⟨F1', d, s1', m1', i1, q1'⟩ := s1.data r1 q1
  refine ⟨e, ρ1, F1', EX, _, s1', q1', hx, fun F2 H2 l ρ2 s2 m2 q2 => ?_⟩
  refine ⟨e, ρ2, F2, EX, _, s2, q2, hx, fun F3 H3 u ρ3 s3 m3 q3 => ?_⟩
  have i3 := Is.mono (m2.trans m3) _ i1
  have mm := m1.trans (m1'.trans (m2.trans m3))
  cases d <;> try exact q3.elim
  simp only [Is] at i3
  obtain ⟨a, vs, rfl, h1, h2⟩ := i3
  refine ⟨a, vs, rfl, Same.seqT s3.fh h1, fun hw => ?_, fun _ p hp => ?_⟩
  · refine k _ _ _ _ ρ3 s3 mm (Res.fz ?_) q3
    simp only [Is]
    refine ⟨a, vs, rfl, h1, ?_⟩
    have := h2.cut (lo := l) (hi := u)
    unfold cutV at this
    rwa [cut_whole hw] at this
  · obtain ⟨s4, m4⟩ := s3.allocT (o := .tup (cutV vs l u)) hp
    refine k _ _ _ _ ρ3 s4 (mm.trans m4) (Res.fz ?_) q3
    simp only [Is]
    exact ⟨p, _, rfl, SqT.of upd_same, (h2.cut).mono m4⟩
end

/-! ## a def holds its promise by its body's reading -/
def argD (N : List Str) (ds : List D) : DEnv := ds.map (fun d => some (.fz d)) ++ List.replicate (N.length - ds.length) none
def argB (N : List Str) (c : Mc) (ds : List D) : DEnv := some (.mu false c) :: (ds.map (fun d => some (.fz d)) ++ List.replicate (N.length - (ds.length + 1)) none)
def DV.mine (dv : DV) : Prop := match dv with
  | .fz _ => True
  | .mu b _ => b = true
  | .lk _ _ => False
def endF (P : DV → Prop) : DEnds := { nx := fun _ => P (.fz .non), rt := fun dv _ => dv.mine ∧ P dv }
def endB (P : DV → Mc → Prop) : DEnds := { nx := fun ρ => ∃ c, ρ[0]? = some (some (.mu false c)) ∧ P (.fz .non) c, rt := fun dv ρ => dv.mine ∧ ∃ c, ρ[0]? = some (some (.mu false c)) ∧ P dv c }
section
variable {P : Program} {w : World} {K : PySem.W.Frag} {mg : Str → Option Value} {base : Heap}
theorem start_get {N : List Str} {vs : List V} {i : Nat} (h : i < vs.length) : (start N vs)[i]? = some (some vs[i]) := by
  unfold start
  rw [List.getElem?_append_left (by simpa using h)]
  simp [h]
theorem sg_args {e : Ent} {N : List Str} {F H : Hp} {ds : List D} {vs : List V} (m : Same F H) (hl : vs.length ≤ N.length) (i : IsL K F ds vs) (eF : e.F = F) (eH : e.H = H) (ep : e.pn = []) :
    Sg K e (argD N ds) F (start N vs) H where
  fh := m
  st := by rw [eF, eH]; exact Stp.refl
  len := by
    have := i.len
    simp [argD, start]; omega
  sl := fun j dv h => by
    unfold argD at h
    by_cases hj : j < ds.length
    · rw [List.getElem?_append_left (by simpa using hj)] at h
      rw [List.getElem?_map] at h
      rw [List.getElem?_eq_getElem hj] at h
      simp only [Option.map_some, Option.some.injEq] at h
      subst h
      obtain ⟨v, h1, h2⟩ := i.get (List.getElem?_eq_getElem hj)
      have hv := (List.getElem?_eq_some_iff.mp h1)
      exact ⟨v, by rw [start_get hv.1, hv.2], h2⟩
    · rw [List.getElem?_append_right (by simpa using hj)] at h
      rw [List.getElem?_replicate] at h
      split at h <;> cases h
  ap := fun j k dv dw v h1 h2 o1 => by
    exfalso
    unfold argD at h1
    by_cases hj : j < ds.length
    · rw [List.getElem?_append_left (by simpa using hj)] at h1
      rw [List.getElem?_map, List.getElem?_eq_getElem hj] at h1
      simp only [Option.map_some, Option.some.injEq] at h1
      subst h1
      cases o1
    · rw [List.getElem?_append_right (by simpa using hj)] at h1
      rw [List.getElem?_replicate] at h1
      split at h1 <;> cases h1
  pin := fun p hp => by rw [ep] at hp; cases hp
theorem Fun.okF {x qual : Str} {st : Stmt} {f : Addr} {fd : FuncData} {N ps : List Str} {k : Nat} {R : RF} {W : WS} (Fn : Fun K x qual st f fd) (S : FnScope N ps (defScope st)) (hl : ∀ ds Q, R ds Q → ds.length = ps.length) (hN : ps.length ≤ N.length)
    (hj : ∀ (cdv : Value) (A : Around) (outer : List Env) (s : Shared) (H : Hp) (E : XK), Room k (A.deeper (envOfC qual (defScope st) s.heap.objs.size f cdv)) →
      JSs (cxOf CX0 P w K mg base N qual (defScope st) f cdv A outer s H E).nox NW (defBody st) W)
    (hv : ∀ ds Q, R ds Q → W (endF Q) (argD N ds)) : FnOk P w K mg base CX0 (k + 1) f fd ps (spF K R) := by
  refine Fn.ok S (fun vs H Q E h => ?_) fun cdv A outer s H vs Q E hr h => ⟨_, hj cdv A outer s H E hr, ?_⟩
  · obtain ⟨F, ds, P, _, i, r, _⟩ := h
    rw [← i.len]; exact hl ds P r
  · obtain ⟨F, ds, P', m, i, r, q⟩ := h
    have hlen := hl ds _ r
    refine ⟨⟨F, H, [], []⟩, argD N ds, F, endF P', sg_args m (by rw [← i.len, hlen]; exact hN) i rfl rfl rfl, hv ds P' r, ⟨fun ρ F' σ' H' s' h' => ?_, fun ρ F' σ' H' v dv s' res h' => ?_, fun _ _ _ _ _ h => h, fun _ _ _ _ _ h => h, Hx.never⟩⟩
    · exact q F' H' .non (.fz .non) s'.st s'.fh (by simp [Out, Is]) h'
    · refine q F' H' v dv s'.st s'.fh ?_ h'.2
      cases dv with
      | fz d => exact res.1
      | lk _ c => exact h'.1.elim
      | mu b c =>
        obtain ⟨p, o, rfl, h1, h2, h3, h4, h5, h6⟩ := res.1
        exact ⟨p, o, rfl, h'.1, h1, h2 h'.1, h5, h6⟩
theorem Fun.okB {x qual : Str} {st : Stmt} {f : Addr} {fd : FuncData} {N ps : List Str} {k : Nat} {R : RB} {W : WS} (Fn : Fun K x qual st f fd) (S : FnScope N ps (defScope st)) (hl : ∀ c ds Q, R c ds Q → ds.length + 1 = ps.length) (hN : ps.length ≤ N.length)
    (hj : ∀ (cdv : Value) (A : Around) (outer : List Env) (s : Shared) (H : Hp) (E : XK), Room k (A.deeper (envOfC qual (defScope st) s.heap.objs.size f cdv)) →
      JSs (cxOf CX0 P w K mg base N qual (defScope st) f cdv A outer s H E).nox NW (defBody st) W)
    (hv : ∀ c ds Q, R c ds Q → W (endB Q) (argB N c ds)) : FnOk P w K mg base CX0 (k + 1) f fd ps (spB K R) := by
  refine Fn.ok S (fun vs H Q E h => ?_) fun cdv A outer s H vs Q E hr h => ⟨_, hj cdv A outer s H E hr, ?_⟩
  · obtain ⟨F, c, ds, P, p, o, us, rfl, _, _, _, _, i, r, _⟩ := h
    rw [List.length_cons, ← i.len]; exact hl c ds P r
  · obtain ⟨F, c, ds, P', p, o, us, rfl, m, hf, ho, mo, i, r, q⟩ := h
    have hlen := hl c ds _ r
    have hul := i.len
    have sg : Sg K ⟨F, H, [p], []⟩ (argB N c ds) F (start N (.ref p :: us)) H := by
      refine ⟨m, Stp.refl, by simp [argB, start]; omega, fun j dv h => ?_, fun j k' dv dw v h1 h2 o1 o2 => ?_, fun _ hp => nomatch hp⟩
      · cases j with
        | zero =>
          have : dv = .mu false c := by simpa [argB] using h.symm
          subst this
          exact ⟨.ref p, by rw [start_get (by simp)]; rfl, p, o, rfl, hf, (fun z => nomatch z), (fun _ => by simp), (fun _ hp => nomatch hp), ho, mo⟩
        | succ j =>
          unfold argB at h
          rw [List.getElem?_cons_succ] at h
          by_cases hj : j < ds.length
          · rw [List.getElem?_append_left (by simpa using hj)] at h
            rw [List.getElem?_map, List.getElem?_eq_getElem hj] at h
            simp only [Option.map_some, Option.some.injEq] at h
            subst h
            obtain ⟨v, h1, h2⟩ := i.get (List.getElem?_eq_getElem hj)
            have hv := (List.getElem?_eq_some_iff.mp h1)
            refine ⟨v, ?_, h2⟩
            rw [start_get (by simp; omega)]
            simp [hv.2]
          · rw [List.getElem?_append_right (by simpa using hj)] at h
            rw [List.getElem?_replicate] at h
            split at h <;> cases h
      · have z : ∀ (j : Nat) (dv : DV), (argB N c ds)[j]? = some (some dv) → dv.own = true → j = 0 := by
          intro j dv h o1
          cases j with
          | zero => rfl
          | succ j =>
            exfalso
            unfold argB at h
            rw [List.getElem?_cons_succ] at h
            by_cases hj : j < ds.length
            · rw [List.getElem?_append_left (by simpa using hj)] at h
              rw [List.getElem?_map, List.getElem?_eq_getElem hj] at h
              simp only [Option.map_some, Option.some.injEq] at h
              subst h
              cases o1
            · rw [List.getElem?_append_right (by simpa using hj)] at h
              rw [List.getElem?_replicate] at h
              split at h <;> cases h
        intro _ _
        rw [z j dv h1 o1, z k' dw h2 o2]
    have fin : ∀ ρ F' σ' H' (c' : Mc), Sg K ⟨F, H, [p], []⟩ ρ F' σ' H' → ρ[0]? = some (some (.mu false c')) → ∃ o', F' p = none ∧ H' p = some o' ∧ MuO K F' c' o' := by
      intro ρ F' σ' H' c' s' h0
      obtain ⟨v, g1, q', u, rfl, a1, a2, a3, a4, a5, a6⟩ := s'.sl 0 _ h0
      have : q' = p := by simpa using a3 rfl
      subst this
      exact ⟨u, a1, a5, a6⟩
    refine ⟨⟨F, H, [p], []⟩, argB N c ds, F, endB P', sg, hv c ds P' r, ⟨fun ρ F' σ' H' s' h' => ?_, fun ρ F' σ' H' v dv s' res h' => ?_, fun _ _ _ _ _ h => h, fun _ _ _ _ _ h => h, Hx.never⟩⟩
    · obtain ⟨c', h1, h2⟩ := h'
      obtain ⟨o', f1, f2, f3⟩ := fin ρ F' σ' H' c' s' h1
      exact q F' H' .non (.fz .non) c' o' s'.st s'.fh f1 f2 f3 (by simp [Out, Is]) h2
    · obtain ⟨h0, c', h1, h2⟩ := h'
      obtain ⟨o', f1, f2, f3⟩ := fin ρ F' σ' H' c' s' h1
      refine q F' H' v dv c' o' s'.st s'.fh f1 f2 f3 ?_ h2
      cases dv with
      | fz d => exact res.1
      | lk _ c => exact h0.elim
      | mu b c =>
        obtain ⟨p, o, rfl, h1, h2, h3, h4, h5, h6⟩ := res.1
        exact ⟨p, o, rfl, h0, h1, h2 h0, h5, h6⟩
end
end L2.DL

/-! # DLg.lean -/
set_option Elab.async false
set_option linter.all false
set_option maxRecDepth 100000
namespace L2.DL
open PySem PySem.Spec PyProof.Rows
section
variable {X : Cx} {Wx : WX} {ex ix : Expr} {We Wi : WE} {pos : Pos}
theorem pget_list : PGet X (fun x y H Q => ∃ p xs k v, x = .ref p ∧ y = .int k ∧ SqL X.K H p xs ∧ 0 ≤ k ∧ k < xs.length ∧ xs[k.toNat]? = some v ∧ Q v H) := by
  intro pins s σ H o i ov iv Q I ro ri h
  obtain ⟨p, xs, k, v, rfl, rfl, hq, h0, hk, hx, q⟩ := h
  cases ro
  obtain ⟨t, rfl⟩ := ri
  obtain ⟨its, r, pl, hz⟩ := I.list hq
  obtain ⟨u, hu, ru⟩ := r.get hx
  have := line63
  exact wpAny_getItem_list pl.isList h0 (by omega) (by simpa using hu) ⟨v, H, I, ru, q⟩
/-- xs[i] op= e, xs an own list in its slot -/
def wAugIx (i : Nat) (w : D → D → (DV → Prop) → Prop) (Wi We : WE) : WS := fun E ρ => isMu ρ i ∧ Wi E.ex ρ fun iv ρ1 => match iv with
  | .fz (.int k) => (match ρ1[i]? with
    | some (some (.mu _ (.lst ds))) => 0 ≤ k ∧ k < ds.length ∧ ∃ d, ds[k.toNat]? = some d ∧ We E.ex ρ1 fun bv ρ2 => bv.thn fun db => w d db fun dv => dv.thn fun d' => match ρ2[i]? with
      | some (some (.mu b (.lst ds2))) => ∃ j, ixN ds2.length k = some j ∧ E.nx (ρ2.set i (some (.mu b (.lst (ds2.set j d')))))
      | _ => False
    | _ => False)
  | _ => False
theorem js_augIx {i : Nat} {y : Str} {py tpos : Pos} {op : Operator} {r : R2} {w : D → D → (DV → Prop) → Prop} (hr : BR X.K r w)
    (h0 : PS X (.AugAssign (.Subscript (.Name y py) ix tpos) op ex pos) (tAugS (tVar i) (cE X.K Wx Wi) (cE X.K Wx We) (fun x y H Q => ∃ p xs k v, x = .ref p ∧ y = .int k ∧ SqL X.K H p xs ∧ 0 ≤ k ∧ k < xs.length ∧ xs[k.toNat]? = some v ∧ Q v H) r rSetL)) :
    JS X Wx (.AugAssign (.Subscript (.Name y py) ix tpos) op ex pos) (wAugIx i w Wi We) := PS.wk h0 fun D σ H h => by
  obtain ⟨e, ρ, F, E, s, ⟨hmu, w0⟩, rf⟩ := h
  obtain ⟨pp, hσ⟩ := isMu_at s hmu
  refine ⟨_, hσ, e, ρ, F, E.ex, _, s, w0, rf.ex, fun F1 H1 v1 d1 ρ1 s1 m1 r1 q1 => ?_⟩
  split at q1
  · rename_i k
    have hk : v1 = .int k := by simpa [Res, Sl, Is] using r1.1
    split at q1
    · rename_i b ds hb
      obtain ⟨v', hσ', q', o', rfl, b1, b2, b3, b4, b5, vs', rfl, b6⟩ := s1.sl i _ hb
      rw [hσ] at hσ'
      cases hσ'
      obtain ⟨k0, k1, d, h3, h4⟩ := q1
      obtain ⟨v, h5, h6⟩ := b6.get h3
      refine ⟨pp, vs', k, v, rfl, hk, SqL.of b5, k0, by rw [← b6.len]; exact k1, h5, e, ρ1, F1, E.ex, _, s1, h4, rf.ex, fun F2 H2 v2 d2 ρ2 s2 m2 r2 q2 => ?_⟩
      obtain ⟨F3, db, s3, m3, i3, q3⟩ := s2.data r2 q2
      refine hr e ρ2 F3 σ H2 v v2 d db _ _ s3 (Is.mono (m2.trans m3) _ h6) i3 q3 fun F4 H4 v4 d4 s4 m4 r4 q4 => ?_
      obtain ⟨F5, d5, s5, m5, i5, q5⟩ := s4.data r4 q4
      split at q5
      · rename_i b' ds2 hb2
        obtain ⟨v', hσ', q', o', rfl, c1, c2, c3, c4, c5, vs2, rfl, c6⟩ := s5.sl i _ hb2
        rw [hσ] at hσ'
        cases hσ'
        obtain ⟨j, j1, j2⟩ := q5
        exact ⟨pp, vs2, k, j, rfl, hk, c5, by rw [← c6.len]; exact j1, rf.nx _ F5 σ _ (s5.mut (c' := .lst (ds2.set j d5)) hb2 hσ (o := .lst (vs2.set j v4)) ⟨_, rfl, c6.set i5 j⟩) j2⟩
      · exact q5.elim
    · exact q1.elim
  · exact q1.elim
/-! ints alone: ==, != -/
theorem op_eqI : OpR X (compareOp .Eq) (rI0 fun i j => .bl (decide (i = j))) := by
  intro pins s σ H x y v u Q I rx ry h
  obtain ⟨i, j, rfl, rfl, q⟩ := h
  exact op_eq pins s σ H _ _ v u Q I rx ry ⟨rfl, by simpa using q⟩
theorem op_neI : OpR X (compareOp .NotEq) (rI0 fun i j => .bl (!decide (i = j))) := by
  intro pins s σ H x y v u Q I rx ry h
  obtain ⟨i, j, rfl, rfl, q⟩ := h
  exact op_ne pins s σ H _ _ v u Q I rx ry ⟨rfl, by simpa using q⟩
/-- a try whose body raises nothing -/
theorem js_try_thru {body : List Stmt} {h₀ : ExceptHandler} {hs : List ExceptHandler} {W : WS} (hb : JSs X.nox Wx body W) : JS X Wx (.Try body (h₀ :: hs) [] [] pos) W := PS.wk (ps_try_thru0 hb) fun D σ H h => h
end
end L2.DL

/-! # DLh.lean -/
set_option Elab.async false
set_option linter.all false
set_option maxRecDepth 100000
namespace L2.DL
open PySem PySem.Spec PyProof.Rows
/-! ## loops, in plain Lean -/
abbrev NxI (I : Nat → DEnv → Prop) (i : Nat) : DEnv → Prop := fun ρ3 => ∃ ρ4, Wk ρ3 ρ4 ∧ I i ρ4
theorem nxI {I : Nat → DEnv → Prop} {i : Nat} {ρ3 : DEnv} (ρ4 : DEnv) (h : I i ρ4) (w : Wk ρ3 ρ4) : NxI I i ρ3 := ⟨ρ4, w, h⟩
theorem nxW {I : Nat → DEnv → Prop} {m i : Nat} {ρ3 : DEnv} (ρ4 : DEnv) (h : I i ρ4) (lt : i < m) (w : Wk ρ3 ρ4) : ∃ m' ρ4, m' < m ∧ Wk ρ3 ρ4 ∧ I m' ρ4 := ⟨i, ρ4, lt, w, h⟩
section
variable {xs : List D} {g : WG} {W : WS} {E : DEnds} {ρ : DEnv}
theorem ForP.byI (I : Nat → DEnv → Prop) (h0 : NxI I 0 ρ) (hs : ∀ i ρ' (hi : i < xs.length), I i ρ' → g xs[i] ρ' fun ρ2 => W { E with nx := NxI I (i + 1), ct := NxI I (i + 1), bk := E.nx } ρ2) (he : ∀ ρ', I xs.length ρ' → E.nx ρ') : ForP xs g W E ρ := ⟨I, h0, hs, he⟩
theorem ForP.range {lo : Int} {n : Nat} (I : Nat → DEnv → Prop) (h0 : NxI I 0 ρ) (hs : ∀ i ρ', i < n → I i ρ' → g (.int (lo + (i : Nat))) ρ' fun ρ2 => W { E with nx := NxI I (i + 1), ct := NxI I (i + 1), bk := E.nx } ρ2) (he : ∀ ρ', I n ρ' → E.nx ρ') : ForP (rngD lo 1 n) g W E ρ := by
  refine ⟨I, h0, fun i ρ' hi h => ?_, fun ρ' h => he ρ' (by rwa [rngD_len] at h)⟩
  rw [rngD_get, Int.mul_one]
  exact hs i ρ' (by rwa [rngD_len] at hi) h
theorem ForP.map {α : Type} {l : List α} {f : α → D} (I : Nat → DEnv → Prop) (h0 : NxI I 0 ρ) (hs : ∀ i ρ' (hi : i < l.length), I i ρ' → g (f l[i]) ρ' fun ρ2 => W { E with nx := NxI I (i + 1), ct := NxI I (i + 1), bk := E.nx } ρ2) (he : ∀ ρ', I l.length ρ' → E.nx ρ') : ForP (l.map f) g W E ρ := by
  refine ⟨I, h0, fun i ρ' hi h => ?_, fun ρ' h => he ρ' (by rwa [List.length_map] at h)⟩
  rw [List.getElem_map]
  exact hs i ρ' (by rwa [List.length_map] at hi) h
theorem WhileP.byI {Wt : WT} (I : Nat → DEnv → Prop) (m : Nat) (h0 : NxI I m ρ) (hs : ∀ ρ1 m, I m ρ1 → Wt E.ex ρ1 fun b ρ2 => ift b (W { E with nx := fun ρ3 => ∃ m' ρ4, m' < m ∧ Wk ρ3 ρ4 ∧ I m' ρ4, ct := fun ρ3 => ∃ m' ρ4, m' < m ∧ Wk ρ3 ρ4 ∧ I m' ρ4, bk := E.nx } ρ2) (E.nx ρ2)) : WhileP Wt W E ρ := ⟨I, ⟨m, h0⟩, hs⟩
end
section
variable {xs : List D} {g : WG} {Wt : WT} {We : WE} {vs : List Nat} {ρ ρw : DEnv} {P : DV → DEnv → Prop}
/-- a comprehension without a test whose element changes nothing: its turn's end -/
def LcE (f : Nat → D) (vs : List Nat) (ρw : DEnv) (i : Nat) (d : D) (ρ4 : DEnv) : Prop := d = f i ∧ Wk (wipeD ρ4 vs) ρw
def LcN (f : Nat → D) (vs : List Nat) (ρw : DEnv) (i : Nat) (acc : List D) (d : D) (ρ4 : DEnv) : Prop := acc.length < sizeLine ∧ ∃ ρ5, Wk (wipeD ρ4 vs) ρ5 ∧ (acc ++ [d] = (List.range (i + 1)).map f ∧ ρ5 = ρw)
theorem lcN {f : Nat → D} {i : Nat} {acc : List D} {d : D} {ρ4 : DEnv} (hz : xs.length ≤ sizeLine) (hi : i < xs.length) (ha : acc = (List.range i).map f) (h1 : d = f i) (h2 : Wk (wipeD ρ4 vs) ρw) : LcN f vs ρw i acc d ρ4 := by
  subst ha h1
  refine ⟨by simp; omega, ρw, h2, ?_, rfl⟩
  rw [List.range_succ, List.map_append]
  rfl
theorem LcP.map (f : Nat → D) (hw : Wk (wipeD ρ vs) ρw)
    (hs : ∀ i acc (hi : i < xs.length), acc = (List.range i).map f → g xs[i] ρw fun ρ2 => We NX ρ2 fun y ρ4 => y.thn fun d => LcN f vs ρw i acc d ρ4) (he : P (.mu true (.lst ((List.range xs.length).map f))) (backD ρ ρw vs)) : LcP xs g wYes We vs ρ P := by
  refine ⟨fun i acc ρ' => acc = (List.range i).map f ∧ ρ' = ρw, ⟨ρw, hw, rfl, rfl⟩, fun i acc ρ' hi h => ?_, fun acc ρ' h => ?_⟩
  · obtain ⟨h1, rfl⟩ := h
    exact hs i acc hi h1
  · obtain ⟨rfl, rfl⟩ := h
    exact he
end
end L2.DL

/-! # DLi.lean -/
set_option Elab.async false
set_option linter.all false
set_option maxRecDepth 100000
namespace L2.DL
open PySem PySem.Spec PyProof.Rows
/-! ## dicts that are walked -/
def isLk : Option DV → Bool
  | some (.lk _ _) => true
  | _ => false
def noLk (ρ : DEnv) : Prop := ∀ x, x ∈ ρ → isLk x = false
section
variable {K : PySem.W.Frag} {e : Ent} {ρ : DEnv} {F : Hp} {σ : St} {H : Hp} {i : Nat} {c : Mc}
/-- the object of a slot is locked -/
theorem Sg.lock (s : Sg K e ρ F σ H) (hi : ρ[i]? = some (some (.mu true c))) : ∃ p o, σ[i]? = some (some (.ref p)) ∧ H p = some o ∧ MuO K F c o ∧ F p = none ∧ e.H p = none ∧
    ∀ od, Sg K (e.pinned p (.frz od o)) (ρ.set i (some (.lk p c))) F σ (upd H p (.frz od o)) := by
  obtain ⟨v, g1, p, o, rfl, a1, a2, a3, a4, a5, a6⟩ := s.sl i _ hi
  have hil : i < ρ.length := (List.getElem?_eq_some_iff.mp hi).1
  have he := a2 rfl
  have old : ∀ (j : Nat) (dw : DV), (ρ.set i (some (.lk p c)))[j]? = some (some dw) → j ≠ i → ρ[j]? = some (some dw) := fun j dw h n => by
    rwa [List.getElem?_set_ne (Ne.symm n)] at h
  refine ⟨p, o, g1, a5, a6, a1, he, fun od => ⟨fun b u h => ?_, ⟨s.st.ff, fun q u h n => ?_, fun q u h => ?_, s.st.old⟩, by simp [s.len], fun j dw h => ?_, fun j k dw dx w h1 h2 o1 o2 g1' g2 => ?_, fun r hr => ?_⟩⟩
  · rw [upd_ne (ne_of_none h a1)]; exact s.fh _ _ h
  · have h : e.H q = some u := h
    have : q ≠ p := ne_of_none h he
    rw [upd_ne this]; exact s.st.keep q u h n
  · have h : e.H q = some u := h
    have : q ≠ p := ne_of_none h he
    rw [upd_ne this]; exact s.st.there q u h
  · by_cases hj : j = i
    · subst hj
      rw [List.getElem?_set_self hil] at h; cases h
      exact ⟨_, g1, o, od, rfl, List.mem_cons_self, a6⟩
    · have h' := old j dw h hj
      obtain ⟨w, b1, b2⟩ := s.sl j dw h'
      refine ⟨w, b1, ?_⟩
      cases dw with
      | fz d => exact b2
      | lk q c =>
        obtain ⟨u, od', rfl, c1, c2⟩ := b2
        exact ⟨u, od', rfl, List.mem_cons_of_mem _ c1, c2⟩
      | mu b' c2 =>
        obtain ⟨r, u2, rfl, c1, c2, c3, c4, c5, c6⟩ := b2
        have : r ≠ p := fun z => hj (s.ap j i _ _ _ h' hi rfl rfl b1 (by rw [g1, z]))
        refine ⟨r, u2, rfl, c1, c2, c3, fun u' hu => ?_, by rw [upd_ne this]; exact c5, c6⟩
        rcases List.mem_cons.mp hu with z | z
        · cases z; exact this rfl
        · exact c4 u' z
  · by_cases hj : j = i
    · subst hj
      rw [List.getElem?_set_self hil] at h1; cases h1; cases o1
    · by_cases hk : k = i
      · subst hk
        rw [List.getElem?_set_self hil] at h2; cases h2; cases o2
      · exact s.ap j k _ _ w (old j dw h1 hj) (old k dx h2 hk) o1 o2 g1' g2
  · rcases List.mem_cons.mp hr with z | z
    · subst z; exact ⟨upd_same, a1, he⟩
    · obtain ⟨b1, b2, b3⟩ := s.pin r z
      have : r.1 ≠ p := fun z' => a4 r.2 (by rw [← z']; exact z)
      exact ⟨by rw [upd_ne this]; exact b1, b2, b3⟩
/-- .. and unlocked -/
theorem Sg.unlock {p : Addr} {o : HO} {od : Obj} (np : ∀ u, (p, u) ∉ e.pn) (s : Sg K (e.pinned p (.frz od o)) ρ F σ H) (hi : ρ[i]? = some (some (.lk p c))) (m : MuO K F c o) (nl : ∀ (j : Nat) (x : DV), j ≠ i → ρ[j]? = some (some x) → isLk (some x) = false) :
    H p = some (.frz od o) ∧ Sg K e (ρ.set i (some (.mu true c))) F σ (upd H p o) := by
  obtain ⟨h1, h2, h3⟩ := s.pin (p, .frz od o) List.mem_cons_self
  have h1 : H p = some (.frz od o) := h1
  have h2 : F p = none := h2
  have h3 : e.H p = none := h3
  have hσ : σ[i]? = some (some (.ref p)) := by
    obtain ⟨v, a, o, od, rfl, _⟩ := s.sl i _ hi
    exact a
  have hil : i < ρ.length := (List.getElem?_eq_some_iff.mp hi).1
  have old : ∀ (j : Nat) (dw : DV), (ρ.set i (some (.mu true c)))[j]? = some (some dw) → j ≠ i → ρ[j]? = some (some dw) := fun j dw h n => by
    rwa [List.getElem?_set_ne (Ne.symm n)] at h
  have apart : ∀ (j : Nat) (dw : DV), ρ[j]? = some (some dw) → dw.own = true → σ[j]? ≠ some (some (.ref p)) := fun j dw h ho z => by
    obtain ⟨w, b1, b2⟩ := s.sl j dw h
    rw [z] at b1; cases b1
    cases dw with
    | fz d => cases ho
    | lk _ c => cases ho
    | mu b' c2 =>
      obtain ⟨r, u2, e1, c1, c2, c3, c4, c5, c6⟩ := b2
      cases e1
      exact c4 _ List.mem_cons_self
  refine ⟨h1, ⟨fun b u h => ?_, ⟨s.st.ff, fun q u h n => ?_, fun q u h => ?_, s.st.old⟩, by simp [s.len], fun j dw h => ?_, fun j k dw dx w h1' h2' o1 o2 g1' g2 => ?_, fun r hr => ?_⟩⟩
  · rw [upd_ne (ne_of_none h h2)]; exact s.fh _ _ h
  · have : q ≠ p := fun z => by subst z; rw [h3] at h; cases h
    rw [upd_ne this]; exact s.st.keep q u h n
  · have : q ≠ p := fun z => by subst z; rw [h3] at h; cases h
    rw [upd_ne this]; exact s.st.there q u h
  · by_cases hj : j = i
    · subst hj
      rw [List.getElem?_set_self hil] at h; cases h
      exact ⟨_, hσ, p, o, rfl, h2, fun _ => h3, (fun z => nomatch z), np, upd_same, m⟩
    · have h' := old j dw h hj
      obtain ⟨w, b1, b2⟩ := s.sl j dw h'
      refine ⟨w, b1, ?_⟩
      cases dw with
      | fz d => exact b2
      | lk _ c => exact absurd (nl j _ hj h') (by simp [isLk])
      | mu b' c2 =>
        obtain ⟨r, u2, rfl, c1, c2, c3, c4, c5, c6⟩ := b2
        have : r ≠ p := fun z => apart j _ h' rfl (by rw [b1, z])
        exact ⟨r, u2, rfl, c1, c2, c3, fun u' hu => c4 u' (List.mem_cons_of_mem _ hu), by rw [upd_ne this]; exact c5, c6⟩
  · by_cases hj : j = i
    · by_cases hk : k = i
      · rw [hj, hk]
      · exfalso
        subst hj
        rw [hσ] at g1'; cases g1'
        exact apart k dx (old k dx h2' hk) o2 g2
    · by_cases hk : k = i
      · exfalso
        subst hk
        rw [hσ] at g2; cases g2
        exact apart j dw (old j dw h1' hj) o1 g1'
      · exact s.ap j k _ _ w (old j dw h1' hj) (old k dx h2' hk) o1 o2 g1' g2
  · obtain ⟨b1, b2, b3⟩ := s.pin r (List.mem_cons_of_mem _ hr)
    have : r.1 ≠ p := fun z' => np r.2 (by rw [← z']; exact hr)
    exact ⟨by rw [upd_ne this]; exact b1, b2, b3⟩
end
section
variable {X : Cx} {Wx : WX} {ex ix : Expr} {We Wk' : WE} {pos py : Pos} {y : Str} {i : Nat} {tg : Expr}
def mutMc : Mc → Prop
  | .lst _ => True
  | .dk _ => True
  | .dt _ => True
  | .ins _ _ => True
theorem mut_of {K : PySem.W.Frag} {F : Hp} {c : Mc} {o : HO} (m : MuO K F c o) : Mut (some o) := by
  cases c with
  | lst ds => obtain ⟨vs, rfl, _⟩ := m; trivial
  | dk ds => obtain ⟨vs, rfl, _⟩ := m; trivial
  | dt ds => obtain ⟨vs, rfl, _⟩ := m; trivial
  | ins C fs => obtain ⟨dx, vs, rfl, _⟩ := m; trivial
/-- an expression while the dict of a slot is locked -/
def wLock (i : Nat) (W : WE) : WE := fun EX ρ P => noLk ρ ∧ match ρ[i]? with
  | some (some (.mu true c)) => ∀ p, W NX (ρ.set i (some (.lk p c))) fun dv ρ1 => dv.mine ∧ ρ1[i]? = some (some (.lk p c)) ∧ (∀ x, x ∈ ρ1.set i none → isLk x = false) ∧ P dv (ρ1.set i (some (.mu true c)))
  | _ => False
theorem je_lock (h : JE X NW ex We) : JE X Wx ex (wLock i We) := by
  refine PE.wk (pe_lock h) fun σ H Q h => ?_
  obtain ⟨e, ρ, F, EX, P, s, ⟨nl, w0⟩, hx, k⟩ := h
  split at w0
  · rename_i c hi
    obtain ⟨v, g1, p, o, rfl, a1, a2, a3, a4, a5, a6⟩ := s.sl i _ hi
    obtain ⟨p', o', h1, h2, h3, h4, h5, h6⟩ := s.lock hi
    rw [g1] at h1; cases h1
    rw [a5] at h2; cases h2
    refine ⟨p, o, a5, mut_of a6, fun od => ⟨e.pinned p (.frz od o), _, F, NX, _, h6 od, w0 p, Hx.never, fun F1 H1 v1 d1 ρ1 s1 m1 r1 q1 => ?_⟩⟩
    obtain ⟨q0, q1, q2, q3⟩ := q1
    have nl' : ∀ (j : Nat) (x : DV), j ≠ i → ρ1[j]? = some (some x) → isLk (some x) = false := fun j x hj hx => by
      refine q2 (some x) ?_
      have : (ρ1.set i none)[j]? = some (some x) := by rw [List.getElem?_set_ne (Ne.symm hj)]; exact hx
      exact List.mem_of_getElem? this
    obtain ⟨u1, u2⟩ := Sg.unlock a4 s1 q1 (a6.mono m1) nl'
    refine ⟨u1, k F1 _ v1 d1 _ u2 m1 ?_ q3⟩
    cases d1 with
    | fz d => exact Res.fz r1.1
    | lk _ c => exact q0.elim
    | mu b c2 =>
      obtain ⟨⟨r, u, rfl, c1, c2, c3, c4, c5, c6⟩, nd⟩ := r1
      have hb : b = true := q0
      have hrp : r ≠ p := fun z => c4 (.frz od o) (by rw [z]; exact List.mem_cons_self)
      refine ⟨⟨r, u, rfl, c1, c2, (fun z => by rw [hb] at z; cases z), fun u' hu => c4 u' (List.mem_cons_of_mem _ hu), by rw [upd_ne hrp]; exact c5, c6⟩, fun _ j dw hj ho z => ?_⟩
      by_cases hji : j = i
      · subst hji
        rw [g1] at z
        exact hrp (by cases z; rfl)
      · rw [List.getElem?_set_ne (Ne.symm hji)] at hj
        exact nd rfl j dw hj ho z
  · exact w0.elim
/-- what is walked of a locked dict: its keys, its values, both -/
def keyD : Key → D
  | .inl i => .int i
  | .inr x => .str x
theorem keyD_is {K : PySem.W.Frag} {F : Hp} (k : Key) : Is K F (keyD k) (kV k) := by cases k <;> simp [keyD, kV, Is]
def wKeysL (i : Nat) : WI := fun _ ρ P => match ρ[i]? with
  | some (some (.lk _ (.dk kvs))) => P (kvs.map fun kv => keyD kv.1) ρ
  | _ => False
theorem kvd_get {K : PySem.W.Frag} {F : Hp} {κ : Type} : ∀ {xs : List (κ × D)} {ys : List (κ × V)}, KVD K F xs ys → ∀ {i : Nat} {k : κ} {v : V}, ys[i]? = some (k, v) → ∃ d, xs[i]? = some (k, d) ∧ Is K F d v
  | [], _, .nil, i, k, v, h => by simp at h
  | (k1, d1) :: xs, (k2, v2) :: ys, .cons h t, 0, k, v, q => by
    simp at q
    obtain ⟨rfl, rfl⟩ := q
    have e : k1 = k2 := h.1
    subst e
    exact ⟨d1, by simp, h.2⟩
  | (k1, d1) :: xs, (k2, v2) :: ys, .cons h t, i + 1, k, v, q => by
    simp only [List.getElem?_cons_succ] at q ⊢
    exact kvd_get t q
theorem ji_keysL (h : PE X (.Name y py) (tVar i)) : JI X Wx tg (.Name y py) (wKeysL i) := by
  refine PI.wk (pi_keys h) fun σ H R h => ?_
  obtain ⟨e, ρ, F, EX, P, s, w0, hx, k⟩ := h
  unfold wKeysL at w0
  split at w0
  · rename_i p kvs hi
    obtain ⟨v, g1, o, od, rfl, a1, vs, rfl, a2⟩ := s.sl i _ hi
    have h0 : H p = some (.frz od (.dK vs)) := (s.pin _ a1).1
    refine ⟨_, g1, p, od, rfl, .inl ⟨vs, h0, k F H _ ρ _ _ _ _ s (Same.refl _) w0 (walk_keys (kvs := vs)) (by rw [List.length_map, a2.len]) ⟨fun e' ρ' F2 σ' H' s' m' hp => (s'.pin _ (hp _ a1)).1, fun j H1 x H' hj _ y => ?_⟩⟩⟩
    obtain ⟨rfl, kk, vv, h1, rfl⟩ := y
    obtain ⟨d, h2, h3⟩ := kvd_get a2 h1
    exact .inl ⟨rfl, keyD kk, by rw [List.getElem?_map, h2]; rfl, keyD_is kk⟩
  · exact w0.elim
def wValsL (i : Nat) : WI := fun _ ρ P => match ρ[i]? with
  | some (some (.lk _ (.dk kvs))) => P (kvs.map fun kv => kv.2) ρ
  | _ => False
theorem ji_valsL {apos cpos : Pos} (h : PE X (.Name y py) (tVar i)) (hbase : attributeBase (.Name y py) "values" X.env (eval (.Name y py) X.env) = eval (.Name y py) X.env := by rfl) (hline : (apos.endLine == cpos.line) = true := by rfl) :
    JI X Wx tg (.Call (.Attribute (.Name y py) "values" apos) [] [] cpos) (wValsL i) := by
  refine PI.wk (pi_values h hbase hline) fun σ H R h => ?_
  obtain ⟨e, ρ, F, EX, P, s, w0, hx, k⟩ := h
  unfold wValsL at w0
  split at w0
  · rename_i p kvs hi
    obtain ⟨v, g1, o, od, rfl, a1, vs, rfl, a2⟩ := s.sl i _ hi
    have h0 : H p = some (.frz od (.dK vs)) := (s.pin _ a1).1
    refine ⟨_, g1, p, od, vs, rfl, h0, k F H _ ρ _ _ _ _ s (Same.refl _) w0 (walk_values (kvs := vs)) (by rw [List.length_map, a2.len]) ⟨fun e' ρ' F2 σ' H' s' m' hp => (s'.pin _ (hp _ a1)).1, fun j H1 x H' hj _ y => ?_⟩⟩
    obtain ⟨rfl, kk, h1⟩ := y
    obtain ⟨d, h2, h3⟩ := kvd_get a2 h1
    exact .inl ⟨rfl, d, by rw [List.getElem?_map, h2]; rfl, h3⟩
  · exact w0.elim
def wItemsL (i : Nat) : WI := fun _ ρ P => match ρ[i]? with
  | some (some (.lk _ (.dk kvs))) => P (kvs.map fun kv => .tup [keyD kv.1, kv.2]) ρ
  | _ => False
theorem ji_itemsL {apos cpos tpos : Pos} {elts : List Expr} {kk : Nat} (h : PE X (.Name y py) (tVar i)) (hbase : attributeBase (.Name y py) "items" X.env (eval (.Name y py) X.env) = eval (.Name y py) X.env := by rfl) (hline : (apos.endLine == cpos.line) = true := by rfl) :
    JI X Wx (.Tuple elts kk tpos) (.Call (.Attribute (.Name y py) "items" apos) [] [] cpos) (wItemsL i) := by
  refine PI.wk (pi_items h hbase hline) fun σ H R h => ?_
  obtain ⟨e, ρ, F, EX, P, s, w0, hx, k⟩ := h
  unfold wItemsL at w0
  split at w0
  · rename_i p kvs hi
    obtain ⟨v, g1, o, od, rfl, a1, vs, rfl, a2⟩ := s.sl i _ hi
    have h0 : H p = some (.frz od (.dK vs)) := (s.pin _ a1).1
    refine ⟨_, g1, p, od, vs, rfl, h0, k F H _ ρ _ _ _ _ s (Same.refl _) w0 (walk_items (kvs := vs)) (by rw [List.length_map, a2.len]) ⟨fun e' ρ' F2 σ' H' s' m' hp => (s'.pin _ (hp _ a1)).1, fun j H1 x H' hj _ y => ?_⟩⟩
    obtain ⟨T, y1, y2, rfl, hT, rfl, e1, e2⟩ := y
    obtain ⟨⟨k3, v3⟩, h4, h5⟩ := Option.map_eq_some_iff.mp e1
    have e2 : (vs[j]?).map Prod.snd = some y2 := e2
    rw [h4] at e2
    simp only [Option.map_some, Option.some.injEq] at e2
    subst h5 e2
    obtain ⟨d, h2, h3⟩ := kvd_get a2 h4
    exact .inr ⟨T, _, [keyD k3, d], rfl, hT, rfl, by rw [List.getElem?_map, h2]; rfl, .cons (keyD_is k3) (.one h3)⟩
  · exact w0.elim
/-- d[k] of a locked dict -/
def wDGetL (i : Nat) (Wk : WE) : WE := fun EX ρ P => (∃ p kvs, ρ[i]? = some (some (.lk p (.dk kvs)))) ∧ Wk EX ρ fun kv ρ1 => kv.thn fun kd => match ρ1[i]? with
    | some (some (.lk _ (.dk kvs))) => ∃ k d, kd.key = some k ∧ valD kvs k = some d ∧ P (.fz d) ρ1
    | _ => False
theorem je_dgetL (hu : X.A.units + 1 < cLine) (hv : PE X (.Name y py) (tVar i)) (hi : JE X Wx ix Wk') (hs : NoSl ix) : JE X Wx (.Subscript (.Name y py) ix pos) (wDGetL i Wk') := by
  refine PE.wk (pe_dget hu hv hi hs) fun σ H Q h => ?_
  obtain ⟨e, ρ, F, EX, P, s, ⟨⟨pp, kv0, h0⟩, w0⟩, hx, k⟩ := h
  obtain ⟨v, hσ, o, od, rfl, _, _⟩ := s.sl i _ h0
  refine ⟨_, hσ, e, ρ, F, EX, _, s, w0, hx, fun F1 H1 v1 d1 ρ1 s1 m1 r1 q1 => ?_⟩
  obtain ⟨F2, kd, s2, m2, i2, q2⟩ := s1.data r1 q1
  split at q2
  · rename_i p' kvs hi'
    obtain ⟨v', hσ', o', od', rfl, b1, vs, rfl, b2⟩ := s2.sl i _ hi'
    rw [hσ] at hσ'
    cases hσ'
    obtain ⟨kk, d, k1, k2, k3⟩ := q2
    rcases b2.val (k := kk) with ⟨z, _⟩ | ⟨d', v', z1, z2, z3⟩
    · rw [k2] at z; cases z
    · rw [k2] at z1; cases z1
      exact ⟨pp, v', rfl, .inl ⟨vs, kk, .inr ⟨od', (s2.pin _ b1).1⟩, key_is i2 k1, z2.symm⟩, k F2 H1 v' _ ρ1 s2 (m1.trans m2) (Res.fz z3) k3⟩
  · exact q2.elim
/-- for .. over a dict, the statement under a lock -/
def wLockS (i : Nat) (W : WS) : WS := fun E ρ => noLk ρ ∧ match ρ[i]? with
  | some (some (.mu true c)) => ∀ p, W { nx := fun ρ1 => ρ1[i]? = some (some (.lk p c)) ∧ (∀ x, x ∈ ρ1.set i none → isLk x = false) ∧ E.nx (ρ1.set i (some (.mu true c))), rt := fun _ _ => False } (ρ.set i (some (.lk p c)))
  | _ => False
theorem js_lock {st : Stmt} {W : WS} (h : JS X NW st W) : JS X Wx st (wLockS i W) := PS.wk (ps_lock h) fun D σ H h => by
  obtain ⟨e, ρ, F, E, s, ⟨nl, w0⟩, r⟩ := h
  split at w0
  · rename_i c hi
    obtain ⟨v, g1, p, o, rfl, a1, a2, a3, a4, a5, a6⟩ := s.sl i _ hi
    obtain ⟨p', o', h1, h2, h3, h4, h5, h6⟩ := s.lock hi
    rw [g1] at h1; cases h1
    rw [a5] at h2; cases h2
    have to : ∀ od ρ F' σ H, Sg X.K (e.pinned p (.frz od o)) ρ F' σ H → F' = F → Sg X.K { e.pinned p (.frz od o) with F := F } ρ F' σ H := fun od ρ F' σ H s1 hF => by
      subst hF
      exact ⟨s1.fh, ⟨Same.refl _, s1.st.keep, s1.st.there, fun q u hq hn => hn⟩, s1.len, s1.sl, s1.ap, s1.pin⟩
    have fro : ∀ od ρ F' σ H, Sg X.K { e.pinned p (.frz od o) with F := F } ρ F' σ H → Sg X.K (e.pinned p (.frz od o)) ρ F' σ H ∧ Same F F' := fun od ρ F' σ H s1 =>
      ⟨⟨s1.fh, ⟨s.st.ff.trans s1.st.ff, s1.st.keep, s1.st.there, fun q u hq hn => s1.st.old q u hq (s.st.old q u hq hn)⟩, s1.len, s1.sl, s1.ap, s1.pin⟩, s1.st.ff⟩
    refine ⟨p, o, a5, mut_of a6, fun od => ⟨{ e.pinned p (.frz od o) with F := F }, _, F, _, to od _ _ _ _ (h6 od) rfl, w0 p, ⟨fun ρ1 F1 σ1 H1 s1 q1 => ?_, fun _ _ _ _ _ _ _ _ h => h.elim, fun _ _ _ _ _ h => h.elim, fun _ _ _ _ _ h => h.elim, Hx.never⟩⟩⟩
    obtain ⟨s1, m1⟩ := fro _ _ _ _ _ s1
    obtain ⟨q1, q2, q3⟩ := q1
    have nl' : ∀ (j : Nat) (x : DV), j ≠ i → ρ1[j]? = some (some x) → isLk (some x) = false := fun j x hj hx => by
      refine q2 (some x) ?_
      have : (ρ1.set i none)[j]? = some (some x) := by rw [List.getElem?_set_ne (Ne.symm hj)]; exact hx
      exact List.mem_of_getElem? this
    obtain ⟨u1, u2⟩ := Sg.unlock a4 s1 q1 (a6.mono m1) nl'
    exact ⟨u1, r.nx _ F1 σ1 _ u2 q3⟩
  · exact w0.elim
end
/-! ## comprehensions with a test -/
section
variable {xs : List D} {g : WG} {Wt : WT} {We : WE} {vs : List Nat} {ρ ρw : DEnv} {P : DV → DEnv → Prop}
def LcK (q : Nat → Bool) (f : Nat → D) (vs : List Nat) (ρw : DEnv) (i : Nat) (acc : List D) (d : D) (ρ4 : DEnv) : Prop := acc.length < sizeLine ∧ ∃ ρ5, Wk (wipeD ρ4 vs) ρ5 ∧ (acc ++ [d] = ((List.range (i + 1)).filter q).map f ∧ ρ5 = ρw)
def LcS (q : Nat → Bool) (f : Nat → D) (vs : List Nat) (ρw : DEnv) (i : Nat) (acc : List D) (ρ3 : DEnv) : Prop := ∃ ρ5, Wk (wipeD ρ3 vs) ρ5 ∧ (acc = ((List.range (i + 1)).filter q).map f ∧ ρ5 = ρw)
theorem lcK {q : Nat → Bool} {f : Nat → D} {i : Nat} {acc : List D} {d : D} {ρ4 : DEnv} (hz : xs.length ≤ sizeLine) (hi : i < xs.length) (ha : acc = ((List.range i).filter q).map f) (hq : q i = true) (h1 : d = f i) (h2 : Wk (wipeD ρ4 vs) ρw) : LcK q f vs ρw i acc d ρ4 := by
  subst ha h1
  refine ⟨?_, ρw, h2, ?_, rfl⟩
  · rw [List.length_map]
    have := List.length_filter_le q (List.range i)
    rw [List.length_range] at this
    omega
  · rw [List.range_succ, List.filter_append, List.map_append]
    simp [hq]
theorem lcS {q : Nat → Bool} {f : Nat → D} {i : Nat} {acc : List D} {ρ3 : DEnv} (ha : acc = ((List.range i).filter q).map f) (hq : q i = false) (h2 : Wk (wipeD ρ3 vs) ρw) : LcS q f vs ρw i acc ρ3 := by
  subst ha
  refine ⟨ρw, h2, ?_, rfl⟩
  rw [List.range_succ, List.filter_append, List.map_append]
  simp [hq]
theorem LcP.filt (q : Nat → Bool) (f : Nat → D) (hw : Wk (wipeD ρ vs) ρw)
    (hs : ∀ i acc (hi : i < xs.length), acc = ((List.range i).filter q).map f → g xs[i] ρw fun ρ2 => Wt NX ρ2 fun b ρ3 => ift b (We NX ρ3 fun y ρ4 => y.thn fun d => LcK q f vs ρw i acc d ρ4) (LcS q f vs ρw i acc ρ3)) (he : P (.mu true (.lst (((List.range xs.length).filter q).map f))) (backD ρ ρw vs)) : LcP xs g Wt We vs ρ P := by
  refine ⟨fun i acc ρ' => acc = ((List.range i).filter q).map f ∧ ρ' = ρw, ⟨ρw, hw, rfl, rfl⟩, fun i acc ρ' hi h => ?_, fun acc ρ' h => ?_⟩
  · obtain ⟨h1, rfl⟩ := h
    exact hs i acc hi h1
  · obtain ⟨rfl, rfl⟩ := h
    exact he
/-- any comprehension by its invariant -/
theorem LcP.byI (I : Nat → List D → DEnv → Prop) (h0 : ∃ ρ', Wk (wipeD ρ vs) ρ' ∧ I 0 [] ρ')
    (hs : ∀ i acc ρ' (hi : i < xs.length), I i acc ρ' → g xs[i] ρ' fun ρ2 => Wt NX ρ2 fun b ρ3 => ift b (We NX ρ3 fun y ρ4 => y.thn fun d => acc.length < sizeLine ∧ ∃ ρ5, Wk (wipeD ρ4 vs) ρ5 ∧ I (i + 1) (acc ++ [d]) ρ5) (∃ ρ5, Wk (wipeD ρ3 vs) ρ5 ∧ I (i + 1) acc ρ5))
    (he : ∀ acc ρ', I xs.length acc ρ' → P (.mu true (.lst acc)) (backD ρ ρ' vs)) : LcP xs g Wt We vs ρ P := ⟨I, h0, hs, he⟩
end
end L2.DL

/-! # DLj.lean -/
set_option Elab.async false
set_option linter.all false
set_option maxRecDepth 100000
namespace L2.DL
open PySem PySem.Spec PyProof.Rows
/-! ## what is equal, by its type -/
class Da (α : Type) [DecidableEq α] where
  d : α → D
  p : α → PyData
  dp : ∀ a, (d a).py = some (p a)
  lay : ∀ a, (p a).canLay0 = true
  dep : Nat
  le : ∀ a, (p a).depth ≤ dep
  eqv : ∀ a b, PyData.eqv (p a) (p b) = decide (a = b)
instance : Da Int := ⟨.int, .int, fun _ => rfl, fun _ => rfl, 0, fun _ => Nat.le_refl _, fun a b => by simp only [PyData.eqv]; rw [Bool.eq_iff_iff, beq_iff_eq, decide_eq_true_eq]⟩
instance : Da Bool := ⟨.bl, .bool, fun _ => rfl, fun _ => rfl, 0, fun _ => Nat.le_refl _, fun a b => by simp only [PyData.eqv]; rw [Bool.eq_iff_iff, beq_iff_eq, decide_eq_true_eq]⟩
section
variable {α β : Type} [DecidableEq α] [Da α] [DecidableEq β] [Da β]
theorem da_py : ∀ xs : List α, pyL (xs.map Da.d) = some (xs.map Da.p)
  | [] => rfl
  | x :: xs => by simp only [List.map_cons, pyL, Da.dp x, da_py xs]
theorem da_lay : ∀ xs : List α, PyData.canLayAll0 (xs.map Da.p) = true
  | [] => rfl
  | x :: xs => by rw [List.map_cons, PyData.canLayAll0, Da.lay x, da_lay xs]; rfl
theorem da_dep : ∀ xs : List α, PyData.depthAll (xs.map Da.p) ≤ Da.dep α
  | [] => Nat.zero_le _
  | x :: xs => by
    rw [List.map_cons, PyData.depthAll]
    exact Nat.max_le.mpr ⟨Da.le x, da_dep xs⟩
theorem da_eqv : ∀ xs ys : List α, PyData.eqvAll (xs.map Da.p) (ys.map Da.p) = decide (xs = ys)
  | [], [] => by simp only [List.map_nil, PyData.eqvAll, decide_true]
  | [], _ :: _ => by simp [PyData.eqvAll]
  | _ :: _, [] => by simp [PyData.eqvAll]
  | x :: xs, y :: ys => by
    rw [List.map_cons, List.map_cons, PyData.eqvAll, Da.eqv x y, da_eqv xs ys, ← Bool.decide_and]
    exact decide_eq_decide.mpr (by rw [List.cons.injEq])
instance : Da (List α) := ⟨fun xs => .lst (xs.map Da.d), fun xs => .list (xs.map Da.p), fun xs => by simp only [D.py, da_py]; rfl, fun xs => by simp only [PyData.canLay0]; exact da_lay xs, Da.dep α + 1,
  fun xs => by simp only [PyData.depth]; exact Nat.succ_le_succ (da_dep xs), fun xs ys => by simp only [PyData.eqv]; exact da_eqv xs ys⟩
/-- a tuple of any length -/
structure Tu (α : Type) where
  l : List α
  deriving DecidableEq
instance : Da (Tu α) := ⟨fun t => .tup (t.l.map Da.d), fun t => .tuple (t.l.map Da.p), fun t => by simp only [D.py, da_py]; rfl, fun t => by simp only [PyData.canLay0]; exact da_lay t.l, Da.dep α + 1,
  fun t => by simp only [PyData.depth]; exact Nat.succ_le_succ (da_dep t.l), fun t u => by
    simp only [PyData.eqv]; rw [da_eqv]
    exact decide_eq_decide.mpr ⟨fun e => by cases t; cases u; exact congrArg Tu.mk e, fun e => by rw [e]⟩⟩
instance : Da (α × β) := ⟨fun p => .tup [Da.d p.1, Da.d p.2], fun p => .tuple [Da.p p.1, Da.p p.2], fun p => by simp only [D.py, pyL, Da.dp]; rfl, fun p => by simp only [PyData.canLay0, PyData.canLayAll0, Da.lay, Bool.and_self], max (Da.dep α) (Da.dep β) + 1,
  fun p => by
    simp only [PyData.depth, PyData.depthAll]
    exact Nat.succ_le_succ (Nat.max_le.mpr ⟨Nat.le_trans (Da.le p.1) (Nat.le_max_left _ _), Nat.max_le.mpr ⟨Nat.le_trans (Da.le p.2) (Nat.le_max_right _ _), Nat.zero_le _⟩⟩), fun p q => by
    simp only [PyData.eqv, PyData.eqvAll]
    rw [Da.eqv, Da.eqv, Bool.and_true, ← Bool.decide_and]
    exact decide_eq_decide.mpr ⟨fun e => Prod.ext e.1 e.2, fun e => by rw [e]; exact ⟨rfl, rfl⟩⟩⟩
theorem da_shaped (h : Da.dep α ≤ 64) (a : α) : SeqAt.shaped (Da.p a) = true := by
  unfold SeqAt.shaped
  rw [Bool.and_eq_true]
  exact ⟨Da.lay a, decide_eq_true (Nat.le_trans (Da.le a) h)⟩
theorem deq (h : Da.dep α ≤ 64) (a b : α) : DEq (Da.d a) (Da.d b) (decide (a = b)) := ⟨_, _, Da.dp a, Da.dp b, da_shaped h a, da_shaped h b, Da.eqv a b⟩
end
theorem deq_int (a b : Int) : DEq (.int a) (.int b) (decide (a = b)) := deq (α := Int) (Nat.zero_le _) a b
theorem deq_bl (a b : Bool) : DEq (.bl a) (.bl b) (decide (a = b)) := deq (α := Bool) (Nat.zero_le _) a b
theorem deq_ints (a b : List Int) : DEq (.lst (a.map .int)) (.lst (b.map .int)) (decide (a = b)) := deq (α := List Int) (by decide) a b
theorem deq_intsT (a b : List Int) : DEq (.tup (a.map .int)) (.tup (b.map .int)) (decide (a = b)) := by
  have := deq (α := Tu Int) (by decide) ⟨a⟩ ⟨b⟩
  rwa [show decide ((⟨a⟩ : Tu Int) = ⟨b⟩) = decide (a = b) from decide_eq_decide.mpr ⟨fun e => congrArg Tu.l e, fun e => by rw [e]⟩] at this
end L2.DL

/-! # DLk.lean -/
set_option Elab.async false
set_option linter.all false
set_option maxRecDepth 100000
namespace L2.DL
open PySem PySem.Spec PyProof.Rows RT
section
variable {prog : Program} {w : World} {A : Around} {E : Value → Shared → Prop} {s : Shared} {l : Addr} {its : List Value} {ns : List Int} {Q : Value → Shared → Prop}
/-- the greatest, the least of a tuple of ints -/
theorem old_tup {h' : Heap} {o0 : Obj} (hk : ∀ b o, b ∉ [s.heap.objs.size] → (s.heap.push o0).get? b = some o → h'.get? b = some o) : ∀ b o, s.heap.get? b = some o → h'.get? b = some o := fun b o e => by
  refine hk b o (fun hm => ?_) (Heap.get?_push_of_some _ e)
  rcases List.mem_cons.mp hm with e1 | hm
  · exact absurd (e1 ▸ Heap.lt_size e) (Nat.lt_irrefl _)
  · cases hm
theorem small_tup {o0 : Obj} (hlt : l < s.heap.objs.size) : ∀ b ∈ [s.heap.objs.size, l], b < ({ s with heap := s.heap.push o0 } : Shared).heap.objs.size := fun b hb => by
  show b < (s.heap.push _).objs.size
  rw [Heap.size_push]
  rcases List.mem_cons.mp hb with rfl | hb
  · exact Nat.lt_succ_self _
  · rcases List.mem_cons.mp hb with rfl | hb
    · exact Nat.lt_succ_of_lt hlt
    · cases hb
theorem maxT_raw (hh : A.handled = none) (hl : s.heap.IsTuple l its.toArray) (hi : IntsAre its ns) (hne : 0 < ns.length)
    (h : ∀ h' tk M t', (∀ b o, s.heap.get? b = some o → h'.get? b = some o) → M ∈ ns → (∀ a, a ∈ ns → a ≤ M) → Q (.int M t') { s with heap := h', toks := tk }) : wpAny (model prog w) A (call (.builtin "max") [.ref l]) Q E s := by
  obtain ⟨xs, e⟩ := hi.allInts.items
  have hn : numsOf (intItems xs).toList = ns := by rw [← e]; exact hi.numsOf
  rw [nums_intItems] at hn
  subst hn
  rw [e] at hl
  have hsz : 0 < xs.size := by simpa using hne
  have hlt : l < s.heap.objs.size := by obtain ⟨_, e, _⟩ := hl; exact Heap.lt_size e
  refine call_max_walk (wpAny_pyIter_tuple hl ?_)
  refine ⟨_, [_, l], [_], _, _, _, _, rfl, Walks.tuple (A := A.in1) hh _ l (Nat.ne_of_lt hlt) (intItems xs), ⟨⟨_, Heap.get?_push_size _ rfl, rfl, rfl⟩, hl.push _⟩, small_tup hlt, by simpa [intItems] using hsz, CmpOf.ints_gt (numAt xs) (fun _ _ => intItems_at), fun v h' tk hP hk => ?_⟩
  have hP : (intItems xs)[argBest (fun i j => decide (numAt xs i > numAt xs j)) (xs.size - 1)]? = some v := by simpa [intItems] using hP
  obtain ⟨t, rfl⟩ := intItems_at hP
  obtain ⟨h1, h2⟩ := argBest_gt (numAt xs) (xs.size - 1)
  refine h h' tk _ t (old_tup hk) ?_ fun a ha => ?_
  · rw [numAt_eq]; exact PySem.getD_mem (by rw [List.length_map, Array.length_toList]; omega)
  · obtain ⟨j, hj, rfl⟩ := mem_getD ha
    rw [List.length_map, Array.length_toList] at hj
    rw [← numAt_eq]; exact h2 j (by omega)
theorem minT_raw (hh : A.handled = none) (hl : s.heap.IsTuple l its.toArray) (hi : IntsAre its ns) (hne : 0 < ns.length)
    (h : ∀ h' tk M t', (∀ b o, s.heap.get? b = some o → h'.get? b = some o) → M ∈ ns → (∀ a, a ∈ ns → M ≤ a) → Q (.int M t') { s with heap := h', toks := tk }) : wpAny (model prog w) A (call (.builtin "min") [.ref l]) Q E s := by
  obtain ⟨xs, e⟩ := hi.allInts.items
  have hn : numsOf (intItems xs).toList = ns := by rw [← e]; exact hi.numsOf
  rw [nums_intItems] at hn
  subst hn
  rw [e] at hl
  have hsz : 0 < xs.size := by simpa using hne
  have hlt : l < s.heap.objs.size := by obtain ⟨_, e, _⟩ := hl; exact Heap.lt_size e
  refine call_min_walk (wpAny_pyIter_tuple hl ?_)
  refine ⟨_, [_, l], [_], _, _, _, _, rfl, Walks.tuple (A := A.in1) hh _ l (Nat.ne_of_lt hlt) (intItems xs), ⟨⟨_, Heap.get?_push_size _ rfl, rfl, rfl⟩, hl.push _⟩, small_tup hlt, by simpa [intItems] using hsz, CmpOf.ints_lt (numAt xs) (fun _ _ => intItems_at), fun v h' tk hP hk => ?_⟩
  have hP : (intItems xs)[argBest (fun i j => decide (numAt xs i < numAt xs j)) (xs.size - 1)]? = some v := by simpa [intItems] using hP
  obtain ⟨t, rfl⟩ := intItems_at hP
  obtain ⟨h1, h2⟩ := argBest_lt (numAt xs) (xs.size - 1)
  refine h h' tk _ t (old_tup hk) ?_ fun a ha => ?_
  · rw [numAt_eq]; exact PySem.getD_mem (by rw [List.length_map, Array.length_toList]; omega)
  · obtain ⟨j, hj, rfl⟩ := mem_getD ha
    rw [List.length_map, Array.length_toList] at hj
    rw [← numAt_eq]; exact h2 j (by omega)
end
section
variable {X : Cx} {K : PySem.W.Frag}
def rMaxTu (K : PySem.W.Frag) : List V → Hp → VK → Prop := fun vs H Q => ∃ (a : Addr) (ns : List Int), vs = [V.ref a] ∧ SqT K H a (ns.map V.int) ∧ 0 < ns.length ∧ ∀ m, m ∈ ns → (∀ y, y ∈ ns → y ≤ m) → Q (.int m) H
def rMinTu (K : PySem.W.Frag) : List V → Hp → VK → Prop := fun vs H Q => ∃ (a : Addr) (ns : List Int), vs = [V.ref a] ∧ SqT K H a (ns.map V.int) ∧ 0 < ns.length ∧ ∀ m, m ∈ ns → (∀ y, y ∈ ns → m ≤ y) → Q (.int m) H
theorem call_maxTu (hc : X.calm = true) : CallR X (.builtin "max") (rMaxTu X.K) := by
  intro pins s σ H vs us Q I r h
  obtain ⟨a, ns, rfl, hs, hne, q⟩ := h
  obtain ⟨its, rv, p, _⟩ := I.tuple hs
  rw [Vals.ref1 r]
  exact maxT_raw (I.ok.hd hc) (show s.heap.IsTuple a its.toArray from p) rv.ints hne fun h' tk m t' hk h1 h2 => ⟨.int _, H, I.kept hk, ⟨_, rfl⟩, q m h1 h2⟩
theorem call_minTu (hc : X.calm = true) : CallR X (.builtin "min") (rMinTu X.K) := by
  intro pins s σ H vs us Q I r h
  obtain ⟨a, ns, rfl, hs, hne, q⟩ := h
  obtain ⟨its, rv, p, _⟩ := I.tuple hs
  rw [Vals.ref1 r]
  exact minT_raw (I.ok.hd hc) (show s.heap.IsTuple a its.toArray from p) rv.ints hne fun h' tk m t' hk h1 h2 => ⟨.int _, H, I.kept hk, ⟨_, rfl⟩, q m h1 h2⟩
def wIntsT (Z : List Int → (DV → Prop) → Prop) : List D → (DV → Prop) → Prop := fun ds P => match ds with
  | [.tup l] => ∃ ns, intsD l = some ns ∧ Z ns P
  | _ => False
def wMaxTu := wIntsT fun ns P => 0 < ns.length ∧ ∀ m, m ∈ ns → (∀ y, y ∈ ns → y ≤ m) → P (.fz (.int m))
def wMinTu := wIntsT fun ns P => 0 < ns.length ∧ ∀ m, m ∈ ns → (∀ y, y ∈ ns → m ≤ y) → P (.fz (.int m))
theorem intsT_arg {e : Ent} {ρ : DEnv} {F : Hp} {σ : St} {H : Hp} {vs : List V} {ds : List D} {Z : List Int → (DV → Prop) → Prop} {P : DV → Prop} (s : Sg K e ρ F σ H) (i : IsL K F ds vs) (w : wIntsT Z ds P) :
    ∃ a ns, vs = [V.ref a] ∧ SqT K H a (ns.map V.int) ∧ Z ns P := by
  unfold wIntsT at w
  split at w
  · obtain ⟨ns, h1, h2⟩ := w
    obtain ⟨v, rfl, iv⟩ := i.one_inv
    simp only [Is] at iv
    obtain ⟨a, us, rfl, h3, h4⟩ := iv
    rw [ints_of h1] at h4
    rw [IsL.ints.mp h4] at h3
    exact ⟨a, ns, rfl, Same.seqT s.fh h3, h2⟩
  · exact w.elim
theorem cr_maxTuD : CRl K (rMaxTu K) wMaxTu := by
  intro e ρ F σ H vs ds Q P s i w k
  obtain ⟨a, ns, h1, h2, h0, h3⟩ := intsT_arg s i w
  exact ⟨a, ns, h1, h2, h0, fun m hm hy => k F H _ _ s (Same.refl _) (Res.fz (by simp [Is])) (h3 m hm hy)⟩
theorem cr_minTuD : CRl K (rMinTu K) wMinTu := by
  intro e ρ F σ H vs ds Q P s i w k
  obtain ⟨a, ns, h1, h2, h0, h3⟩ := intsT_arg s i w
  exact ⟨a, ns, h1, h2, h0, fun m hm hy => k F H _ _ s (Same.refl _) (Res.fz (by simp [Is])) (h3 m hm hy)⟩
end
section
variable {X : Cx} {Wx : WX} {tg : Expr} {p pos : Pos}
/-- reversed(e) of a list, of a tuple -/
def wRevA (We : WE) : WI := fun EX ρ P => We EX ρ fun dv ρ1 => dv.thn fun d => match d with
  | .lst l => P l.reverse ρ1
  | .tup l => P l.reverse ρ1
  | _ => False
theorem walk_revTu {K : PySem.W.Frag} {a : Addr} {xs : List V} : Walk (ItvT K a xs.length) xs.length (fun H => SqT K H a xs) (fun i H x H' => H' = H ∧ xs[xs.length - 1 - i]? = some x) :=
  ⟨fun i H hi h => ⟨hi, xs, _, h, List.getElem?_eq_getElem (by omega)⟩, fun H h => Nat.le_refl _, fun i H x H' hi h y => ⟨y.1, y.2 xs h⟩⟩
theorem ji_revA {a : Expr} (hg : Gl X "reversed") (hm : X.mg "reversed" = none) (ha : JE X Wx a We) (hs : starEach [a] X.env = (false, eval a X.env) :: starEach [] X.env := by rfl) : JI X Wx tg (.Call (.Name "reversed" p) [a] [] pos) (wRevA We) := by
  refine PI.wk (pi_revA hg hm ha hs) fun σ H R h => ?_
  obtain ⟨e, ρ, F, EX, P, s, w0, hx, k⟩ := h
  refine ⟨e, ρ, F, EX, _, s, w0, hx, fun F1 H1 v1 d1 ρ1 s1 m1 r1 q1 => ?_⟩
  obtain ⟨F2, d, s2, m2, i2, q2⟩ := s1.data r1 q1
  split at q2
  · simp only [Is] at i2
    obtain ⟨a, us, rfl, h1, h2⟩ := i2
    refine ⟨a, us, rfl, .inl ⟨SqL.of (s2.fh _ _ h1), k F2 H1 _ ρ1 _ _ _ _ s2 (m1.trans m2) q2 (walk_rev (xs := us)) (by rw [List.length_reverse, h2.len]) ⟨fun e' ρ' F3 σ' H' s' m' _ => SqL.of (s'.fh _ _ (m' _ _ h1)), fun i H x H' hi _ y => ?_⟩⟩⟩
    obtain ⟨rfl, y⟩ := y
    refine .inl ⟨rfl, ?_⟩
    obtain ⟨d, h5, h6⟩ := h2.get' y
    refine ⟨d, ?_, h6⟩
    rw [List.length_reverse] at hi
    rw [List.getElem?_reverse hi, h2.len]
    exact h5
  · simp only [Is] at i2
    obtain ⟨a, us, rfl, h1, h2⟩ := i2
    refine ⟨a, us, rfl, .inr ⟨Same.seqT s2.fh h1, k F2 H1 _ ρ1 _ _ _ _ s2 (m1.trans m2) q2 (walk_revTu (xs := us)) (by rw [List.length_reverse, h2.len]) ⟨fun e' ρ' F3 σ' H' s' m' _ => Same.seqT s'.fh (Same.seqT m' h1), fun i H x H' hi _ y => ?_⟩⟩⟩
    obtain ⟨rfl, y⟩ := y
    refine .inl ⟨rfl, ?_⟩
    obtain ⟨d, h5, h6⟩ := h2.get' y
    refine ⟨d, ?_, h6⟩
    rw [List.length_reverse] at hi
    rw [List.getElem?_reverse hi, h2.len]
    exact h5
  · exact q2.elim
end
end L2.DL

/-! # DLl.lean -/
set_option Elab.async false
set_option linter.all false
set_option maxRecDepth 100000
namespace L2.DL
open PySem PySem.Spec PyProof.Rows
/-! ## own objects read as data, and own again behind it -/
def immD : D → Bool
  | .non => true
  | .bl _ => true
  | .int _ => true
  | .str _ => true
  | .ty _ => true
  | _ => false
def flatD : D → Bool
  | .tup ds => ds.all immD
  | d => immD d
def flatV : DV → Bool
  | .fz d => flatD d
  | .mu true (.lst ds) => ds.all flatD
  | _ => false
def borD (ρ : DEnv) : DEnv := ρ.map fun x => match x with
  | some (.fz d) => some (.fz d)
  | some (.mu _ c) => some (.fz c.d)
  | _ => none
section
variable {K : PySem.W.Frag} {e : Ent} {ρ : DEnv} {F F2 : Hp} {σ : St} {H H2 : Hp}
theorem borD_at {i : Nat} {dv : DV} (h : (borD ρ)[i]? = some (some dv)) : (∃ d, dv = .fz d ∧ ρ[i]? = some (some (.fz d))) ∨ ∃ b c, dv = .fz c.d ∧ ρ[i]? = some (some (.mu b c)) := by
  unfold borD at h
  rw [List.getElem?_map] at h
  cases hr : ρ[i]? with
  | none => rw [hr] at h; cases h
  | some x =>
    rw [hr] at h
    cases x with
    | none => cases h
    | some y =>
      cases y with
      | fz d => cases h; exact .inl ⟨d, rfl, rfl⟩
      | mu b c => cases h; exact .inr ⟨b, c, rfl, rfl⟩
      | lk p c => cases h
def Own (ρ : DEnv) (σ : St) (a : Addr) : Prop := ∃ (j : Nat) (b : Bool) (c : Mc), ρ[j]? = some (some (.mu b c)) ∧ σ[j]? = some (some (.ref a))
open Classical in
noncomputable def frzO (ρ : DEnv) (σ : St) (F H : Hp) : Hp := fun a => if Own ρ σ a then H a else F a
open Classical in
noncomputable def thaw (ρ : DEnv) (σ : St) (F : Hp) : Hp := fun a => if Own ρ σ a then none else F a
theorem Sg.own_out (s : Sg K e ρ F σ H) {a : Addr} (h : Own ρ σ a) : F a = none ∧ (∀ u, (a, u) ∉ e.pn) ∧ ∃ o, H a = some o ∧ ((∃ xs, o = .lst xs) ∨ (∃ xs, o = .dK xs) ∨ (∃ xs, o = .dT xs) ∨ ∃ C dx xs, o = .ins C dx xs) := by
  obtain ⟨j, b, c, h1, h2⟩ := h
  obtain ⟨v, g1, p, o, rfl, a1, a2, a3, a4, a5, a6⟩ := s.sl j _ h1
  rw [h2] at g1; cases g1
  refine ⟨a1, a4, o, a5, ?_⟩
  cases c with
  | lst ds => obtain ⟨vs, rfl, _⟩ := a6; exact .inl ⟨_, rfl⟩
  | dk ds => obtain ⟨vs, rfl, _⟩ := a6; exact .inr (.inl ⟨_, rfl⟩)
  | dt ds => obtain ⟨vs, rfl, _⟩ := a6; exact .inr (.inr (.inl ⟨_, rfl⟩))
  | ins C fs => obtain ⟨dx, vs, rfl, _⟩ := a6; exact .inr (.inr (.inr ⟨_, _, _, rfl⟩))
theorem Sg.same_frzO (s : Sg K e ρ F σ H) : Same F (frzO ρ σ F H) := fun a o h => by
  unfold frzO
  by_cases q : Own ρ σ a
  · rw [(s.own_out q).1] at h; cases h
  · rw [if_neg q]; exact h
theorem Sg.frzO_heap (s : Sg K e ρ F σ H) : Same (frzO ρ σ F H) H := fun a o h => by
  unfold frzO at h
  by_cases q : Own ρ σ a
  · rwa [if_pos q] at h
  · rw [if_neg q] at h; exact s.fh _ _ h
theorem Sg.bor (s : Sg K e ρ F σ H) : Sg K ⟨frzO ρ σ F H, H, [], []⟩ (borD ρ) (frzO ρ σ F H) σ H where
  fh := s.frzO_heap
  st := Stp.refl
  len := by unfold borD; rw [List.length_map]; exact s.len
  sl := fun i dv h => by
    rcases borD_at h with ⟨d, rfl, h1⟩ | ⟨b, c, rfl, h1⟩
    · obtain ⟨v, g1, g2⟩ := s.sl i _ h1
      exact ⟨v, g1, Is.mono s.same_frzO d g2⟩
    · obtain ⟨v, g1, p, o, rfl, a1, a2, a3, a4, a5, a6⟩ := s.sl i _ h1
      refine ⟨_, g1, (a6.mono s.same_frzO).is ?_⟩
      unfold frzO
      rw [if_pos ⟨i, b, c, h1, g1⟩]; exact a5
  ap := fun i j dv dw v h1 h2 o1 o2 _ _ => by
    rcases borD_at h1 with ⟨d, rfl, _⟩ | ⟨b, c, rfl, _⟩ <;> cases o1
  pin := fun p h => nomatch h
theorem is_imm {d : D} {v : V} {F F' : Hp} (h : immD d = true) (i : Is K F d v) : Is K F' d v := by
  cases d <;> first | (simp [immD] at h; done) | (simp only [Is] at i ⊢; exact i)
theorem isL_imm {F F' : Hp} : ∀ {ds : List D} {vs : List V}, ds.all immD = true → IsL K F ds vs → IsL K F' ds vs
  | [], vs, _, i => by simp only [IsL] at i ⊢; exact i
  | d :: ds, vs, h, i => by
    simp only [IsL] at i ⊢
    obtain ⟨v, r, rfl, h1, h2⟩ := i
    rw [List.all_cons, Bool.and_eq_true] at h
    exact ⟨v, r, rfl, is_imm h.1 h1, isL_imm h.2 h2⟩
theorem is_flat (s : Sg K e ρ F σ H) (keep : ∀ q o, H q = some o → H2 q = some o) (fh : Same F2 H2) {d : D} {v : V} (h : flatD d = true) (i : Is K F2 d v) : Is K (thaw ρ σ F2) d v := by
  cases d with
  | tup ds =>
    simp only [Is] at i ⊢
    obtain ⟨a, vs, rfl, h1, h2⟩ := i
    refine ⟨a, vs, rfl, ?_, isL_imm h h2⟩
    rcases h1 with (h1 | ⟨o, h1⟩) | h1
    · refine .inl (.inl ?_)
      unfold thaw
      rw [if_neg fun q => ?_]
      · exact h1
      · obtain ⟨_, _, o, ho, z⟩ := s.own_out q
        have := (keep _ _ ho).symm.trans (fh _ _ h1)
        rcases z with ⟨xs, rfl⟩ | ⟨xs, rfl⟩ | ⟨xs, rfl⟩ | ⟨_, _, xs, rfl⟩ <;> cases this
    · refine .inl (.inr ⟨o, ?_⟩)
      unfold thaw
      rw [if_neg fun q => ?_]
      · exact h1
      · obtain ⟨_, _, o', ho, z⟩ := s.own_out q
        have := (keep _ _ ho).symm.trans (fh _ _ h1)
        rcases z with ⟨xs, rfl⟩ | ⟨xs, rfl⟩ | ⟨xs, rfl⟩ | ⟨_, _, xs, rfl⟩ <;> cases this
    · exact .inr h1
  | _ => exact is_imm h i
theorem isL_flat (s : Sg K e ρ F σ H) (keep : ∀ q o, H q = some o → H2 q = some o) (fh : Same F2 H2) : ∀ {ds : List D} {vs : List V}, ds.all flatD = true → IsL K F2 ds vs → IsL K (thaw ρ σ F2) ds vs
  | [], vs, _, i => by simp only [IsL] at i ⊢; exact i
  | d :: ds, vs, h, i => by
    simp only [IsL] at i ⊢
    obtain ⟨v, r, rfl, h1, h2⟩ := i
    rw [List.all_cons, Bool.and_eq_true] at h
    exact ⟨v, r, rfl, is_flat s keep fh h.1 h1, isL_flat s keep fh h.2 h2⟩
/-- behind it: what was own is own, as it was -/
theorem Sg.unbor (s : Sg K e ρ F σ H) {ρ1 : DEnv} (s1 : Sg K ⟨frzO ρ σ F H, H, [], []⟩ ρ1 F2 σ H2) (m : Same (frzO ρ σ F H) F2) : Sg K e ρ (thaw ρ σ F2) σ H2 ∧ Same F (thaw ρ σ F2) := by
  have keep : ∀ q o, H q = some o → H2 q = some o := fun q o h => s1.st.keep q o h (fun z => nomatch z)
  have old : ∀ q o, H q = some o → frzO ρ σ F H q = none → F2 q = none := s1.st.old
  have sm : Same F (thaw ρ σ F2) := fun a o h => by
    unfold thaw
    by_cases q : Own ρ σ a
    · rw [(s.own_out q).1] at h; cases h
    · rw [if_neg q]; exact m _ _ (s.same_frzO _ _ h)
  have le : ∀ a o, thaw ρ σ F2 a = some o → F2 a = some o := fun a o h => by
    unfold thaw at h
    by_cases q : Own ρ σ a
    · rw [if_pos q] at h; cases h
    · rwa [if_neg q] at h
  refine ⟨⟨fun a o h => s1.fh _ _ (le a o h), ⟨s.st.ff.trans sm, fun q o h n => keep _ _ (s.st.keep q o h n), fun q o h => ?_, fun q o h n => ?_⟩, s.len, fun i dv h => ?_, s.ap, fun p hp => ?_⟩, sm⟩
  · obtain ⟨o', h'⟩ := s.st.there q o h
    exact ⟨o', keep _ _ h'⟩
  · have hF := s.st.old q o h n
    obtain ⟨o', h'⟩ := s.st.there q o h
    unfold thaw
    by_cases z : Own ρ σ q
    · rw [if_pos z]
    · rw [if_neg z]
      refine old q o' h' ?_
      unfold frzO
      rw [if_neg z]; exact hF
  · obtain ⟨v, g1, g2⟩ := s.sl i dv h
    refine ⟨v, g1, ?_⟩
    cases dv with
    | fz d => exact Is.mono sm d g2
    | lk q c =>
      obtain ⟨u, od, rfl, c1, c2⟩ := g2
      exact ⟨u, od, rfl, c1, c2.mono sm⟩
    | mu b c =>
      obtain ⟨q, u, rfl, c1, c2, c3, c4, c5, c6⟩ := g2
      refine ⟨q, u, rfl, ?_, c2, c3, c4, keep _ _ c5, c6.mono sm⟩
      unfold thaw
      rw [if_pos ⟨i, b, c, h, g1⟩]
  · obtain ⟨b1, b2, b3⟩ := s.pin p hp
    refine ⟨keep _ _ b1, ?_, b3⟩
    unfold thaw
    by_cases z : Own ρ σ p.1
    · rw [if_pos z]
    · rw [if_neg z]
      refine old _ _ b1 ?_
      unfold frzO
      rw [if_neg z]; exact b2
end
section
variable {X : Cx} {Wx : WX} {ex : Expr} {We : WE} {Wt : WT}
def wBor (W : WE) : WE := fun _ ρ P => W NX (borD ρ) fun dv _ => flatV dv = true ∧ P dv ρ
theorem je_bor (h : JE X NW ex We) : JE X Wx ex (wBor We) := by
  refine PE.wk h fun σ H Q h => ?_
  obtain ⟨e, ρ, F, EX, P, s, w0, hx, k⟩ := h
  refine ⟨_, borD ρ, _, NX, _, s.bor, w0, Hx.never, fun F2 H2 v dv ρ1 s1 m1 r1 q1 => ?_⟩
  obtain ⟨hf, q⟩ := q1
  obtain ⟨s2, m2⟩ := s.unbor s1 m1
  have keep : ∀ q o, H q = some o → H2 q = some o := fun q o h => s1.st.keep q o h (fun z => nomatch z)
  refine k _ H2 v dv ρ s2 m2 ?_ q
  cases dv with
  | fz d => exact Res.fz (is_flat s keep s1.fh hf r1.1)
  | lk _ _ => cases hf
  | mu b c =>
    cases b with
    | false => cases hf
    | true =>
      cases c with
      | dk _ => cases hf
      | dt _ => cases hf
      | ins _ _ => cases hf
      | lst ds =>
        obtain ⟨⟨r, u, rfl, c1, c2, c3, c4, c5, vs, rfl, c6⟩, nd⟩ := r1
        have hr : H r = none := c2 rfl
        have no : ¬ Own ρ σ r := fun z => by
          obtain ⟨_, _, o, ho, _⟩ := s.own_out z
          rw [hr] at ho; cases ho
        have eH : e.H r = none := by
          cases z : e.H r with
          | none => rfl
          | some o => obtain ⟨o', h'⟩ := s.st.there _ _ z; rw [hr] at h'; cases h'
        refine ⟨⟨r, _, rfl, ?_, fun _ => eH, (fun z => nomatch z), fun u' hu => ?_, c5, vs, rfl, isL_flat s keep s1.fh hf c6⟩, fun _ j dw hj ho z => ?_⟩
        · unfold thaw
          rw [if_neg no]; exact c1
        · have := (s.pin _ hu).1
          rw [hr] at this; cases this
        · obtain ⟨w, b1, b2⟩ := s.sl j dw hj
          rw [b1] at z; cases z
          cases dw with
          | fz d => cases ho
          | lk _ _ => cases ho
          | mu b' c' => exact no ⟨j, b', c', hj, b1⟩
def wBorT (W : WT) : WT := fun _ ρ P => W NX (borD ρ) fun b _ => P b ρ
theorem jt_bor (h : JT X NW ex Wt) : JT X Wx ex (wBorT Wt) := by
  refine PT.wk h fun σ H Q h => ?_
  obtain ⟨e, ρ, F, EX, P, s, w0, hx, k⟩ := h
  refine ⟨_, borD ρ, _, NX, _, s.bor, w0, Hx.never, fun F2 H2 b ρ1 s1 m1 q1 => ?_⟩
  obtain ⟨s2, m2⟩ := s.unbor s1 m1
  exact k _ H2 b ρ s2 m2 q1
end
end L2.DL

/-! # DLm.lean -/
set_option Elab.async false
set_option linter.all false
set_option maxRecDepth 100000
namespace L2.DL
open PySem PySem.Spec PyProof.Rows
/-! ## operators by name: no redexes in the goals -/
section
variable {K : PySem.W.Frag}
def wAdd : D → D → (DV → Prop) → Prop := fun a b P => match a, b with
  | .int i, .int j => P (.fz (.int (i + j)))
  | _, _ => False
def wSub : D → D → (DV → Prop) → Prop := fun a b P => match a, b with
  | .int i, .int j => P (.fz (.int (i - j)))
  | _, _ => False
def wMul : D → D → (DV → Prop) → Prop := fun a b P => match a, b with
  | .int i, .int j => CMul i j ∧ P (.fz (.int (i * j)))
  | _, _ => False
def wDiv : D → D → (DV → Prop) → Prop := fun a b P => match a, b with
  | .int i, .int j => CDiv i j ∧ P (.fz (.int (i / j)))
  | _, _ => False
def wMod : D → D → (DV → Prop) → Prop := fun a b P => match a, b with
  | .int i, .int j => 0 < j ∧ P (.fz (.int (i % j)))
  | _, _ => False
def wPow : D → D → (DV → Prop) → Prop := fun a b P => match a, b with
  | .int i, .int j => CPow i j ∧ P (.fz (.int (i ^ j.toNat)))
  | _, _ => False
def wShl : D → D → (DV → Prop) → Prop := fun a b P => match a, b with
  | .int i, .int j => CPow i j ∧ P (.fz (.int (i * 2 ^ j.toNat)))
  | _, _ => False
def wShr : D → D → (DV → Prop) → Prop := fun a b P => match a, b with
  | .int i, .int j => 0 ≤ j ∧ P (.fz (.int (i / 2 ^ j.toNat)))
  | _, _ => False
def wBand : D → D → (DV → Prop) → Prop := fun a b P => match a, b with
  | .int i, .int j => P (.fz (.int (Builtin.bitAnd i j)))
  | _, _ => False
def wBor2 : D → D → (DV → Prop) → Prop := fun a b P => match a, b with
  | .int i, .int j => P (.fz (.int (Builtin.bitOr i j)))
  | _, _ => False
def wBxor : D → D → (DV → Prop) → Prop := fun a b P => match a, b with
  | .int i, .int j => P (.fz (.int (Builtin.bitXor i j)))
  | _, _ => False
theorem br_add : BR K (rI0 fun i j => .int (i + j)) wAdd := br_i0 (g := fun i j => i + j)
theorem br_sub : BR K (rI0 fun i j => .int (i - j)) wSub := br_i0 (g := fun i j => i - j)
theorem br_mul : BR K (rI CMul fun i j => .int (i * j)) wMul := br_i (C := CMul) (g := fun i j => i * j)
theorem br_div : BR K (rI CDiv fun i j => .int (i / j)) wDiv := br_i (C := CDiv) (g := fun i j => i / j)
theorem br_mod : BR K (rI (fun _ j => 0 < j) fun i j => .int (i % j)) wMod := br_i (C := fun _ j => 0 < j) (g := fun i j => i % j)
theorem br_pow : BR K (rI CPow fun i j => .int (i ^ j.toNat)) wPow := br_i (C := CPow) (g := fun i j => i ^ j.toNat)
theorem br_shl : BR K (rI CPow fun i j => .int (i * 2 ^ j.toNat)) wShl := br_i (C := CPow) (g := fun i j => i * 2 ^ j.toNat)
theorem br_shr : BR K (rI (fun _ j => 0 ≤ j) fun i j => .int (i / 2 ^ j.toNat)) wShr := br_i (C := fun _ j => 0 ≤ j) (g := fun i j => i / 2 ^ j.toNat)
theorem br_band : BR K (rI0 fun i j => .int (Builtin.bitAnd i j)) wBand := br_i0 (g := Builtin.bitAnd)
theorem br_bor2 : BR K (rI0 fun i j => .int (Builtin.bitOr i j)) wBor2 := br_i0 (g := Builtin.bitOr)
theorem br_bxor : BR K (rI0 fun i j => .int (Builtin.bitXor i j)) wBxor := br_i0 (g := Builtin.bitXor)
def wLt : D → D → (DV → Prop) → Prop := fun a b P => match a, b with
  | .int i, .int j => P (.fz (.bl (decide (i < j))))
  | _, _ => False
def wLe : D → D → (DV → Prop) → Prop := fun a b P => match a, b with
  | .int i, .int j => P (.fz (.bl (decide (i ≤ j))))
  | _, _ => False
def wGt : D → D → (DV → Prop) → Prop := fun a b P => match a, b with
  | .int i, .int j => P (.fz (.bl (decide (j < i))))
  | _, _ => False
def wGe : D → D → (DV → Prop) → Prop := fun a b P => match a, b with
  | .int i, .int j => P (.fz (.bl (decide (j ≤ i))))
  | _, _ => False
def wEqI : D → D → (DV → Prop) → Prop := fun a b P => match a, b with
  | .int i, .int j => P (.fz (.bl (decide (i = j))))
  | _, _ => False
def wNeI : D → D → (DV → Prop) → Prop := fun a b P => match a, b with
  | .int i, .int j => P (.fz (.bl (!decide (i = j))))
  | _, _ => False
theorem br_lt : BR K (rI0 fun i j => .bl (decide (i < j))) wLt := br_b0 (p := fun i j => decide (i < j))
theorem br_le : BR K (rI0 fun i j => .bl (decide (i ≤ j))) wLe := br_b0 (p := fun i j => decide (i ≤ j))
theorem br_gt : BR K (rI0 fun i j => .bl (decide (j < i))) wGt := br_b0 (p := fun i j => decide (j < i))
theorem br_ge : BR K (rI0 fun i j => .bl (decide (j ≤ i))) wGe := br_b0 (p := fun i j => decide (j ≤ i))
theorem br_eqI : BR K (rI0 fun i j => .bl (decide (i = j))) wEqI := br_b0 (p := fun i j => decide (i = j))
theorem br_neI : BR K (rI0 fun i j => .bl (!decide (i = j))) wNeI := br_b0 (p := fun i j => !decide (i = j))
end
section
variable {X : Cx} {Wx : WX} {a b : Expr} {Wa Wb : WE} {pos : Pos}
def wNeg (Wa : WE) : WE := fun EX ρ P => Wa EX ρ fun a ρ1 => match a with
  | .fz (.int i) => P (.fz (.int (-i))) ρ1
  | _ => False
def wAbsI : List D → (DV → Prop) → Prop := fun ds P => match ds with
  | [.int i] => P (.fz (.int (if i < 0 then -i else i)))
  | _ => False
def wMaxI : List D → (DV → Prop) → Prop := fun ds P => match ds with
  | [.int i, .int j] => P (.fz (.int (if j > i then j else i)))
  | _ => False
def wMinI : List D → (DV → Prop) → Prop := fun ds P => match ds with
  | [.int i, .int j] => P (.fz (.int (if j < i then j else i)))
  | _ => False
theorem je_neg (h : JE X Wx a Wa) : JE X Wx (.UnaryOp .USub a pos) (wNeg Wa) := je_un un_neg h
end
section
variable {K : PySem.W.Frag}
theorem cr_absI : CRl K (fun xs H Q => ∃ i, xs = [.int i] ∧ Q (.int (if i < 0 then -i else i)) H) wAbsI := cr_absD
theorem cr_maxI : CRl K (fun xs H Q => ∃ i j, xs = [.int i, .int j] ∧ Q (.int (if j > i then j else i)) H) wMaxI := cr_max2D
theorem cr_minI : CRl K (fun xs H Q => ∃ i j, xs = [.int i, .int j] ∧ Q (.int (if j < i then j else i)) H) wMinI := cr_min2D
end
end L2.DL

/-! # DLn.lean -/
set_option Elab.async false
set_option linter.all false
set_option maxRecDepth 100000
namespace L2.DL
open PySem PySem.Spec PyProof.Rows
/-! ## defs that may raise -/
theorem Sg.new {K : PySem.W.Frag} {e : Ent} {ρ : DEnv} {F : Hp} {σ : St} {H : Hp} {dd : Addr} (s : Sg K e ρ F σ H) (h : H dd = none) : e.H dd = none ∧ ∀ u, (dd, u) ∉ e.pn :=
  ⟨(s.free h).2, fun u hu => by have := (s.pin _ hu).1; rw [h] at this; cases this⟩
abbrev RX := List D → (DV → Prop) → (Str → List (Str × D) → Prop) → Prop
def spX (K : PySem.W.Frag) (R : RX) : Sp := fun vs H Q E => ∃ F ds P EP, Same F H ∧ IsL K F ds vs ∧ R ds P EP ∧
  (∀ F' H' v dv, Stp F H F' H' [] → Same F' H' → Out K H F' H' dv v → P dv → Q v H') ∧
  ∀ C dd fs kvs F' H', Stp F H F' H' [] → Same F' H' → H' dd = some (.xd fs) → F' dd = none → H dd = none → IsKV K F' kvs fs → EP C kvs → E (.ref (He.ga K C)) (some dd) H'
section
variable {X : Cx} {Wx : WX} {f : Addr} {fd : FuncData} {ps : List Str} {k : Nat} {x : Str} {p pos : Pos} {a : Expr} {es : List Expr} {Wargs : WA} {K : PySem.W.Frag}
def wCallX (R : RX) (Wa : WA) : WE := fun EX ρ P => Wa EX ρ fun ds ρ1 => R ds (fun dv => P dv ρ1) fun C kvs => EX C kvs ρ1
theorem je_callX {R : RX} (G : FnOk X.prog X.w X.K X.mg X.base (L2.CX X.prog X.w) k f fd ps (spX X.K R)) (hr : Room k X.A) (tk : Takes X Wx) (hg : Gl X x) (hm : X.mg x = some (.ref f)) (hk : PySem.W.keepIn X.K (.ref f) = true) (hb : Binds X.K fd ps [])
    (ha : JA X Wx (a :: es) Wargs) (hdb : (x == ("__debug__" : Str)) = false := by decide) (he : starEach (a :: es) X.env = (false, eval a X.env) :: starEach es X.env := by rfl) (hpl : (backTo pos (starEach es X.env)).any (·.1) = false := by rfl) :
    JE X Wx (.Call (.Name x p) (a :: es) [] pos) (wCallX R Wargs) := by
  refine PE.wk (pe_callS G hr hg hm hk hb (fun σ => passAt tk σ) ha hdb he hpl) fun σ H Q h => ?_
  obtain ⟨e, ρ, F, EX, P, s, w0, hx, kk⟩ := h
  refine ⟨e, ρ, F, EX, _, s, w0, hx, fun F1 H1 vs ds ρ1 s1 m1 i1 q1 => ?_⟩
  refine ⟨F1, ds, _, _, s1.fh, i1, q1, fun F' H' v dv st fh o pp => ?_, fun C dd fs kvs F' H' st fh h1 h2 h0 h3 h4 => ?_⟩
  · have s2 := s1.later fh st
    exact kk F' H' v dv ρ1 s2 (m1.trans st.ff) (Out.res s1 o) pp
  · exact hx C dd fs kvs ρ1 F' σ H' (s1.later fh st) h1 h2 (s1.new h0) h3 h4
/-! ## an exception class's own __init__, raise -/
/-- __init__ that keeps its arguments under the names fl -/
def spI (C : Addr) (fl : List Str) : Sp := fun vs H Q _ => ∃ a ws, vs = .ref a :: ws ∧ ws.length = fl.length ∧ H a = some (exo a C none) ∧
  ∀ dx H', H dx = none → dx ≠ a → H' a = some (exo a C (some dx)) → H' dx = some (exd dx (fl.zip ws).reverse) → (∀ b, b ≠ a → b ≠ dx → H' b = H b) → Q .non H'
def wRaise (C : Str) (fl : List Str) (Wa : WA) : WS := fun E ρ => Wa E.ex ρ fun ds ρ1 => ds.length = fl.length ∧ E.ex C (fl.zip ds).reverse ρ1
theorem kvd_zip {F : Hp} : ∀ {fl : List Str} {ds : List D} {vs : List V}, IsL K F ds vs → IsKV K F (fl.zip ds) (fl.zip vs)
  | [], _, _, _ => by simp only [List.zip_nil_left]; exact .nil
  | f :: fl, [], vs, h => by
    simp only [IsL] at h
    subst h; simp only [List.zip_nil_right]; exact .nil
  | f :: fl, d :: ds, vs, h => by
    simp only [IsL] at h
    obtain ⟨v, r, rfl, h1, h2⟩ := h
    rw [List.zip_cons_cons, List.zip_cons_cons]
    exact .cons ⟨rfl, h1⟩ (kvd_zip h2)
theorem paired_app {α β : Type} {R : α → β → Prop} : ∀ {xs ys : List α} {us vs : List β}, Paired R xs us → Paired R ys vs → Paired R (xs ++ ys) (us ++ vs)
  | [], _, _, _, .nil, h => h
  | _ :: _, _, _ :: _, _, .cons a t, h => .cons a (paired_app t h)
theorem paired_rev {α β : Type} {R : α → β → Prop} : ∀ {xs : List α} {us : List β}, Paired R xs us → Paired R xs.reverse us.reverse
  | [], _, .nil => .nil
  | x :: xs, u :: us, .cons a t => by
    rw [List.reverse_cons, List.reverse_cons]
    exact paired_app (paired_rev t) (.cons a .nil)
theorem Sg.laid {e : Ent} {ρ : DEnv} {F H : Hp} {σ : St} {d : Addr} {o : HO} (s : Sg K e ρ F σ H) (hd : H d = none) : Sg K e ρ F σ (upd H d o) := by
  obtain ⟨hf, he⟩ := s.free hd
  exact s.later (fun b u h => by rw [upd_ne (ne_of_none (s.fh _ _ h) hd)]; exact s.fh _ _ h) ⟨Same.refl _, fun q u h _ => by rw [upd_ne (ne_of_none h hd)]; exact h, fun q u h => ⟨u, by rw [upd_ne (ne_of_none h hd)]; exact h⟩, fun _ _ _ h => h⟩
theorem js_raise {C fI : Addr} {fl : List Str} {k : Nat} {p2 : Pos} (hC : C = He.ga X.K x) (hc : X.calm = true) (tk : Takes X Wx) (T : OexC X.K C) (iC : PySem.W.findIn X.K (.ref C) "__init__" = some (some (.ref fI))) (tI : PySem.W.typeIn X.K (.ref fI) = some (.type "function"))
    (F1 : FnOk X.prog X.w X.K X.mg X.base CX0 k fI fd ps (spI C fl)) (hr : Room (k + 1) X.A) (hb : Binds X.K fd ps []) (hz : fl.length ≤ 1000) (hg : Gl X x) (hm : X.mg x = some (.ref C)) (ha : JA X Wx (a :: es) Wargs)
    (hdb : (x == ("__debug__" : Str)) = false := by decide) (he : starEach (a :: es) X.env = (false, eval a X.env) :: starEach es X.env := by rfl) (hpl : (backTo pos (starEach es X.env)).any (·.1) = false := by rfl) :
    JS X Wx (.Raise (some (.Call (.Name x p) (a :: es) [] pos)) none p2) (wRaise x fl Wargs) := by
  subst hC
  refine PS.wk (ps_raise hc tk (pmk_oex T iC tI F1 hr hb .nil pass0 hg hm ha hdb he hpl)) fun D σ H h => ?_
  obtain ⟨e, ρ, F, E, s, w0, rf⟩ := h
  refine ⟨e, ρ, F, E.ex, _, s, w0, rf.ex, fun F1 H1 vs ds ρ1 s1 m1 i1 q1 => ?_⟩
  obtain ⟨hl, q⟩ := q1
  have hv : vs.length = fl.length := by rw [← i1.len, hl]
  refine ⟨by rw [hv]; exact hz, fun ad na => ?_⟩
  refine ⟨ad, vs, by rw [List.append_nil], hv, upd_same, fun dx H' n1 n2 h1 h2 h3 => ⟨rfl, dx, _, h1, h2, ?_, ?_⟩⟩
  · rwa [upd_ne n2] at n1
  · have nd : H1 dx = none := by rwa [upd_ne n2] at n1
    have eq : upd (del H' ad) dx (.xd (fl.zip vs).reverse) = upd H1 dx (.xd (fl.zip vs).reverse) := by
      funext b
      by_cases hb1 : b = dx
      · subst hb1; rw [upd_same, upd_same]
      · rw [upd_ne hb1, upd_ne hb1]
        by_cases hb2 : b = ad
        · subst hb2; rw [del_same, na]
        · rw [del_ne hb2, h3 b hb2 hb1, upd_ne hb2]
    rw [eq]
    exact rf.ex x dx _ _ ρ1 F1 σ _ (s1.laid nd) upd_same (s1.free nd).1 (s1.new nd) (paired_rev (kvd_zip i1)) q
/-- a def that may raise keeps its promise by its body's reading -/
def endX (P : DV → Prop) (EP : Str → List (Str × D) → Prop) : DEnds := { nx := fun _ => P (.fz .non), rt := fun dv _ => dv.mine ∧ P dv, ex := fun C kvs _ => EP C kvs }
end
section
variable {P : Program} {w : World} {K : PySem.W.Frag} {mg : Str → Option Value} {base : Heap}
theorem Fun.okFX {x qual : Str} {st : Stmt} {f : Addr} {fd : FuncData} {N ps : List Str} {k : Nat} {R : RX} {W : WS} (Fn : Fun K x qual st f fd) (S : FnScope N ps (defScope st)) (hl : ∀ ds Q E, R ds Q E → ds.length = ps.length) (hN : ps.length ≤ N.length)
    (hj : ∀ (cdv : Value) (A : Around) (outer : List Env) (s : Shared) (H : Hp) (E : XK), Room k (A.deeper (envOfC qual (defScope st) s.heap.objs.size f cdv)) →
      JSs (cxOf (L2.CX P w) P w K mg base N qual (defScope st) f cdv A outer s H E) (fun cls d _ H' => E cls d H') (defBody st) W)
    (hv : ∀ ds Q E, R ds Q E → W (endX Q E) (argD N ds)) : FnOk P w K mg base (L2.CX P w) (k + 1) f fd ps (spX K R) := by
  refine Fn.okX S (fun vs H Q E h => ?_) fun cdv A outer s H vs Q E hr h => ⟨_, hj cdv A outer s H E hr, ?_⟩
  · obtain ⟨F, ds, P, EP, _, i, r, _⟩ := h
    rw [← i.len]; exact hl ds P EP r
  · obtain ⟨F, ds, P', EP, m, i, r, q, q2⟩ := h
    have hlen := hl ds _ _ r
    refine ⟨⟨F, H, [], []⟩, argD N ds, F, endX P' EP, sg_args m (by rw [← i.len, hlen]; exact hN) i rfl rfl rfl, hv ds P' EP r, ⟨fun ρ F' σ' H' s' h' => ?_, fun ρ F' σ' H' v dv s' res h' => ?_, fun _ _ _ _ _ h => h, fun _ _ _ _ _ h => h, fun C dd fs kvs ρ' F' σ' H' s' h1 h2 h0 h3 h4 => q2 C dd fs kvs F' H' s'.st s'.fh h1 h2 h0.1 h3 h4⟩⟩
    · exact q F' H' .non (.fz .non) s'.st s'.fh (by simp [Out, Is]) h'
    · refine q F' H' v dv s'.st s'.fh ?_ h'.2
      cases dv with
      | fz d => exact res.1
      | lk _ c => exact h'.1.elim
      | mu b c =>
        obtain ⟨p, o, rfl, h1, h2, h3, h4, h5, h6⟩ := res.1
        exact ⟨p, o, rfl, h'.1, h1, h2 h'.1, h5, h6⟩
end
end L2.DL

/-! # DLo.lean -/
set_option Elab.async false
set_option linter.all false
set_option maxRecDepth 100000
namespace L2.DL
open PySem PySem.Spec PyProof.Rows
section
variable {P : Program} {w : World} {K : PySem.W.Frag} {mg : Str → Option Value} {base : Heap} {C : Addr}
theorem init1 {qual n1 p0 p1 : Str} {st : Stmt} {f : Addr} {fd : FuncData} (F : Fun K "__init__" qual st f fd) (S : FnScope [p0, p1] [p0, p1] (defScope st)) (T : OexC K C) (no : PySem.W.findIn K (.ref C) n1 = some none)
    (hb : ∀ (cdv : Value) (A : Around) (outer : List Env) (s : Shared) (H : Hp) (E : XK), PSs (cxOf CX0 P w K mg base [p0, p1] qual (defScope st) f cdv A outer s H E).nox (defBody st) (tOst K n1 (tVar 0) (tVar 1))) : FnOk P w K mg base CX0 1 f fd [p0, p1] (spI C [n1]) := by
  refine F.ok S (fun vs H Q E h => ?_) fun cdv A outer s H vs Q E hr h => ⟨_, hb cdv A outer s H E, ?_⟩
  · obtain ⟨a, ws, rfl, hl, _⟩ := h
    show ws.length + 1 = 2
    rw [hl]; rfl
  · obtain ⟨a, ws, rfl, hl, ha, q⟩ := h
    match ws, hl with
    | [y], _ =>
      refine ⟨y, rfl, .ref a, rfl, a, C, rfl, T, no, .inl ⟨ha, fun dx nd ne => ?_⟩⟩
      exact q dx _ nd ne upd_same (by rw [upd_ne ne, upd_same]; rfl) fun b h1 h2 => by rw [upd_ne h1, upd_ne h2]
theorem init2 {qual n1 n2 p0 p1 p2 : Str} {st : Stmt} {f : Addr} {fd : FuncData} (F : Fun K "__init__" qual st f fd) (S : FnScope [p0, p1, p2] [p0, p1, p2] (defScope st)) (T : OexC K C) (no1 : PySem.W.findIn K (.ref C) n1 = some none) (no2 : PySem.W.findIn K (.ref C) n2 = some none)
    (hb : ∀ (cdv : Value) (A : Around) (outer : List Env) (s : Shared) (H : Hp) (E : XK), PSs (cxOf CX0 P w K mg base [p0, p1, p2] qual (defScope st) f cdv A outer s H E).nox (defBody st) (tSeq (tOst K n1 (tVar 0) (tVar 1)) (tOst K n2 (tVar 0) (tVar 2)))) : FnOk P w K mg base CX0 1 f fd [p0, p1, p2] (spI C [n1, n2]) := by
  refine F.ok S (fun vs H Q E h => ?_) fun cdv A outer s H vs Q E hr h => ⟨_, hb cdv A outer s H E, ?_⟩
  · obtain ⟨a, ws, rfl, hl, _⟩ := h
    show ws.length + 1 = 3
    rw [hl]; rfl
  · obtain ⟨a, ws, rfl, hl, ha, q⟩ := h
    match ws, hl with
    | [y, z], _ =>
      refine ⟨y, rfl, .ref a, rfl, a, C, rfl, T, no1, .inl ⟨ha, fun dx nd ne => ?_⟩⟩
      refine ⟨z, rfl, .ref a, rfl, a, C, rfl, T, no2, .inr ⟨dx, [(n1, y)], upd_same, by rw [upd_ne ne, upd_same], by show 1 ≤ 900; decide, ?_⟩⟩
      exact q dx _ nd ne (by rw [upd_ne (Ne.symm ne), upd_same]) (by rw [upd_same]; rfl) fun b h1 h2 => by rw [upd_ne h2, upd_ne h1, upd_ne h2]
end
end L2.DL

/-! # DLp.lean -/
set_option Elab.async false
set_option linter.all false
set_option maxRecDepth 100000
namespace L2.DL
open PySem PySem.Spec PyProof.Rows
/-- the ends of a suite whose name is slot i -/
def offE (i : Nat) (D : Ends) : Ends := { nx := fun σ1 G => D.nx (σ1.set i none) G, rt := D.rt, bk := fun σ1 G => D.bk (σ1.set i none) G, ct := fun σ1 G => D.ct (σ1.set i none) G }
/-- the clauses in turn, each with a name or without -/
def wClz (K : PySem.W.Frag) (Wout : WX) (D : Ends) : List (Value × Option Nat × (Addr → Value → Option Addr → TS)) → WX
  | [] => Wout
  | (c, none, ts) :: r => fun cls d σ H => ∃ b, PySem.W.exmOne K cls c = some b ∧ (b = true → ∀ a, H a = none → ts a cls d D σ H) ∧ (b = false → wClz K Wout D r cls d σ H)
  | (c, some i, ts) :: r => fun cls d σ H => ∃ b, PySem.W.exmOne K cls c = some b ∧ (b = true → ∀ a, H a = none → ts a cls d (offE i D) (σ.set i (some (.ref a))) H) ∧ (b = false → wClz K Wout D r cls d σ H)
abbrev HdL : Type := List (Value × Option Nat × (Addr → Value → Option Addr → TS))
inductive HdA (X : Cx) : List ExceptHandler → HdL → Prop
  | nil : HdA X [] []
  | cons {x : Str} {c : Value} {ts : Addr → Value → Option Addr → TS} {b₀ : Stmt} {suite : List Stmt} {np pos' : Pos} {hds : List ExceptHandler} {l : HdL} (hc : Names X x c)
      (hsu : ∀ (a : Addr) (oe : Obj) (cls : Value) (d : Option Addr) (pn : List (Addr × Obj)), Zc cls d oe → (∃ vs, oe.data = .fields vs) → PSs (X.suite a ((a, oe) :: pn)) (b₀ :: suite) (ts a cls d)) (r : HdA X hds l) :
      HdA X (.ExceptHandler (some (.Name x np)) none (b₀ :: suite) pos' :: hds) ((c, none, ts) :: l)
  | as {x n : Str} {i : Nat} {c : Value} {ts : Addr → Value → Option Addr → TS} {b₀ : Stmt} {suite : List Stmt} {np pos' : Pos} {hds : List ExceptHandler} {l : HdL} (hN : X.N.Nodup) (hi : X.N[i]? = some n) (hln : X.env.kindOf n = some .local) (hc : Names X x c)
      (hsu : ∀ (a : Addr) (oe : Obj) (cls : Value) (d : Option Addr) (pn : List (Addr × Obj)), Zc cls d oe → (∃ vs, oe.data = .fields vs) → PSs (X.suite a ((a, oe) :: pn)) (b₀ :: suite) (ts a cls d)) (r : HdA X hds l) :
      HdA X (.ExceptHandler (some (.Name x np)) (some n) (b₀ :: suite) pos' :: hds) ((c, some i, ts) :: l)
section
variable {X : Cx} {body : List Stmt} {h₀ : ExceptHandler} {hds : List ExceptHandler} {l : HdL} {pos : Pos} {tb : WX → TS} {Wout : WX}
theorem ps_try_all (hs : X.stack = X.env :: X.outer) (hf : X.env.frame = some X.env.locals) (tk : Takes X Wout)
    (hb : ∀ (W : WX) (pq : List (Addr × Obj)) (xz : Value → Shared → Prop), Takes (X.tr pq xz) W → PassesOwn (model X.prog X.w) X.A X.env xz → PSs (X.tr pq xz) body (tb W))
    (hh : HdA X (h₀ :: hds) l) : PS X (.Try body (h₀ :: hds) [] [] pos) (fun D σ H => tb (wClz X.K Wout D l) D σ H) := by
  refine ⟨fun pnn s σ H D I h => ?_⟩
  have okk := I.ok
  have frm : X.A.frames = some (X.env :: X.outer) := by rw [okk.frames, hs]
  refine wpAny_Try_except ?_
  refine wpAny_mono ((hb (wClz X.K Wout D l) (X.pn ++ pnn) (fun ev s₁ => wpAny (model X.prog X.w) X.A (noteFrame ev X.env) (fun _ s₂ => wpAny (model X.prog X.w) X.A (setFlight ev none) (fun _ s₃ =>
    wpAny (model X.prog X.w) X.A (handleBy ev X.env (h₀ :: hds)) (SP X pnn D) X.xe s₃) X.xe s₂) X.xe s₁) (fun uv sz xx => ?_) PassesOwn.looking).run [] s σ H D (I.toTry _) h) (fun fl s1 hp6 => ?_) (fun ev s1 hea => hea)
  · -- the catch
    obtain ⟨a, B, s0, pz, τ, G1, cls, d, rfl, K0, gn, ux, sk, an, oz, bg, w⟩ := xx
    have K1 : Inv X pnn τ G1 s0 := K0.ofTry okk
    have sk1 : Sky B (X.env :: X.outer) a (Zc cls d) X.env.locals sz.heap := by rw [← hs]; exact sk
    show wpAny (model X.prog X.w) X.A (noteFrame (Value.ref a) X.env) _ _ _
    refine Sky.land Zc.steady frm hf sk1 fun k3 fy3 ux3 => ?_
    have Ka : Inv X pnn τ G1 { sz with heap := k3 } := K1.landed gn fy3.1 (ux.trans ux3) oz bg
    obtain ⟨ob3, fs3, ge3, gz3, gd3⟩ := fy3.there
    have unFr : ∀ {h : Heap} {o : Obj} {vs : Array Value}, h.FunFrames B (X.env :: X.outer) → h.get? a = some o → o.data = .fields vs → a ∉ frs (X.env :: X.outer) := fun {h o vs} ff ev dd hmm => by
      obtain ⟨_, oo, ee, hf0⟩ := ff.mem hmm
      rw [ev] at ee; cases ee
      exact hf0 _ dd
    have nf0 := unFr fy3.2.2.1 ge3 gd3
    have nl0 : a ≠ X.env.locals := fun z => nf0 (List.mem_filterMap.mpr ⟨X.env, List.mem_cons_self, by rw [hf, z]⟩)
    have nf1 : a ∉ X.fs := fun hmm => by
      obtain ⟨ev, hea, q⟩ := List.mem_filterMap.mp hmm
      exact nf0 (List.mem_filterMap.mpr ⟨ev, List.mem_cons_of_mem _ hea, q⟩)
    have T3 := Ka.suite ge3 gd3 an nl0 nf1
    have goo : ∀ {hx' : List ExceptHandler} {lx' : HdL}, HdA X hx' lx' → wClz X.K Wout D lx' cls d τ G1 →
        wpAny (model X.prog X.w) X.A (handleBy (.ref a) X.env hx') (SP X pnn D) X.xe { sz with heap := k3 } := by
      intro hx' lx' hkk
      induction hkk with
      | nil =>
        intro w
        refine wpAny_handleBy_nil ?_
        obtain ⟨m1, m2, m3, oe, vs, Tb, oT, ts', hea, hz, hda, h1a, hr⟩ := id fy3
        unfold PySem.passOn
        refine wpAny_bind (wpAny_field hea hda h1a ?_)
        rw [if_neg (show ¬ ((Value.ref Tb == Value.none) = true) by simp)]
        have fn0 : wpAny (model X.prog X.w) X.A (setFlight (.ref a) X.env.frame) (fun _ s4 => wpAny (model X.prog X.w) X.A (throw (.ref a) : Sem Flow) (SP X pnn D) X.xe s4) X.xe { sz with heap := k3 } := by
          rw [hf]
          refine HandSPX.setFlight_upZ fy3 fun k4 gh4 ux4 => wpAny_throw (tk _ _ ?_)
          exact ⟨a, B, s0, pnn, τ, G1, cls, d, rfl, K1, gn, (ux.trans ux3).trans ux4, .inr (.inr (by rw [hs]; exact gh4)), an, oz, bg, w⟩
        first
          | exact wpAny_bind (wpAny_pure (wpAny_bind fn0))
          | exact wpAny_bind fn0
      | @cons x c ts b₀ suite np pos' hx2 lx2 hc hsu r ih =>
        intro w
        obtain ⟨b, bq, yes0, no0⟩ := w
        refine wpAny_handleBy_cons (codeAny_handlers_test ?_) (by intro qz; cases qz)
        have Lt : PySem.W.Looks (model X.prog X.w) k3 (typeOf (.ref a)) cls := fun A Q E s k q => wpAny_typeOf_ref (k _ _ ge3) (by rw [gz3.1]; exact q)
        have Lm := PySem.W.exm_one (M := model X.prog X.w) (Ka.kIn) Lt bq
        have tst : ∀ {Q : Value → Shared → Prop} {E : Value → Shared → Prop}, Q c { sz with heap := k3 } → wpAny (model X.prog X.w) (X.A.mark (some (.ref a))) (eval (.Name x np) X.env) Q E { sz with heap := k3 } := fun {Q E} q => by
          obtain ⟨hg, dbg, hmm | ⟨hmm, hv, nn1⟩⟩ := hc
          · exact ld_glob (X := X.suite a ((a, ob3) :: (X.pn ++ pnn))) T3 hg hmm q dbg
          · exact ld_blt (X := X.suite a ((a, ob3) :: (X.pn ++ pnn))) T3 hg hmm hv q nn1 dbg
        refine tst (Lm.here ?_)
        cases b with
        | true =>
          refine (codeAny_handlers_suite ?_)
          refine HandSPX.lands_againZ fy3 fun k4 fy4 ux4 => ?_
          have Kb : Inv X pnn τ G1 { sz with heap := k4 } := K1.landed gn fy4.1 ((ux.trans ux3).trans ux4) oz bg
          obtain ⟨ob4, fs4, ge4, gz4, gd4⟩ := fy4.there
          have T4 := Kb.suite ge4 gd4 an nl0 nf1
          refine wpAny_mono ((hsu a ob4 cls d (X.pn ++ pnn) gz4 ⟨_, gd4⟩).run [] _ _ G1 _ T4 (yes0 rfl a an)) (fun fl u6 hp6 => ?_) (fun _ _ z => False.elim z)
          cases fl with
          | next =>
            obtain ⟨τ6, G6, T6, w6⟩ := hp6
            exact ⟨_, _, T6.unsuite okk, w6⟩
          | brk =>
            obtain ⟨τ6, G6, T6, w6⟩ := hp6
            exact ⟨_, _, T6.unsuite okk, w6⟩
          | cont =>
            obtain ⟨τ6, G6, T6, w6⟩ := hp6
            exact ⟨_, _, T6.unsuite okk, w6⟩
          | ret uv =>
            obtain ⟨y6, τ6, G6, T6, z6, w6⟩ := hp6
            exact ⟨_, _, _, T6.unsuite okk, z6, w6⟩
        | false =>
          show wpAny _ X.A (handleBy (.ref a) X.env hx2) _ _ _
          exact ih (no0 rfl)
      | @as x n i c ts b₀ suite np pos' hx2 lx2 hN hi hln hc hsu r ih =>
        intro w
        obtain ⟨b, bq, yes0, no0⟩ := w
        have hlc : Loc X.env.scope n := .inl hln
        refine wpAny_handleBy_cons (codeAny_handlers_test ?_) (by intro qz; cases qz)
        have Lt : PySem.W.Looks (model X.prog X.w) k3 (typeOf (.ref a)) cls := fun A Q E s k q => wpAny_typeOf_ref (k _ _ ge3) (by rw [gz3.1]; exact q)
        have Lm := PySem.W.exm_one (M := model X.prog X.w) (Ka.kIn) Lt bq
        have tst : ∀ {Q : Value → Shared → Prop} {E : Value → Shared → Prop}, Q c { sz with heap := k3 } → wpAny (model X.prog X.w) (X.A.mark (some (.ref a))) (eval (.Name x np) X.env) Q E { sz with heap := k3 } := fun {Q E} q => by
          obtain ⟨hg, dbg, hmm | ⟨hmm, hv, nn1⟩⟩ := hc
          · exact ld_glob (X := X.suite a ((a, ob3) :: (X.pn ++ pnn))) T3 hg hmm q dbg
          · exact ld_blt (X := X.suite a ((a, ob3) :: (X.pn ++ pnn))) T3 hg hmm hv q nn1 dbg
        refine tst (Lm.here ?_)
        cases b with
        | true =>
          refine (codeAny_handlers_suite_as ?_)
          refine HandSPX.lands_againZ fy3 fun k4 fy4 ux4 => ?_
          have Kb : Inv X pnn τ G1 { sz with heap := k4 } := K1.landed gn fy4.1 ((ux.trans ux3).trans ux4) oz bg
          obtain ⟨ob4, fs4, ge4, gz4, gd4⟩ := fy4.there
          have T4 := Kb.suite ge4 gd4 an nl0 nf1
          refine store_ok (X := X.suite a ((a, ob4) :: (X.pn ++ pnn))) (v := .ref a) T4 hN hi hlc rfl (fun u5 T5 => ?_) (.inr hln)
          refine wpAny_mono ((hsu a ob4 cls d (X.pn ++ pnn) gz4 ⟨_, gd4⟩).run [] u5 _ G1 _ T5 (yes0 rfl a an)) (fun fl u6 hp6 => ?_) (fun _ _ z => False.elim z)
          have fin_ : ∀ {τ6 : St} {G6 : Hp} {Q : Shared → Prop}, Inv (X.suite a ((a, ob4) :: (X.pn ++ pnn))) [] τ6 G6 u6 → (∀ u7, Inv X pnn (τ6.set i none) G6 u7 → Q u7) →
              wpAny (model X.prog X.w) X.A (do bindName X.env n .none; unbindBehindTheSuite X.env n pos') (fun _ u7 => Q u7) X.xe u6 := fun {τ6 G6 Q} T6 hq => gone_ok (T6.unsuite okk) hN hi hln hq
          cases fl with
          | next =>
            obtain ⟨τ6, G6, T6, w6⟩ := hp6
            exact fin_ T6 fun u7 Kd => ⟨_, _, Kd, w6⟩
          | brk =>
            obtain ⟨τ6, G6, T6, w6⟩ := hp6
            exact fin_ T6 fun u7 Kd => ⟨_, _, Kd, w6⟩
          | cont =>
            obtain ⟨τ6, G6, T6, w6⟩ := hp6
            exact fin_ T6 fun u7 Kd => ⟨_, _, Kd, w6⟩
          | ret uv =>
            obtain ⟨y6, τ6, G6, T6, z6, w6⟩ := hp6
            exact fin_ T6 fun u7 Kd => ⟨_, _, _, Kd, z6, w6⟩
        | false =>
          show wpAny _ X.A (handleBy (.ref a) X.env hx2) _ _ _
          exact ih (no0 rfl)
    exact goo hh w
  · cases fl with
    | next =>
      obtain ⟨τ, G1, K0, q⟩ := hp6
      exact wpAny_execs_nil ⟨τ, G1, K0.ofTry okk, q⟩
    | brk =>
      obtain ⟨τ, G1, K0, q⟩ := hp6
      exact ⟨τ, G1, K0.ofTry okk, q⟩
    | cont =>
      obtain ⟨τ, G1, K0, q⟩ := hp6
      exact ⟨τ, G1, K0.ofTry okk, q⟩
    | ret uv =>
      obtain ⟨v, τ, G1, K0, r, q⟩ := hp6
      exact ⟨v, τ, G1, K0.ofTry okk, r, q⟩
end
end L2.DL

/-! # DLq.lean -/
set_option Elab.async false
set_option linter.all false
set_option maxRecDepth 100000
namespace L2.DL
open PySem PySem.Spec PyProof.Rows
/-! ## try .. except -/
theorem set_get {α : Type} {xs : List α} {i j : Nat} {v : α} {x : α} (h : (xs.set i v)[j]? = some x) : (j = i ∧ x = v ∧ i < xs.length) ∨ (j ≠ i ∧ xs[j]? = some x) := by
  by_cases e : i = j
  · subst e
    have hl : i < xs.length := by
      have := (List.getElem?_eq_some_iff.mp h).1
      simpa using this
    rw [List.getElem?_set_self hl] at h
    exact .inl ⟨rfl, (Option.some.inj h).symm, hl⟩
  · rw [List.getElem?_set_ne e] at h
    exact .inr ⟨fun z => e z.symm, h⟩
section
variable {K : PySem.W.Frag} {e : Ent} {ρ : DEnv} {F : Hp} {σ : St} {H : Hp} {i : Nat}
/-- a slot is let go -/
theorem Sg.clr (s : Sg K e ρ F σ H) : Sg K e (ρ.set i none) F (σ.set i none) H where
  fh := s.fh
  st := s.st
  len := by simp [s.len]
  sl := fun j dv h => by
    rcases set_get h with ⟨_, z, _⟩ | ⟨ne, h⟩
    · cases z
    · obtain ⟨v, a, b⟩ := s.sl j dv h
      exact ⟨v, by rw [List.getElem?_set_ne (Ne.symm ne)]; exact a, b⟩
  ap := fun j k dv dw v h1 h2 o1 o2 g1 g2 => by
    rcases set_get h1 with ⟨_, z, _⟩ | ⟨n1, h1⟩
    · cases z
    · rcases set_get h2 with ⟨_, z, _⟩ | ⟨n2, h2⟩
      · cases z
      · rw [List.getElem?_set_ne (Ne.symm n1)] at g1
        rw [List.getElem?_set_ne (Ne.symm n2)] at g2
        exact s.ap j k dv dw v h1 h2 o1 o2 g1 g2
  pin := s.pin
/-- a new object of another kind is frozen -/
theorem Sg.frzX {dd : Addr} {fs : List (Str × V)} (s : Sg K e ρ F σ H) (h1 : H dd = some (.xd fs)) (h2 : F dd = none) (h3 : e.H dd = none) (hp : ∀ u, (dd, u) ∉ e.pn) : Sg K e ρ (upd F dd (.xd fs)) σ H := by
  have sm : Same F (upd F dd (.xd fs)) := fun b u h => by rw [upd_ne (ne_of_none h h2)]; exact h
  refine ⟨fun b u h => ?_, ⟨s.st.ff.trans sm, s.st.keep, s.st.there, fun q u h n => ?_⟩, s.len, fun j dv h => ?_, s.ap, fun p hq => ?_⟩
  · by_cases hb : b = dd
    · subst hb; rw [upd_same] at h; cases h; exact h1
    · rw [upd_ne hb] at h; exact s.fh _ _ h
  · by_cases hb : q = dd
    · subst hb; rw [h3] at h; cases h
    · rw [upd_ne hb]; exact s.st.old q u h n
  · obtain ⟨v, a, b⟩ := s.sl j dv h
    refine ⟨v, a, ?_⟩
    cases dv with
    | fz d => exact Is.mono sm d b
    | lk q c =>
      obtain ⟨u, od, rfl, c1, c2⟩ := b
      exact ⟨u, od, rfl, c1, c2.mono sm⟩
    | mu b' c =>
      obtain ⟨q, u, rfl, c1, c2, c3, c4, c5, c6⟩ := b
      have ne : q ≠ dd := fun z => by
        rw [z, h1] at c5
        cases c5
        cases c with
        | lst _ => obtain ⟨_, z, _⟩ := c6; cases z
        | dk _ => obtain ⟨_, z, _⟩ := c6; cases z
        | dt _ => obtain ⟨_, z, _⟩ := c6; cases z
        | ins _ _ => obtain ⟨_, _, z, _⟩ := c6; cases z
      exact ⟨q, u, rfl, by rw [upd_ne ne]; exact c1, c2, c3, c4, c5, c6.mono sm⟩
  · obtain ⟨b1, b2, b3⟩ := s.pin p hq
    have ne : p.1 ≠ dd := fun z => hp p.2 (by rw [← z]; exact hq)
    exact ⟨b1, by rw [upd_ne ne]; exact b2, b3⟩
end
def offD (i : Nat) (E : DEnds) : DEnds := { nx := fun ρ => E.nx (ρ.set i none), rt := E.rt, bk := fun ρ => E.bk (ρ.set i none), ct := fun ρ => E.ct (ρ.set i none) }
abbrev Clz : Type := List (Str × Option Nat × (Addr → Str → Option Addr → WS))
def wHd (sub : Str → Str → Option Bool) (E : DEnds) : Clz → EXt
  | [] => E.ex
  | (c, none, Ws) :: r => fun C kvs ρ => ∃ b, sub C c = some b ∧ (b = true → ∀ a dd, Ws a C (some dd) { E with ex := NX } ρ) ∧ (b = false → wHd sub E r C kvs ρ)
  | (c, some i, Ws) :: r => fun C kvs ρ => ∃ b, sub C c = some b ∧ (b = true → ∀ a dd, Ws a C (some dd) (offD i E) (ρ.set i (some (.fz (.exc C a dd (kvs.map (·.1)) (kvs.map (·.2))))))) ∧ (b = false → wHd sub E r C kvs ρ)
def wTry (sub : Str → Str → Option Bool) (cl : Clz) (Wb : WS) : WS := fun E ρ => Wb { E with ex := wHd sub E cl } ρ
/-- a suite's wish: the exception is of a class that has a name -/
def suT (K : PySem.W.Frag) (Ws : Addr → Str → Option Addr → WS) : Addr → Value → Option Addr → TS := fun a cls d D σ H => ∃ C, cls = .ref (He.ga K C) ∧ cS K NW (Ws a C d) D σ H
def clzL (K : PySem.W.Frag) (cl : Clz) : HdL := cl.map fun q => (.ref (He.ga K q.1), q.2.1, suT K q.2.2)
section
variable {X : Cx} {Wx : WX} {body : List Stmt} {h₀ : ExceptHandler} {hds : List ExceptHandler} {Wb : WS} {pos : Pos} {sub : Str → Str → Option Bool} {cl : Clz}
theorem hd_ok {K : PySem.W.Frag} (hsub : ∀ C c b, sub C c = some b → PySem.W.exmOne K (.ref (He.ga K C)) (.ref (He.ga K c)) = some b) {e : Ent} {E : DEnds} {D : Ends} (rf : Rf K Wx e E D) : ∀ cl : Clz, Hx K (wClz K Wx D (clzL K cl)) e (wHd sub E cl)
  | [] => rf.ex
  | (c, none, Ws) :: r => fun C dd fs kvs ρ F σ H s h1 h2 h0 h3 hE => by
    obtain ⟨b, hb, yes, no⟩ := hE
    refine ⟨b, hsub _ _ _ hb, fun hb1 a na => ⟨C, rfl, e, ρ, F, _, s, yes hb1 a dd, ⟨rf.nx, rf.rt, rf.bk, rf.ct, Hx.never⟩⟩, fun hb0 => ?_⟩
    exact hd_ok hsub rf r C dd fs kvs ρ F σ H s h1 h2 h0 h3 (no hb0)
  | (c, some i, Ws) :: r => fun C dd fs kvs ρ F σ H s h1 h2 h0 h3 hE => by
    obtain ⟨b, hb, yes, no⟩ := hE
    refine ⟨b, hsub _ _ _ hb, fun hb1 a na => ?_, fun hb0 => hd_ok hsub rf r C dd fs kvs ρ F σ H s h1 h2 h0 h3 (no hb0)⟩
    have s2 := s.frzX h1 h2 h0.1 h0.2
    have sm : Same F (upd F dd (.xd fs)) := fun b u h => by rw [upd_ne (ne_of_none h h2)]; exact h
    obtain ⟨vs, e1, e2, e3⟩ := KVD.split h3
    have is : Is K (upd F dd (.xd fs)) (.exc C a dd (kvs.map (·.1)) (kvs.map (·.2))) (.ref a) := by
      simp only [Is]
      have e4 := e3.mono sm
      rw [e1] at e4 ⊢
      exact ⟨vs, trivial, upd_same, e2, e4⟩
    exact ⟨C, rfl, e, _, _, _, s2.set (Res.fz is), yes hb1 a dd, ⟨fun ρ1 F1 σ1 H1 s1 n1 => rf.nx _ _ _ _ s1.clr n1, rf.rt, fun ρ1 F1 σ1 H1 s1 n1 => rf.bk _ _ _ _ s1.clr n1, fun ρ1 F1 σ1 H1 s1 n1 => rf.ct _ _ _ _ s1.clr n1, Hx.never⟩⟩
theorem js_try (hsub : ∀ C c b, sub C c = some b → PySem.W.exmOne X.K (.ref (He.ga X.K C)) (.ref (He.ga X.K c)) = some b) (hs : X.stack = X.env :: X.outer) (hf : X.env.frame = some X.env.locals) (tk : Takes X Wx)
    (hb : ∀ (W : WX) (pq : List (Addr × Obj)) (xz : Value → Shared → Prop), Takes (X.tr pq xz) W → PassesOwn (model X.prog X.w) X.A X.env xz → JSs (X.tr pq xz) W body Wb)
    (hh : HdA X (h₀ :: hds) (clzL X.K cl)) : JS X Wx (.Try body (h₀ :: hds) [] [] pos) (wTry sub cl Wb) := by
  refine PS.wk (ps_try_all (tb := fun W => cS X.K W Wb) hs hf tk (fun W pq xz t p => hb W pq xz t p) hh) fun D σ H h => ?_
  obtain ⟨e, ρ, F, E, s, w0, rf⟩ := h
  exact ⟨e, ρ, F, _, s, w0, ⟨rf.nx, rf.rt, rf.bk, rf.ct, hd_ok hsub rf cl⟩⟩
end
section
variable {X : Cx} {a : Addr} {oe : Obj} {cls : Value} {d : Option Addr} {pn : List (Addr × Obj)}
theorem pss_su {ss : List Stmt} {Ws : Addr → Str → Option Addr → WS} (h : ∀ C, cls = .ref (He.ga X.K C) → JSs (X.suite a ((a, oe) :: pn)) NW ss (Ws a C d)) : PSs (X.suite a ((a, oe) :: pn)) ss (suT X.K Ws a cls d) := ⟨fun pins s σ H D I q => by
  obtain ⟨C, hC, q⟩ := q
  exact (h C hC).run pins s σ H D I q⟩
/-- e.n of a caught exception of the class C0 -/
def wXf (a : Addr) (C : Str) (d : Option Addr) (C0 n : Str) (We : WE) : WE := fun EX ρ P => We EX ρ fun dv ρ1 => match dv with
  | .fz (.exc _ a' dd ns ds) => a' = a ∧ d = some dd ∧ C = C0 ∧ ∃ v, (ns.zip ds).lookup n = some v ∧ P (.fz v) ρ1
  | _ => False
theorem lookup_is {K : PySem.W.Frag} {F : Hp} {n : Str} : ∀ {ns : List Str} {ds : List D} {vs : List V} {x : D}, IsL K F ds vs → (ns.zip ds).lookup n = some x → ∃ v, (ns.zip vs).lookup n = some v ∧ Is K F x v
  | [], _, _, _, _, h => by simp at h
  | _ :: _, [], _, _, _, h => by simp at h
  | m :: ns, y :: ds, vs, x, i, h => by
    simp only [IsL] at i
    obtain ⟨v, r, rfl, i1, i2⟩ := i
    rw [List.zip_cons_cons, List.lookup_cons] at h ⊢
    cases e : n == m with
    | true => rw [e] at h; cases h; exact ⟨v, rfl, i1⟩
    | false => rw [e] at h; exact lookup_is i2 h
theorem je_xf {C C0 n : Str} {ex : Expr} {We : WE} {pos : Pos} (hC : cls = .ref (He.ga X.K C)) (T : XfC X.K (He.ga X.K C0)) (hno : PySem.W.findIn X.K (.ref (He.ga X.K C0)) n = some none) (hz : Zc cls d oe) (hf : ∃ vs, oe.data = .fields vs)
    (h : JE (X.suite a ((a, oe) :: pn)) NW ex We) (hb : attributeBase ex n X.env (eval ex X.env) = eval ex X.env := by rfl) : JE (X.suite a ((a, oe) :: pn)) NW (.Attribute ex n pos) (wXf a C d C0 n We) := by
  refine PE.wk (pe_xf T hno hz hf h hb) fun σ H Q h => ?_
  obtain ⟨e, ρ, F, EX, P, s, w0, hx, k⟩ := h
  refine ⟨e, ρ, F, EX, _, s, w0, hx, fun F1 H1 v1 d1 ρ1 s1 m1 r1 q1 => ?_⟩
  split at q1
  · obtain ⟨rfl, rfl, rfl, y, hy, q⟩ := q1
    have i1 := r1.1
    simp only [Sl, Is] at i1
    obtain ⟨vs, rfl, hF, hl, i2⟩ := i1
    obtain ⟨v, hv, iv⟩ := lookup_is i2 hy
    exact ⟨rfl, hC, _, _, v, rfl, s1.fh _ _ hF, hv, k F1 H1 v _ ρ1 s1 m1 (Res.fz iv) q⟩
  · exact q1.elim
end
end L2.DL

/-! # DLr.lean -/
set_option Elab.async false
set_option linter.all false
set_option maxRecDepth 100000
set_option maxHeartbeats 4000000
namespace PySem.W
open PySem PySem.Spec PySem.Calls PyProof.Rows
section
variable {prog : Program} {w : World} {A : Around} {E : Value → Shared → Prop} {s : Shared} {K : Frag} {x D : Addr} {ox : Obj}
theorem fo_data {od : Option Obj} {C : Addr} {name : Str} {a gg : Value} (hc : (clsIn K C).isSome = true) (aa : findIn K (.ref C) name = some (some a)) (hg : specialIn K a "__get__" = some (some gg)) (ht : takesIn K a = some true) : findObj K C od name = some (.bind gg a) := by
  obtain ⟨cd, hc⟩ := Option.isSome_iff_exists.mp hc
  unfold findObj
  rw [hc, Option.bind_some, aa, Option.bind_some]
  simp [hg, ht]
theorem cls_ofE {od : Option Obj} {Q : Option Value → Shared → Prop} (qa : findIn K (.ref D) "__getattribute__" = some (some (.builtin "BaseException.__getattribute__"))) (qg : findIn K (.ref D) "__getattr__" = some none) (qs : subIn K (.ref D) (.type "BaseException") = some true)
    (qd : hasDictIn K D = true) (aa : findIn K (.ref D) "__class__" = some (some (.builtin "object.__class__")))
    (nn : specialIn K (.builtin "object.__class__") "__get__" = some (some (.builtin "getset_descriptor.__get__"))) (qt : takesIn K (.builtin "object.__class__") = some true) (mm : mroIn K D (.type "object") = some true)
    (XX : K.In s.heap) (II : InstAt s.heap x ox D od) (hh : Q (some (.ref D)) { s with toks := s.toks + 1 }) : wpAny (model prog w) A (getAttr? (.ref x) "__class__") Q E s := by
  have ff0 : findObj K D od "__class__" = some (.bind (.builtin "getset_descriptor.__get__") (.builtin "object.__class__")) := fo_data (by obtain ⟨cd, hc, _⟩ := any_some qd; rw [hc]; rfl) aa nn qt
  obtain ⟨hpp, gg, d, t, oz⟩ := s
  have M0 := II.type (M := model prog w)
  have M1 := looks_findIn (M := model prog w) XX qa
  have M2 := looks_findIn (M := model prog w) XX qg
  have M3 := looks_find (M := model prog w) XX II ff0
  have sb : Looks (model prog w) hpp (isInstance (.ref x) (.type "BaseException")) true := M0.andThen (looks_subIn XX qs)
  have y0 : (false && onTheHeap (Value.builtin "BaseException.__getattribute__")) = false := rfl
  have y2 : (Value.builtin "BaseException.__getattribute__" == Value.builtin "object.__getattribute__") = false := by decide +kernel
  have y1 : (onTheHeap (Value.ref D) && Value.builtin "BaseException.__getattribute__" == Value.builtin "object.__getattribute__") = false := by rw [y2]; rfl
  unfold getAttr? getAttrBy? getAttrBy
  refine wpAny_bind (wpAny_mkText (wpAny_bind (wpAny_attempt (wpAny_holding (wpAny_bind (M0.at (wpAny_bind (M1.at ?_))))))))
  show wpAny _ _ (if (onTheHeap (Value.ref D) && Value.builtin "BaseException.__getattribute__" == Value.builtin "object.__getattribute__") = true then _ else _) _ _ _
  rw [y1, if_neg Bool.false_ne_true]
  unfold getAttrByItsOwn hookBefore
  refine wpAny_bind ?_
  rw [if_pos (show onTheHeap (Value.ref D) = true from rfl)]
  refine M2.at ?_
  refine wpAny_bind (wpAny_attempt (wpAny_holding ?_))
  unfold callGetattribute
  rw [y0, if_neg Bool.false_ne_true]
  unfold boundAndCalled
  rw [PySem.F.excAttr_ValueError.ga.bind (.ref x)]
  refine wpAny_bind (wpAny_pure ?_)
  show wpAny _ _ (call (.builtin "BaseException.__getattribute__") [.ref x, .str "__class__" t]) _ _ _
  refine wpAny_call (codeAny_call_builtin PySem.F.excAttr_ValueError.ga.plain PySem.F.entry_bexc_ga ?_)
  refine @check_slot (model prog w) _ _ ⟨hpp, gg, d, t + 1, oz⟩ "BaseException.__getattribute__" "BaseException" "__getattribute__" (.ref x) [.str "__class__" t] [] _ (by decide +kernel) (by decide +kernel) sb (PySem.F.args_bexc_ga (.ref x) (.str "__class__" t)) ?_
  unfold Builtin.«object.__getattribute__»
  refine wpAny_bind (wpAny_of_eq (a := ((Value.ref x : Value), [Value.str "__class__" t])) (by first | rfl | (simp only [slotArgs]; rfl)) ?_)
  refine wpAny_bind (wpAny_pure (wpAny_bind (M0.at (wpAny_bind (M3.at ?_)))))
  show wpAny _ _ (holding [Value.builtin "object.__class__"] (call (.builtin "getset_descriptor.__get__") [.builtin "object.__class__", .ref x, .ref D]) >>= ret) _ _ _
  refine wpAny_bind (wpAny_holding (wpAny_call (class_get (s := ⟨hpp, gg, d, t + 1, oz⟩) (ox := ox) (od := od) XX II mm ?_)))
  refine wpAny_pure ?_
  show wpAny _ _ (handedOut (.ref D)) _ _ _
  rw [handedOut_of (v := .ref D) rfl]
  first
    | exact wpAny_pure (wpAny_pure hh)
    | exact wpAny_pure hh
    | exact wpAny_pure (wpAny_bind (wpAny_pure (wpAny_pure hh)))
theorem kitx_exO {od : Option Obj} (qa : findIn K (.ref D) "__getattribute__" = some (some (.builtin "BaseException.__getattribute__"))) (qg : findIn K (.ref D) "__getattr__" = some none) (qs : subIn K (.ref D) (.type "BaseException") = some true) (qd : hasDictIn K D = true) (aa : findIn K (.ref D) "__class__" = some (some (.builtin "object.__class__")))
    (nn : specialIn K (.builtin "object.__class__") "__get__" = some (some (.builtin "getset_descriptor.__get__"))) (qt : takesIn K (.builtin "object.__class__") = some true) (mm : mroIn K D (.type "object") = some true) :
    KitX K (.ref x) (.ref D) (fun hh => InstAt hh x ox D od) where
  ty := fun _ _ _ II => II.type
  it := fun _ _ XX _ => by
    obtain ⟨cD, gD, _⟩ := any_some qd
    unfold clsIn at gD
    split at gD
    · rename_i c' d' cd' sl' oo
      intro A' Q' E' s' kk qq
      unfold isType loadHead
      exact wpAny_bind (wpAny_loadPart (kk _ _ (XX _ _ oo)) (wpAny_pure qq))
    · cases gD
  ne := fun hh tpp ddd itt n sl XX tq => by
    obtain ⟨cD, gD, _⟩ := any_some qd
    refine Bool.eq_false_iff.mpr fun qq => ?_
    have ee : D = tpp := Value.ref.inj (beq_iff_eq.mp qq)
    subst ee
    unfold clsIn at gD
    split at gD
    · rename_i c' d' cd' sl' oo
      have z := (XX _ _ oo).symm.trans tq
      cases z
    · cases gD
  ca := fun XX II kk => cls_ofE qa qg qs qd aa nn qt mm XX II kk
end
end PySem.W
namespace L2.DL
open PySem PySem.Spec PyProof.Rows
/-- isinstance(e, c) of a caught exception with a dict of its own -/
def rIsO (K : PySem.W.Frag) (D a dd : Addr) : List V → Hp → VK → Prop := fun xs H Q => ∃ (c : V) (cv : Value) (b : Bool) (fs : List (Str × V)), xs = [.ref a, c] ∧ (∀ u, RelV c u → u = cv) ∧ PySem.W.kitOne K (.ref D) cv = some b ∧ H dd = some (.xd fs) ∧ Q (.bl b) H
theorem call_isO {X : Cx} {a D dd : Addr} {oe : Obj} {pn : List (Addr × Obj)} (C : ExcC X.K D) (hz : Zc (.ref D) (some dd) oe) (hf : ∃ vs, oe.data = .fields vs) : CallR (X.suite a ((a, oe) :: pn)) (.builtin "isinstance") (rIsO X.K D a dd) := by
  intro pins s σ H xs us Q I r h
  obtain ⟨c, cv, b, fs, rfl, hcv, e, hd, q⟩ := h
  cases r with
  | cons rx rr =>
    cases rr with
    | cons rt rr =>
      cases rr
      cases rx
      have ec := hcv _ rt
      subst ec
      obtain ⟨hget, _⟩ := I.pin (a, oe) (List.mem_append.mpr (.inl List.mem_cons_self))
      have hx : ObjOk X.prog X.w H s.heap dd (.xd fs) := I.hok dd _ hd
      obtain ⟨mA, hns, _⟩ := hx
      obtain ⟨od, ho, _⟩ := lookIn_ns hns
      obtain ⟨vs, hv⟩ := hf
      have J : PySem.W.InstAt s.heap a oe D (some od) := ⟨hget, hz.1, by unfold PySem.W.notCls; rw [hv] <;> rfl, by rw [hz.2]; exact ho⟩
      exact PySem.W.kia_one (PySem.W.kitx_exO C.hg C.hk C.hs C.hd C.ha C.hn C.ht C.hm) I.kIn J e (fun z => nomatch z) fun tk => ⟨.bl b, H, I.kept (t' := tk) fun _ _ z => z, rfl, q⟩
end L2.DL

/-! # DLs.lean -/
set_option Elab.async false
set_option linter.all false
set_option maxRecDepth 100000
set_option maxHeartbeats 4000000
/-! ## enumerate over a tuple (turned from the rules over a list) -/
namespace L2.DL.En
open PySem PySem.Spec PyProof.Rows L2
open Sem (wp)
open AutoSeq1 (wpAny_loadPart')
theorem enT_new (lt : Addr) (its0 : Array Value) (n : Nat) (dct : Option Addr) (sl : Array (Option Value)) :
    Meets (Builtin.«enumerate.__new__» ⟨[.type "enumerate", .ref lt], []⟩) (fun _ Rr sh => sh.heap.get? lt = some { cls := .type "tuple", dict := dct, data := .seq its0 n, slots := sl } ∧
      Rr (.ok (.ret (.ref (sh.heap.push { cls := .type "tuple_iterator", data := .fields #[.ref lt, .int 0 0] }).objs.size)))
        { sh with heap := (sh.heap.push { cls := .type "tuple_iterator", data := .fields #[.ref lt, .int 0 0] }).push { cls := .type "enumerate", data := .fields #[.none, .bool false, .ref sh.heap.objs.size, rawInt 0, .none, .none] } }) :=
  .of_wp fun pr0 wo Ar Rr sh h => by
    obtain ⟨mm, gg, dr, tt, oz⟩ := sh; obtain ⟨gl, h⟩ := h
    have gsub := sub_enumerate
    have gL : Heap.IsTuple (Shared.heap ⟨mm, gg, dr, tt, oz⟩) lt its0 := ⟨_, gl, rfl, n, rfl⟩
    wp_walk using wpAny_loadPart' gl
    refine wpAny_stack_any fun sT => wpAny_pure ?_
    split
    · rename_i cc _ _ _ _ _
      cases (cc == Value.type "enumerate")
      · wp_walk using wpAny_loadPart' gl, wpAny_pyIter_tuple gL
        exact ⟨_, rfl, h⟩
      · wp_walk using wpAny_loadPart' gl, wpAny_pyIter_tuple gL
        exact ⟨_, rfl, h⟩
    · wp_walk using wpAny_loadPart' gl, wpAny_pyIter_tuple gL
      exact ⟨_, rfl, h⟩

section
variable {pr0 : Program} {wo : World} {Ar : Around} {Ex : Value → Shared → Prop} {sh : Shared}
theorem enT_next {en it lt : Addr} {i : Nat} {its0 : Array Value} {xv od0 : Value} {Qw : Value → Shared → Prop}
    (ge : IsEnum sh.heap en it i od0) (git : sh.heap.IsTupleIter it lt i) (gl : sh.heap.IsTuple lt its0) (gx : its0[i]? = some xv) (gne : en ≠ it)
    (gQ : ∀ kk, IsEnumOut kk en it ((i : Int) + 1) xv sh.heap.objs.size → kk.IsTupleIter it lt (i + 1) →
      kk.get? sh.heap.objs.size = some { cls := .type "tuple", data := .seq #[.int i sh.toks, xv] } → kk.objs.size = sh.heap.objs.size + 1 →
      (∀ bb ob, bb ≠ en → bb ≠ it → sh.heap.get? bb = some ob → kk.get? bb = some ob) → Qw (.ref sh.heap.objs.size) { sh with heap := kk, toks := sh.toks + 1 }) :
    wpAny (model pr0 wo) Ar (Builtin.«enumerate.__next__» ⟨[.ref en], []⟩) (fun fi s' => ∃ vv, fi = .done (.ret vv) ∧ Qw vv s') Ex sh := by
  obtain ⟨mm, gg, dr, tt, oz⟩ := sh
  show wpAny _ _ (field (.ref en) 2 >>= _) _ _ _
  refine wpAny_bind (wpAny_field ge rfl (x := .ref it) rfl ?_)
  refine wpAny_bind (RZ.nextOf_tuple_item git gl gx fun k1 git1 gs1 => ?_)
  replace gs1 : Heap.SameBut it mm k1 := gs1
  have ge1 : IsEnum k1 en it i od0 := (gs1.2 en gne).trans ge
  show wpAny _ _ (field (.ref en) 3 >>= _) _ _ ⟨k1, gg, dr, tt, oz⟩
  refine wpAny_bind (wpAny_field ge1 rfl (x := rawInt i) rfl ?_)
  show wpAny _ _ (field (.ref en) 4 >>= _) _ _ ⟨k1, gg, dr, tt, oz⟩
  refine wpAny_bind (wpAny_field ge1 rfl (x := .none) rfl ?_)
  show wpAny _ _ (mkInt i >>= _) _ _ ⟨k1, gg, dr, tt, oz⟩
  refine wpAny_bind (wpAny_mkInt ?_); show wpAny _ _ (setField (.ref en) 3 (rawInt ((i : Int) + 1)) >>= _) _ _ ⟨k1, gg, dr, tt + 1, oz⟩
  refine wpAny_bind (wpAny_setField_rec ge1 (by simp) fun k2 ge2 gs2 => ?_)
  replace gs2 : Heap.SameBut en k1 k2 := gs2
  replace ge2 : IsEnum k2 en it ((i : Int) + 1) od0 := ge2
  show wpAny _ _ (setField (.ref en) 4 .none >>= _) _ _ ⟨k2, gg, dr, tt + 1, oz⟩
  refine wpAny_bind (wpAny_setField_rec ge2 (by simp) fun k3 ge3 gs3 => ?_)
  replace gs3 : Heap.SameBut en k2 k3 := gs3
  replace ge3 : IsEnum k3 en it ((i : Int) + 1) od0 := ge3
  show wpAny _ _ (newTuple [.int i tt, xv] >>= _) _ _ ⟨k3, gg, dr, tt + 1, oz⟩
  refine wpAny_bind (wpAny_newTuple ?_); have ge4 : IsEnum (k3.push { cls := .type "tuple", data := .seq #[.int i tt, xv] }) en it ((i : Int) + 1) od0 := Heap.get?_push_of_some _ ge3
  generalize gh4 : k3.push { cls := .type "tuple", data := .seq #[.int i tt, xv] } = k4 at ge4
  have gsz : k3.objs.size = mm.objs.size := by rw [gs3.1, gs2.1, gs1.1]
  have gel : en < mm.objs.size := Heap.lt_size ge
  have gt4 : k4.get? mm.objs.size = some { cls := .type "tuple", data := .seq #[.int i tt, xv] } := by rw [← gh4, ← gsz]; exact Heap.get?_push_size _ rfl
  have gz4 : k4.objs.size = mm.objs.size + 1 := by rw [← gh4, Heap.size_push, gsz]
  have gk4 : ∀ bb ob, bb ≠ en → bb ≠ it → mm.get? bb = some ob → k4.get? bb = some ob := fun bb ob nbe nbi hb => by
    rw [← gh4]; exact Heap.get?_push_of_some _ (gs3.extBut bb ob nbe (gs2.extBut bb ob nbe (gs1.extBut bb ob nbi hb)))
  have git4 : k4.IsTupleIter it lt (i + 1) := by
    rw [← gh4]; obtain ⟨ob, ho, r⟩ := (git1.extBut gs2.extBut (Ne.symm gne)).extBut gs3.extBut (Ne.symm gne); exact ⟨ob, Heap.get?_push_of_some _ ho, r⟩
  show wpAny _ _ (Builtin.SmallTypes.ownedTupleIsFree (.ref en) >>= _) _ _ ⟨k4, gg, dr, tt + 1, oz⟩
  rw [gsz]
  clear gh4 ge3 gs3 ge2 gs2 ge1 gs1 git1 gsz k3 k2 k1
  refine wpAny_bind ?_
  · (unfold Builtin.SmallTypes.ownedTupleIsFree); refine wpAny_bind (wpAny_field ge4 rfl (x := .none) rfl (wpAny_pure ?_))
    simp only [if_true]
    refine wpAny_bind (wpAny_rule ?_); refine wpAny_bind (wpAny_field ge4 rfl (x := od0) rfl ?_)
    refine wpAny_bind (wpAny_setField_rec ge4 (by simp) fun k5 ge5 gs5 => ?_)
    replace gs5 : Heap.SameBut en k4 k5 := gs5
    replace ge5 : IsEnum k5 en it ((i : Int) + 1) xv := ge5
    show wpAny _ _ (Builtin.SmallTypes.ownedTupleHandOut (.ref en) (.ref mm.objs.size) >>= _) _ _ ⟨k5, gg, dr, tt + 1, oz⟩
    refine wpAny_bind ?_
    · (unfold Builtin.SmallTypes.ownedTupleHandOut); refine wpAny_bind (wpAny_setField_rec ge5 (by simp) fun k6 ge6 gs6 => ?_)
      replace gs6 : Heap.SameBut en k5 k6 := gs6
      replace ge6 : IsEnumOut k6 en it ((i : Int) + 1) xv mm.objs.size := ge6
      refine wpAny_setField_rec ge6 (by simp) fun k7 ge7 gs7 => ?_
      replace gs7 : Heap.SameBut en k6 k7 := gs7
      replace ge7 : IsEnumOut k7 en it ((i : Int) + 1) xv mm.objs.size := ge7
      refine wpAny_bind (wpAny_letGo (wpAny_pure ⟨_, rfl, gQ k7 ge7 ?_ ?_ ?_ ?_⟩))
      · exact ((git4.extBut gs5.extBut (Ne.symm gne)).extBut gs6.extBut (Ne.symm gne)).extBut gs7.extBut (Ne.symm gne)
      · exact gs7.extBut _ _ (Nat.ne_of_gt gel) (gs6.extBut _ _ (Nat.ne_of_gt gel) (gs5.extBut _ _ (Nat.ne_of_gt gel) gt4))
      · rw [gs7.1, gs6.1, gs5.1, gz4]
      · exact fun bb ob nbe nbi hb => gs7.extBut bb ob nbe (gs6.extBut bb ob nbe (gs5.extBut bb ob nbe (gk4 bb ob nbe nbi hb)))

theorem enT_item {en it lt : Addr} {i : Nat} {its0 : Array Value} {xv od0 : Value} {Qw : Option Value → Shared → Prop}
    (ge : IsEnum sh.heap en it i od0) (git : sh.heap.IsTupleIter it lt i) (gl : sh.heap.IsTuple lt its0) (gx : its0[i]? = some xv) (gne : en ≠ it)
    (gQ : ∀ kk, IsEnumOut kk en it ((i : Int) + 1) xv sh.heap.objs.size → kk.IsTupleIter it lt (i + 1) →
      kk.get? sh.heap.objs.size = some { cls := .type "tuple", data := .seq #[.int i sh.toks, xv] } → kk.objs.size = sh.heap.objs.size + 1 →
      (∀ bb ob, bb ≠ en → bb ≠ it → sh.heap.get? bb = some ob → kk.get? bb = some ob) → Qw (some (.ref sh.heap.objs.size)) { sh with heap := kk, toks := sh.toks + 1 }) :
    wpAny (model pr0 wo) Ar (pyNext (.ref en)) Qw Ex sh := by
  have gT : sh.TypeIs (.ref en) "enumerate" := ⟨_, ge, rfl⟩
  unfold pyNext
  exact wpAny_bind (wpAny_attempt (wpAny_callSpecial?_slot (name := Str.ofString "__next__") gT F.slot_enumerate_next
    (wpAny_call_entry F.slot_enumerate_next gT F.entry_enumerate_next
      (enT_next ge git gl gx gne fun kk a bb cc dr k => wpAny_pure (gQ kk a bb cc dr k)) (F.args_enumerate_next_1 _))))

theorem enT_end {en it lt : Addr} {i : Nat} {its0 : Array Value} {od0 : Value} {Qw : Option Value → Shared → Prop} (gh : Ar.handled = none)
    (ge : IsEnum sh.heap en it i od0) (git : sh.heap.IsTupleIter it lt i) (gl : sh.heap.IsTuple lt its0) (gx : its0[i]? = none)
    (gQ : ∀ kk, Heap.ExtBut it sh.heap kk → Qw none { sh with heap := kk }) : wpAny (model pr0 wo) Ar (pyNext (.ref en)) Qw Ex sh := by
  have gT : sh.TypeIs (.ref en) "enumerate" := ⟨_, ge, rfl⟩
  unfold pyNext
  refine wpAny_bind (wpAny_attempt (wpAny_callSpecial?_slot (name := Str.ofString "__next__") gT F.slot_enumerate_next
    (wpAny_call_entry F.slot_enumerate_next gT F.entry_enumerate_next ?_ (F.args_enumerate_next_1 _))))
  show wpAny _ _ (field (.ref en) 2 >>= _) _ _ _
  refine wpAny_bind (wpAny_field ge rfl (x := .ref it) rfl ?_)
  refine wpAny_bind (RZ.nextOf_tuple_end gh git gl gx fun kk xv he' hx' => ?_)
  obtain ⟨ob, ho, hc⟩ := hx'
  refine wpAny_bind (wpAny_isInstance (T := "StopIteration") (b := true) ⟨ob, ho, hc⟩ isSubtype_stop ?_)
  exact wpAny_pure (gQ _ he')
theorem enT_call {lt : Addr} {its0 : Array Value} {Qw : Value → Shared → Prop} (gL : sh.heap.IsTuple lt its0)
    (h : ∀ kk, IsEnum kk (sh.heap.objs.size + 1) sh.heap.objs.size 0 .none → kk.IsTupleIter sh.heap.objs.size lt 0 → kk.objs.size = sh.heap.objs.size + 2 →
      (∀ bb ob, sh.heap.get? bb = some ob → kk.get? bb = some ob) → Qw (.ref (sh.heap.objs.size + 1)) { sh with heap := kk }) :
    wpAny (model pr0 wo) Ar (call (.type "enumerate") [.ref lt]) Qw Ex sh := by
  obtain ⟨⟨cc, dct, dt, sl⟩, gl, hc, n, hd⟩ := gL
  replace hc : cc = .type "tuple" := hc
  replace hd : dt = .seq its0 n := hd
  subst hc hd
  refine callType_new F.called_enumerate (by decide) (F.typeCall_enumerate_1 _) (F.newCall_enumerate_1 _) (fun obj' => F.args_object_init_2 obj' _) F.entry_enumerate_new
    (enT_new lt its0 n dct sl) ⟨gl, ?_⟩
  have gz : (sh.heap.push { cls := .type "tuple_iterator", data := .fields #[.ref lt, .int 0 0] }).objs.size = sh.heap.objs.size + 1 := Heap.size_push ..
  show _ ∧ _
  rw [gz]
  have ge : IsEnum ((sh.heap.push { cls := .type "tuple_iterator", data := .fields #[.ref lt, .int 0 0] }).push
      { cls := .type "enumerate", data := .fields #[.none, .bool false, .ref sh.heap.objs.size, rawInt 0, .none, .none] }) (sh.heap.objs.size + 1) sh.heap.objs.size 0 .none := by
    have := Heap.get?_push_size (sh.heap.push { cls := .type "tuple_iterator", data := .fields #[.ref lt, .int 0 0] })
      (o := { cls := .type "enumerate", data := .fields #[.none, .bool false, .ref sh.heap.objs.size, rawInt 0, .none, .none] }) rfl
    rw [gz] at this; exact this
  refine ⟨⟨_, ge, rfl⟩, h _ ge ⟨_, Heap.get?_push_of_some _ (Heap.get?_push_size _ rfl), rfl, rfl⟩ (by rw [Heap.size_push, gz]) fun bb ob xv => Heap.get?_push_of_some _ (Heap.get?_push_of_some _ xv)⟩

end
/-- the tuple at a as it stands at each turn, each item in a nw pair -/
def ItT (K : PySem.W.Frag) (a : Addr) : It :=
  ⟨fun i H => ∃ (xs : List V) (x : V), SqT K H a xs ∧ xs[i]? = some x, fun i H vv H' => ∃ T x, vv = .ref T ∧ H T = none ∧ H' = upd H T (.tup [.int (i : Nat), x]) ∧ ∀ xs, SqT K H a xs → xs[i]? = some x, fun i H => ∃ xs : List V, SqT K H a xs ∧ xs.length ≤ i⟩
theorem turn_enT {P : Program} {wo : World} {K : PySem.W.Frag} {elts : List Expr} {kk : Nat} {tpos : Pos} (a en it : Addr) :
    Turn P wo K (.Tuple elts kk tpos) (ItT K a) [en, it] en (fun i h => (∃ od0, IsEnum h en it ((i : Nat) : Int) od0) ∧ h.IsTupleIter it a i ∧ en ≠ it) where
  mem := by simp
  obj := fun i h sT bb nb => by
    obtain ⟨⟨od0, ge⟩, ⟨ob, go, hc, hd⟩, _⟩ := sT
    have ee : bb = en ∨ bb = it := by simpa using nb
    rcases ee with zz | zz
    · rw [zz]; exact ⟨_, ge, fun vv qq => nomatch qq⟩
    · rw [zz]; exact ⟨ob, go, fun vv qq => by rw [hd] at qq; cases qq⟩
  keep := fun i h kk sT k => let ⟨⟨od0, ge⟩, hi, gne⟩ := sT; ⟨⟨od0, k en (by simp) _ ge⟩, hi.at fun ob qq => k it (by simp) ob qq, gne⟩
  item := by
    intro X hP hw hK hc i pn0 sh σ H Ex I fO sT gG
    subst hP hw hK
    obtain ⟨⟨od0, ge⟩, git, gne⟩ := sT
    obtain ⟨xs, x, gq, gx⟩ := gG
    obtain ⟨its, rw0, pp, gz⟩ := I.tuple gq
    obtain ⟨u, gu, rU⟩ := rw0.get gx
    have gel : en < sh.heap.objs.size := Heap.lt_size ge
    have gil : it < sh.heap.objs.size := by obtain ⟨_, qq, _⟩ := git; exact Heap.lt_size qq
    refine enT_item ge git pp (xv := u) (by simpa using gu) gne fun kk go git9 gT gsz gk => ?_
    refine ⟨_, rfl, wpAny_letOwnedTupleGo_enum (s := { sh with heap := kk, toks := sh.toks + 1 }) go fun k9 ge9 sB => ?_⟩
    have gT2 : k9.get? sh.heap.objs.size = some { cls := .type "tuple", data := .seq #[.int i sh.toks, u] } := (sB.2 _ (Nat.ne_of_gt gel)).trans gT
    have nw : ObjOk X.prog X.w (upd H sh.heap.objs.size (.tup [.int (i : Nat), x])) k9 sh.heap.objs.size (.tup [.int (i : Nat), x]) :=
      ⟨by show 2 ≤ sizeLine; decide, [.int i sh.toks, u], .cons ⟨_, rfl⟩ (.cons rU .nil), ⟨_, gT2, rfl, _, rfl⟩⟩
    have J1 : Inv X pn0 σ (upd H sh.heap.objs.size (.tup [.int (i : Nat), x])) { sh with heap := k9, toks := sh.toks + 1 } :=
      I.turnedNew (ch := [en, it]) (fun bb ob nb qq => (sB.2 bb (fun zz => nb (by simp [zz]))).trans (gk bb ob (fun zz => nb (by simp [zz])) (fun zz => nb (by simp [zz])) qq)) fO (Nat.le_refl _) nw
    refine ⟨.ref sh.heap.objs.size, _, J1, rfl, ⟨_, x, rfl, I.hok.fresh (Nat.le_refl _), rfl, fun ys hy => by rw [I.tuple_inj hy gq]; exact gx⟩, ⟨⟨u, ?_⟩, git9.at fun ob qq => (sB.2 it (Ne.symm gne)).trans qq, gne⟩, fun bb nb => ?_⟩
    · have e2 : ((i + 1 : Nat) : Int) = (i : Int) + 1 := by omega
      rw [e2]; exact ge9
    · have nb' : bb < sh.heap.objs.size := by
        have ee : bb = en ∨ bb = it := by simpa using nb
        rcases ee with zz | zz
        · rw [zz]; exact gel
        · rw [zz]; exact gil
      rw [upd_ne (Nat.ne_of_lt nb')]
      exact (fO bb nb).1
  done := by
    intro X hP hw hK hc i pn0 sh σ H Ex I fO sT gG
    subst hP hw hK
    obtain ⟨⟨od0, ge⟩, git, gne⟩ := sT
    obtain ⟨xs, gq, gx⟩ := gG
    obtain ⟨its, rw0, pp, gz⟩ := I.tuple gq
    obtain ⟨w0, w1, w2, w3, w4, w5⟩ := fO it (by simp)
    have gl := rw0.length
    exact enT_end (I.ok.hd hc) ge git pp (by simp; omega) fun kk eb => ⟨rfl, I.turned (t' := sh.toks) (fun bb ob nb qq => eb bb ob nb qq) w0 w1 w3 w4 w5⟩
  self := fun Ar i sh Qw Ex sT h => let ⟨⟨_, ge⟩, _⟩ := sT; wpAny_pyIter_enum ge h
def iEnT (K : PySem.W.Frag) (ta : TA) : TI := fun σ H Rr => ta σ H fun vs H1 => ∃ a xs, vs = [.ref a] ∧ SqT K H1 a xs ∧ Rr (ItT K a) H1
theorem pi_enT {X : Cx} {en : Expr} {ta : TA} {pp pos tpos : Pos} {elts : List Expr} {kk : Nat} (gG : Gl X "enumerate") (gm : X.mg "enumerate" = none) (gA : PA X [en] ta) (gS : starEach [en] X.env = [(false, eval en X.env)] := by rfl) :
    PI X (.Tuple elts kk tpos) (.Call (.Name "enumerate" pp) [en] [] pos) (iEnT X.K ta) := by
  refine ⟨fun pn0 sh σ H Rr I h => ?_⟩
  refine Call_ (ld_blt I gG gm boot_enumerate (PyProof.Rows.callWith_type1 (thn (gA.run pos pn0 sh σ H _ I h) fun us s1 ⟨vs, H1, J1, rA, qA⟩ => ?_) gS rfl))
  obtain ⟨a, xs, eX, gq, qq⟩ := qA
  subst eX
  cases rA with
  | cons r rB =>
    cases rB
    cases r
    obtain ⟨its, rw0, pq, gz⟩ := J1.tuple gq
    refine enT_call pq fun kk ge git gsz gk => wpAny_pyIter_enum ge ?_
    have J2 : Inv X pn0 σ H1 { s1 with heap := kk } := J1.kept (t' := s1.toks) gk
    refine ⟨s1.heap.objs.size + 1, [s1.heap.objs.size + 1, s1.heap.objs.size], _, _, H1, rfl, J2, turn_enT a (s1.heap.objs.size + 1) s1.heap.objs.size, ⟨⟨.none, ge⟩, git, Nat.succ_ne_self _⟩, fun bb nb => ?_, qq⟩
    have ee : bb = s1.heap.objs.size + 1 ∨ bb = s1.heap.objs.size := by simpa using nb
    have gle : s1.heap.objs.size ≤ bb := by
      rcases ee with zz | zz
      · rw [zz]; exact Nat.le_add_right _ _
      · rw [zz]; exact Nat.le_refl _
    exact J1.fpOk gle (J1.hok.fresh gle)
end L2.DL.En

/-! # DLt.lean -/
set_option Elab.async false
set_option linter.all false
set_option maxRecDepth 100000
namespace L2.DL
open PySem PySem.Spec PyProof.Rows
/-! ## calls of defs that may raise, where they don't; calls by keywords -/
section
variable {X : Cx} {Wx : WX} {f : Addr} {fd : FuncData} {ps ks : List Str} {k : Nat} {x : Str} {p pos kpos : Pos} {a ex : Expr} {es : List Expr} {Wargs : WA} {We : WE} {kws : List Keyword} {CX : CXT} {sp : Sp} {E : XK} {g : List Value → List Value → List Value} {gV : List V → List V → List V} {tk : TA} {nm : Option Str}
theorem passN : Passes (L2.CX X.prog X.w) X E0 := fun _ _ _ _ _ _ _ h => by
  obtain ⟨_, _, _, _, _, _, _, _, _, _, _, _, z⟩ := h
  exact z.elim
def wCallN (R : RX) (Wa : WA) : WE := fun EX ρ P => Wa EX ρ fun ds ρ1 => R ds (fun dv => P dv ρ1) fun _ _ => False
theorem spX_quiet {K : PySem.W.Frag} {R : RX} {F H : Hp} {vs : List V} {ds : List D} {P : DV → Prop} {Q : VK} (m : Same F H) (i : IsL K F ds vs) (r : R ds P fun _ _ => False) (q : ∀ F' H' v dv, Stp F H F' H' [] → Same F' H' → Out K H F' H' dv v → P dv → Q v H') : spX K R vs H Q E0 :=
  ⟨F, ds, P, _, m, i, r, q, fun _ _ _ _ _ _ _ _ _ _ _ _ z => z.elim⟩
theorem je_callN {R : RX} (G : FnOk X.prog X.w X.K X.mg X.base (L2.CX X.prog X.w) k f fd ps (spX X.K R)) (hr : Room k X.A) (hg : Gl X x) (hm : X.mg x = some (.ref f)) (hk : PySem.W.keepIn X.K (.ref f) = true) (hb : Binds X.K fd ps [])
    (ha : JA X Wx (a :: es) Wargs) (hdb : (x == ("__debug__" : Str)) = false := by decide) (he : starEach (a :: es) X.env = (false, eval a X.env) :: starEach es X.env := by rfl) (hpl : (backTo pos (starEach es X.env)).any (·.1) = false := by rfl) :
    JE X Wx (.Call (.Name x p) (a :: es) [] pos) (wCallN R Wargs) := by
  refine PE.wk (pe_call G hr hg hm hk hb .nil passN ha hdb he hpl) fun σ H Q h => ?_
  obtain ⟨e, ρ, F, EX, P, s, w0, hx, kk⟩ := h
  refine ⟨e, ρ, F, EX, _, s, w0, hx, fun F1 H1 vs ds ρ1 s1 m1 r1 q1 => ?_⟩
  show spX X.K R (vs ++ []) H1 Q E0
  rw [List.append_nil]
  exact spX_quiet s1.fh r1 q1 fun F' H' v dv st sm o p => kk F' H' v dv ρ1 (s1.later sm st) (m1.trans st.ff) (Out.res s1 o) p
theorem pe_kw0 (F : FnOk X.prog X.w X.K X.mg X.base CX k f fd ps sp) (hr : Room k X.A) (hg : Gl X x) (hm : X.mg x = some (.ref f)) (hk : PySem.W.keepIn X.K (.ref f) = true) (hb : KBn X.K fd ps 0 ks g gV) (hx : Passes CX X E) (hkw : PK X kws tk)
    (hdb : (x == ("__debug__" : Str)) = false) (hall : (backToKw pos (keywordEach kws X.env)).all (·.1.isSome) = true) (hks : (backToKw pos (keywordEach kws X.env)).filterMap (·.1) = ks)
    (hpl : ((backTo pos (starEach [] X.env)).any (·.1) || (backToKw pos (keywordEach kws X.env)).any (·.1.isNone)) = false) :
    PE X (.Call (.Name x p) [] kws pos) (fun σ H Q => tk σ H fun zs H2 => zs.length = ks.length ∧ sp (gV [] zs) H2 Q E) := by
  refine ⟨fun pins s σ H Q I h => ?_⟩
  refine wpAny_Call_Name_kw (ld_glob I hg hm ?_ hdb)
  refine PySem.W.callWith_KW0 (h₀ := X.base) I.ok.mod.kin hk hall (thn (hkw.run pos pins s σ H _ I h) fun ws s2 z => ?_) hpl
  obtain ⟨zs, H2, I2, rz, l2, q2⟩ := z
  refine ⟨I2.kIn, ?_⟩
  rw [hks]
  exact run_fnN F hr hb hx I2 .nil rz rfl l2 q2
abbrev JK (X : Cx) (Wx : WX) (kws : List Keyword) (W : WA) : Prop := PK X kws (cA X.K Wx W)
theorem PK.wk {t t' : TA} (h : PK X kws t) (i : ∀ σ H Q, t' σ H Q → t σ H Q) : PK X kws t' := ⟨fun p pins s σ H Q I q => h.run p pins s σ H Q I (i σ H Q q)⟩
theorem jk_nil : JK X Wx [] wNil := by
  refine PK.wk pk_nil fun σ H Q h => ?_
  obtain ⟨e, ρ, F, EX, P, s, w0, hx, kk⟩ := h
  exact kk F H [] [] ρ s (Same.refl _) IsL.nil w0
theorem jk_cons (ha : JE X Wx ex We) (hr : JK X Wx kws Wargs) : JK X Wx (⟨nm, ex, kpos⟩ :: kws) (wCons We Wargs) := by
  refine PK.wk (pk_cons ha hr) fun σ H Q h => ?_
  obtain ⟨e, ρ, F, EX, P, s, w0, hx, kk⟩ := h
  refine ⟨e, ρ, F, EX, _, s, w0, hx, fun F1 H1 v1 d1 ρ1 s1 m1 r1 q1 => ?_⟩
  obtain ⟨F1', a1, s1', m1', i1, q1'⟩ := s1.data r1 q1
  refine ⟨e, ρ1, F1', EX, _, s1', q1', hx, fun F2 H2 vs ds ρ2 s2 m2 r2 q2 => ?_⟩
  exact kk F2 H2 _ _ ρ2 s2 (m1.trans (m1'.trans m2)) (IsL.cons (Is.mono m2 _ i1) r2) q2
def wCallK (n : Nat) (R : RF) (Wa : WA) : WE := fun EX ρ P => Wa EX ρ fun ds ρ1 => ds.length = n ∧ R ds fun dv => P dv ρ1
theorem je_callK {R : RF} (G : FnOk X.prog X.w X.K X.mg X.base CX0 k f fd ps (spF X.K R)) (hr : Room k X.A) (hg : Gl X x) (hm : X.mg x = some (.ref f)) (hk : PySem.W.keepIn X.K (.ref f) = true) (hb : KBn X.K fd ps 0 ks (fun _ ws => ws) (fun _ zs => zs))
    (ha : JK X Wx kws Wargs) (hdb : (x == ("__debug__" : Str)) = false := by decide) (hall : (backToKw pos (keywordEach kws X.env)).all (·.1.isSome) = true := by rfl) (hks : (backToKw pos (keywordEach kws X.env)).filterMap (·.1) = ks := by rfl)
    (hpl : ((backTo pos (starEach [] X.env)).any (·.1) || (backToKw pos (keywordEach kws X.env)).any (·.1.isNone)) = false := by rfl) : JE X Wx (.Call (.Name x p) [] kws pos) (wCallK ks.length R Wargs) := by
  refine PE.wk (pe_kw0 G hr hg hm hk hb pass0 ha hdb hall hks hpl) fun σ H Q h => ?_
  obtain ⟨e, ρ, F, EX, P, s, w0, hx, kk⟩ := h
  refine ⟨e, ρ, F, EX, _, s, w0, hx, fun F1 H1 vs ds ρ1 s1 m1 r1 q1 => ⟨by rw [← r1.len]; exact q1.1, ?_⟩⟩
  exact ⟨F1, ds, _, s1.fh, r1, q1.2, fun F' H' v dv st sm o p => kk F' H' v dv ρ1 (s1.later sm st) (m1.trans st.ff) ((Out.res s1 o)) p⟩
def wCallKN (n : Nat) (R : RX) (Wa : WA) : WE := fun EX ρ P => Wa EX ρ fun ds ρ1 => ds.length = n ∧ R ds (fun dv => P dv ρ1) fun _ _ => False
theorem je_callKN {R : RX} (G : FnOk X.prog X.w X.K X.mg X.base (L2.CX X.prog X.w) k f fd ps (spX X.K R)) (hr : Room k X.A) (hg : Gl X x) (hm : X.mg x = some (.ref f)) (hk : PySem.W.keepIn X.K (.ref f) = true) (hb : KBn X.K fd ps 0 ks (fun _ ws => ws) (fun _ zs => zs))
    (ha : JK X Wx kws Wargs) (hdb : (x == ("__debug__" : Str)) = false := by decide) (hall : (backToKw pos (keywordEach kws X.env)).all (·.1.isSome) = true := by rfl) (hks : (backToKw pos (keywordEach kws X.env)).filterMap (·.1) = ks := by rfl)
    (hpl : ((backTo pos (starEach [] X.env)).any (·.1) || (backToKw pos (keywordEach kws X.env)).any (·.1.isNone)) = false := by rfl) : JE X Wx (.Call (.Name x p) [] kws pos) (wCallKN ks.length R Wargs) := by
  refine PE.wk (pe_kw0 G hr hg hm hk hb passN ha hdb hall hks hpl) fun σ H Q h => ?_
  obtain ⟨e, ρ, F, EX, P, s, w0, hx, kk⟩ := h
  refine ⟨e, ρ, F, EX, _, s, w0, hx, fun F1 H1 vs ds ρ1 s1 m1 r1 q1 => ⟨by rw [← r1.len]; exact q1.1, ?_⟩⟩
  exact spX_quiet s1.fh r1 q1.2 fun F' H' v dv st sm o p => kk F' H' v dv ρ1 (s1.later sm st) (m1.trans st.ff) (Out.res s1 o) p
theorem takesN : Takes X NW := fun u s' h => by
  obtain ⟨_, _, _, _, _, _, _, _, _, _, _, _, _, _, _, _, z⟩ := h
  exact z.elim
/-- a def called with no argument that may raise -/
def wCallX0 (R : RX) : WE := fun EX ρ P => R [] (fun dv => P dv ρ) fun C kvs => EX C kvs ρ
end
section
variable {K : PySem.W.Frag} {x qual : Str} {params : Arguments} {body : List Stmt} {scope : Scope} {kws : List (Str × V)} {f : Addr} {fd : FuncData} {ps ks : List Str}
theorem kb_all (F : FunD K x qual params body scope [] kws f fd) (hk : ks.length = ps.length)
    (h : ∀ (kV doc pm : Value) (an : Option Addr) (cdv ct : Value) (ws : List Value), ws.length = ps.length → bindArgs (PySem.W.fnOf x qual params body scope .none kV doc pm an cdv ct) ⟨[], ks.zip ws⟩ = pure (ps.zip ws)) : KBn K fd ps 0 ks (fun _ ws => ws) (fun _ zs => zs) := by
  refine ⟨fun s us ws X l1 l2 => ?_, fun _ r => r⟩
  obtain ⟨oc, od, dV, kV, doc, pm, an, cdv, ct, osl, rfl, lk, hcd, hD, hK⟩ := F.ex
  have e : us = [] := List.eq_nil_of_length_eq_zero l1
  subst e
  rcases hD with ⟨_, rfl⟩ | ⟨e, _⟩
  · exact .of_eq (h kV doc pm an cdv ct ws (l2.trans hk))
  · exact absurd rfl e
end
/-! ## classes of exceptions: facts -/
def oexB (K : PySem.W.Frag) (C : Addr) : Bool := match K.lookup C with
  | some ⟨.type ty, _, .cls cd, sl⟩ => (match cd.mro, sl.toList with
    | .ref C' :: bm, [_, _, _, _, some (.builtin n), _] => decide (ty = "type") && (decide (C' = C) && (decide (n = "ValueError.__new__") && (!cd.hasDel && (cd.hasDict && PySem.HandSPX.refsVE bm))))
    | _, _ => false)
  | _ => false
theorem oexB_ok {K : PySem.W.Frag} {C : Addr} (h : oexB K C = true) : ∃ nm q N bs bm sn sub ab col dd k0 k1 k2 k3 k5, K.lookup C = some (excClassObj nm q C N bs bm true sn sub ab col dd k0 k1 k2 k3 k5 "ValueError.__new__") ∧ PySem.HandSPX.refsVE bm = true := by
  unfold oexB at h
  split at h
  · rename_i ty dd cd sl ho
    split at h
    · rename_i C' bm k0 k1 k2 k3 n k5 hm hs
      obtain ⟨h0, h⟩ := He.ba h
      obtain ⟨h1, h⟩ := He.ba h
      obtain ⟨h2, h⟩ := He.ba h
      obtain ⟨h3, h⟩ := He.ba h
      obtain ⟨h4, h5⟩ := He.ba h
      obtain ⟨nm, bs, mro, ns, qn, hd, sn, sub, ab, col, del⟩ := cd
      have e0 := of_decide_eq_true h0
      have e1 := of_decide_eq_true h1
      have e2 := of_decide_eq_true h2
      dsimp only at hm h3 h4
      subst e0 e1 e2 hm h4
      have e3 : del = false := by cases del <;> first | rfl | cases h3
      subst e3
      have hsl : sl = #[k0, k1, k2, k3, some (.builtin "ValueError.__new__"), k5] := by
        obtain ⟨l⟩ := sl
        simp only at hs
        rw [hs]
      subst hsl
      exact ⟨nm, qn, ns, bs, bm, sn, sub, ab, col, dd, k0, k1, k2, k3, k5, ho, h5⟩
    · cases h
  · cases h
structure XCls (K : PySem.W.Frag) (x : Str) (fls : List Str) : Prop where
  oe : OexC K (He.ga K x)
  xf : XfC K (He.ga K x)
  ec : ExcC K (He.ga K x)
  no : ∀ f, f ∈ fls → PySem.W.findIn K (.ref (He.ga K x)) f = some none
  ini : PySem.W.findIn K (.ref (He.ga K x)) "__init__" = some (some (.ref (He.ma K (He.ga K x) "__init__")))
  tI : PySem.W.typeIn K (.ref (He.ma K (He.ga K x) "__init__")) = some (.type "function")
def xclsB (K : PySem.W.Frag) (x : Str) (fls : List Str) : Bool := oexB K (He.ga K x) && (xfB K (He.ga K x) && (decide (PySem.W.findIn K (.ref (He.ga K x)) "__setattr__" = some (some (.builtin "object.__setattr__"))) && (decide (PySem.W.typeIn K (.ref (He.ga K x)) = some (.type "type")) && (PySem.W.keepIn K (.ref (He.ga K x)) &&
  (decide (PySem.W.findIn K (.ref (He.ga K x)) "__class__" = some (some (.builtin "object.__class__"))) && (decide (PySem.W.specialIn K (.builtin "object.__class__") "__get__" = some (some (.builtin "getset_descriptor.__get__"))) && (decide (PySem.W.takesIn K (.builtin "object.__class__") = some true) && (decide (PySem.W.mroIn K (He.ga K x) (.type "object") = some true) &&
  ((fls.all fun f => decide (PySem.W.findIn K (.ref (He.ga K x)) f = some none)) && (decide (PySem.W.findIn K (.ref (He.ga K x)) "__init__" = some (some (.ref (He.ma K (He.ga K x) "__init__")))) && decide (PySem.W.typeIn K (.ref (He.ma K (He.ga K x) "__init__")) = some (.type "function"))))))))))))
theorem xclsB_ok {K : PySem.W.Frag} {x : Str} {fls : List Str} (h : xclsB K x fls = true) : XCls K x fls := by
  obtain ⟨h1, h⟩ := He.ba h
  obtain ⟨h2, h⟩ := He.ba h
  obtain ⟨h3, h⟩ := He.ba h
  obtain ⟨h4, h⟩ := He.ba h
  obtain ⟨h5, h⟩ := He.ba h
  obtain ⟨h6, h⟩ := He.ba h
  obtain ⟨h7, h⟩ := He.ba h
  obtain ⟨h8, h⟩ := He.ba h
  obtain ⟨h9, h⟩ := He.ba h
  obtain ⟨h10, h⟩ := He.ba h
  obtain ⟨h11, h12⟩ := He.ba h
  have xf := xfB_ok h2
  exact ⟨⟨oexB_ok h1, of_decide_eq_true h3, xf.exC, of_decide_eq_true h4, h5⟩, xf, ⟨xf.ga, xf.gg, xf.exC, xf.hdC, of_decide_eq_true h6, of_decide_eq_true h7, of_decide_eq_true h8, of_decide_eq_true h9⟩,
    fun f hf => of_decide_eq_true (List.all_eq_true.mp h10 f hf), of_decide_eq_true h11, of_decide_eq_true h12⟩
/-- which class is caught by which -/
abbrev Tab3 : Type := List (Str × Str × Bool)
def tab3 (tab : Tab3) (C c : Str) : Option Bool := (tab.find? fun t => decide (t.1 = C ∧ t.2.1 = c)).map (·.2.2)
def exmB (K : PySem.W.Frag) (tab : Tab3) : Bool := tab.all fun t => decide (PySem.W.exmOne K (.ref (He.ga K t.1)) (.ref (He.ga K t.2.1)) = some t.2.2)
def kitB3 (K : PySem.W.Frag) (tab : Tab3) : Bool := tab.all fun t => decide (PySem.W.kitOne K (.ref (He.ga K t.1)) (.ref (He.ga K t.2.1)) = some t.2.2)
theorem tab3_mem {tab : Tab3} {C c : Str} {b : Bool} (h : tab3 tab C c = some b) : (C, c, b) ∈ tab := by
  unfold tab3 at h
  obtain ⟨t, h1, h2⟩ := Option.map_eq_some_iff.mp h
  have h3 := List.find?_some h1
  obtain ⟨e1, e2⟩ := of_decide_eq_true h3
  have := List.mem_of_find?_eq_some h1
  rw [← e1, ← e2, ← h2]
  exact this
theorem exmB_ok {K : PySem.W.Frag} {tab : Tab3} (h : exmB K tab = true) : ∀ C c b, tab3 tab C c = some b → PySem.W.exmOne K (.ref (He.ga K C)) (.ref (He.ga K c)) = some b := fun C c b q => of_decide_eq_true (List.all_eq_true.mp h _ (tab3_mem q))
theorem kitB3_ok {K : PySem.W.Frag} {tab : Tab3} (h : kitB3 K tab = true) : ∀ C c b, tab3 tab C c = some b → PySem.W.kitOne K (.ref (He.ga K C)) (.ref (He.ga K c)) = some b := fun C c b q => of_decide_eq_true (List.all_eq_true.mp h _ (tab3_mem q))
/-! ## isinstance of a caught exception -/
section
variable {X : Cx} {Wx : WX} {a : Addr} {oe : Obj} {cls : Value} {d : Option Addr} {pn : List (Addr × Obj)} {K : PySem.W.Frag}
theorem je_cn {x : Str} {pos : Pos} (hg : Gl X x) (hm : X.mg x = some (.ref (He.ga X.K x))) (hd : (x == ("__debug__" : Str)) = false := by decide) : JE X Wx (.Name x pos) (wK (.cn x)) :=
  je_const (pe_glob hg hm (v := .ref (He.ga X.K x)) rfl hd) fun _ => by simp [Is]
def rIsX (K : PySem.W.Frag) (cls : Value) (d : Option Addr) (a : Addr) : List V → Hp → VK → Prop := fun xs H Q => ∃ D dd, cls = .ref D ∧ d = some dd ∧ ExcC K D ∧ rIsO K D a dd xs H Q
theorem call_isX (hz : Zc cls d oe) (hf : ∃ vs, oe.data = .fields vs) : CallR (X.suite a ((a, oe) :: pn)) (.builtin "isinstance") (rIsX X.K cls d a) := by
  intro pins s σ H xs us Q I r h
  obtain ⟨D, dd, rfl, rfl, C, h⟩ := h
  exact call_isO C hz hf pins s σ H xs us Q I r h
def wIsX (tab : Tab3) (a : Addr) (C : Str) (d : Option Addr) : List D → (DV → Prop) → Prop := fun ds P => match ds with
  | [.exc _ a' dd _ _, .cn c] => a' = a ∧ d = some dd ∧ ∃ b, tab3 tab C c = some b ∧ P (.fz (.bl b))
  | _ => False
theorem cr_isX {tab : Tab3} {C : Str} (hC : cls = .ref (He.ga K C)) (hx : ∀ c b, tab3 tab C c = some b → ExcC K (He.ga K C)) (hk : ∀ C c b, tab3 tab C c = some b → PySem.W.kitOne K (.ref (He.ga K C)) (.ref (He.ga K c)) = some b) : CRl K (rIsX K cls d a) (wIsX tab a C d) := by
  intro e ρ F σ H vs ds Q P s i w k
  unfold wIsX at w
  split at w
  · obtain ⟨v, u, rfl, iv, iu⟩ := i.two_inv
    simp only [Is] at iv iu
    obtain ⟨rfl, rfl, b, hb, q⟩ := w
    obtain ⟨ws, rfl, h1, h2, h3⟩ := iv
    subst iu
    exact ⟨_, _, hC, rfl, hx _ _ hb, .ref _, .ref _, b, _, rfl, fun u r => r, hk _ _ _ hb, s.fh _ _ h1, k F H _ _ s (Same.refl _) (Res.fz (by simp [Is])) q⟩
  · exact w.elim
end
end L2.DL

/-! # DLu.lean -/
set_option Elab.async false
set_option linter.all false
set_option maxRecDepth 100000
namespace L2.DL
open PySem PySem.Spec PyProof.Rows
/-! ## instances of own classes -/
section
variable {K : PySem.W.Frag} {e : Ent} {ρ : DEnv} {F H F' H' : Hp} {σ : St} {p : Addr}
/-- later, where an object that no slot owns is changed -/
theorem Sg.laterX (s : Sg K e ρ F σ H) (fh : Same F' H') (st : Stp F H F' H' [p]) (hx : ∀ (i : Nat) (dw : DV), ρ[i]? = some (some dw) → dw.own = true → σ[i]? ≠ some (some (.ref p))) (np : ∀ u, (p, u) ∉ e.pn) (he : e.H p = none) : Sg K e ρ F' σ H' := by
  have kp : ∀ q u, H q = some u → q ≠ p → H' q = some u := fun q u h n => st.keep q u h (by simpa using n)
  refine ⟨fh, ⟨s.st.ff.trans st.ff, fun q u h n => ?_, fun q u h => ?_, fun q u h n => ?_⟩, s.len, fun j dw h => ?_, s.ap, fun r hr => ?_⟩
  · have ne : q ≠ p := fun z => by rw [z, he] at h; cases h
    exact kp q u (s.st.keep q u h n) ne
  · obtain ⟨u', h'⟩ := s.st.there q u h
    exact st.there q u' h'
  · obtain ⟨u', h'⟩ := s.st.there q u h
    exact st.old q u' h' (s.st.old q u h n)
  · obtain ⟨w, b1, b2⟩ := s.sl j dw h
    refine ⟨w, b1, ?_⟩
    cases dw with
    | fz d => exact Is.mono st.ff d b2
    | lk q c =>
      obtain ⟨u, od, rfl, c1, c2⟩ := b2
      exact ⟨u, od, rfl, c1, c2.mono st.ff⟩
    | mu b' c2 =>
      obtain ⟨r, u2, rfl, c1, c2, c3, c4, c5, c6⟩ := b2
      have ne : r ≠ p := fun z => hx j _ h rfl (by rw [b1, z])
      exact ⟨r, u2, rfl, st.old r u2 c5 c1, c2, c3, c4, kp r u2 c5 ne, c6.mono st.ff⟩
  · obtain ⟨b1, b2, b3⟩ := s.pin r hr
    have ne : r.1 ≠ p := fun z => np r.2 (by rw [← z]; exact hr)
    exact ⟨kp _ _ b1 ne, st.old _ _ b1 b2, b3⟩
theorem KVD.look {xs : List (Str × D)} {ys : List (Str × V)} (h : KVD K F xs ys) {f : Str} {d : D} (e : xs.lookup f = some d) : ∃ v, ys.lookup f = some v ∧ Is K F d v := by
  induction h with
  | nil => cases e
  | @cons a b xs ys q t ih =>
    obtain ⟨g, x⟩ := a
    obtain ⟨g', y⟩ := b
    have hg : g = g' := q.1
    subst hg
    rw [List.lookup_cons] at e ⊢
    cases z : f == g with
    | true => rw [z] at e; cases e; exact ⟨y, rfl, q.2⟩
    | false => rw [z] at e; exact ih e
def putFD (f : Str) (v : D) : List (Str × D) → List (Str × D)
  | [] => [(f, v)]
  | (g, x) :: r => if g = f then (g, v) :: r else (g, x) :: putFD f v r
theorem KVD.putF {xs : List (Str × D)} {ys : List (Str × V)} (h : KVD K F xs ys) {f : Str} {d : D} {v : V} (i : Is K F d v) : KVD K F (putFD f d xs) (L2.putF f v ys) := by
  induction h with
  | nil => exact .cons ⟨rfl, i⟩ .nil
  | @cons a b xs ys q t ih =>
    obtain ⟨g, x⟩ := a
    obtain ⟨g', y⟩ := b
    have hg : g = g' := q.1
    subst hg
    unfold putFD L2.putF
    by_cases z : g = f
    · rw [if_pos z, if_pos z]; exact .cons ⟨rfl, i⟩ t
    · rw [if_neg z, if_neg z]; exact .cons ⟨rfl, q.2⟩ ih
theorem zip_none {ns : List Str} {vs : List V} {m : Str} (h : m ∉ ns) : (ns.zip vs).lookup m = none := by
  induction ns generalizing vs with
  | nil => rfl
  | cons n ns ih =>
    cases vs with
    | nil => rfl
    | cons v vs =>
      rw [List.zip_cons_cons, List.lookup_cons]
      simp only [List.mem_cons, not_or] at h
      have : (m == n) = false := by rw [beq_eq_false_iff_ne]; exact h.1
      rw [this]
      exact ih h.2
end
section
variable {X : Cx} {Wx : WX} {C f x m y : Str} {fa : Addr} {fd : FuncData} {ps : List Str} {k i : Nat} {p pos py apos : Pos} {a ex o : Expr} {es : List Expr} {We Wo : WE} {Wargs : WA}
def wFld (C f : Str) (We : WE) : WE := fun EX ρ P => We EX ρ fun dv ρ1 => match dv with
  | .fz (.ins C' ns ds) => C' = C ∧ ∃ d, (ns.zip ds).lookup f = some d ∧ P (.fz d) ρ1
  | _ => False
theorem je_fld (T : Cls X.K (He.ga X.K C)) (no : NoAttr X.K (He.ga X.K C) f) (h : JE X Wx ex We) (hb : attributeBase ex f X.env (eval ex X.env) = eval ex X.env := by rfl) : JE X Wx (.Attribute ex f pos) (wFld C f We) := by
  refine PE.wk (pe_fld h hb) fun σ H Q h => ?_
  obtain ⟨e, ρ, F, EX, P, s, w0, hx, kk⟩ := h
  refine ⟨e, ρ, F, EX, _, s, w0, hx, fun F1 H1 v1 d1 ρ1 s1 m1 r1 q1 => ?_⟩
  split at q1
  · obtain ⟨rfl, d, hd, q⟩ := q1
    have i1 := r1.1
    simp only [Sl, Is] at i1
    obtain ⟨a, dx, vs, rfl, h1, h2, h3⟩ := i1
    obtain ⟨v, hv, iv⟩ := lookup_is h3 hd
    exact ⟨a, _, dx, _, v, rfl, s1.fh _ _ h1, T, no, hv, kk F1 H1 v _ ρ1 s1 m1 (Res.fz iv) q⟩
  · exact q1.elim
/-- a field of the own object of a slot -/
def wFldM (i : Nat) (C f : Str) : WE := fun _ ρ P => match ρ[i]? with
  | some (some (.mu _ (.ins C' fs))) => C' = C ∧ ∃ d, fs.lookup f = some d ∧ P (.fz d) ρ
  | _ => False
theorem je_fldM (T : Cls X.K (He.ga X.K C)) (no : NoAttr X.K (He.ga X.K C) f) (h : PE X (.Name y py) (tVar i)) (hb : attributeBase (.Name y py) f X.env (eval (.Name y py) X.env) = eval (.Name y py) X.env := by rfl) : JE X Wx (.Attribute (.Name y py) f pos) (wFldM i C f) := by
  refine PE.wk (pe_fld h hb) fun σ H Q h => ?_
  obtain ⟨e, ρ, F, EX, P, s, w0, hx, kk⟩ := h
  unfold wFldM at w0
  split at w0
  · rename_i b C' fs hi
    obtain ⟨rfl, d, hd, q⟩ := w0
    obtain ⟨v, hσ, q', o', rfl, b1, b2, b3, b4, b5, dx, vs, rfl, b6⟩ := s.sl i _ hi
    obtain ⟨v, hv, iv⟩ := b6.look hd
    exact ⟨_, hσ, q', _, dx, vs, v, rfl, b5, T, no, hv, kk F H v _ ρ s (Same.refl _) (Res.fz iv) q⟩
  · exact w0.elim
def wFldS (i : Nat) (C f : Str) (We : WE) : WS := fun E ρ => We E.ex ρ fun dv ρ1 => dv.thn fun d => match ρ1[i]? with
  | some (some (.mu b (.ins C' fs))) => C' = C ∧ fs.length < 1000 ∧ E.nx (ρ1.set i (some (.mu b (.ins C' (putFD f d fs)))))
  | _ => False
theorem js_fldS (T : Cls X.K (He.ga X.K C)) (no : NoAttr X.K (He.ga X.K C) f) (h : PE X (.Name y py) (tVar i)) (he : JE X Wx ex We) (hs : swapsWith ex (some (.Attribute (.Name y py) f p)) pos.line X.env = pure false := by rfl) :
    JS X Wx (.Assign [.Attribute (.Name y py) f p] ex pos) (wFldS i C f We) := PS.wk (ps_fld h he hs) fun D σ H h => by
  obtain ⟨e, ρ, F, E, s, w, r⟩ := h
  refine ⟨e, ρ, F, E.ex, _, s, w, r.ex, fun F1 H1 v1 d1 ρ1 s1 m1 r1 q1 => ?_⟩
  obtain ⟨F2, d, s2, m2, i2, q2⟩ := s1.data r1 q1
  split at q2
  · rename_i b C' fs hi
    obtain ⟨rfl, hl, q⟩ := q2
    obtain ⟨v, hσ, q', o', rfl, b1, b2, b3, b4, b5, dx, vs, rfl, b6⟩ := s2.sl i _ hi
    refine ⟨_, hσ, q', _, dx, vs, rfl, b5, T, no, by rw [← b6.len]; exact hl, ?_⟩
    exact r.nx _ F2 σ _ (s2.mut (c' := .ins C' (putFD f d fs)) hi hσ (o := .ins (He.ga X.K C') dx (L2.putF f v1 vs)) ⟨_, _, rfl, b6.putF i2⟩) q
  · exact q2.elim
def wMake (C : Str) (R : RB) (Wa : WA) : WE := fun EX ρ P => Wa EX ρ fun ds ρ1 => R (.ins C []) ds fun dv c => dv = .fz .non ∧ P (.mu true c) ρ1
theorem je_make {R : RB} (M : Mk X.K (He.ga X.K C) fa) (G : FnOk X.prog X.w X.K X.mg X.base CX0 k fa fd ps (spB X.K R)) (hr : Room (k + 1) X.A) (hg : Gl X C) (hm : X.mg C = some (.ref (He.ga X.K C))) (hb : Binds X.K fd ps [])
    (ha : JA X Wx (a :: es) Wargs) (hdb : (C == ("__debug__" : Str)) = false := by decide) (he : starEach (a :: es) X.env = (false, eval a X.env) :: starEach es X.env := by rfl) (hpl : (backTo pos (starEach es X.env)).any (·.1) = false := by rfl) :
    JE X Wx (.Call (.Name C p) (a :: es) [] pos) (wMake C R Wargs) := by
  refine PE.wk (pe_make M G hr hg hm hb .nil pass0 ha hdb he hpl) fun σ H Q h => ?_
  obtain ⟨e, ρ, F, EX, P, s, w0, hx, kk⟩ := h
  refine ⟨e, ρ, F, EX, _, s, w0, hx, fun F1 H1 vs ds ρ1 s1 m1 r1 q1 => ?_⟩
  intro xx dx nx ndx ne
  show spB X.K R (.ref xx :: (vs ++ [])) _ _ E0
  rw [List.append_nil]
  have s2 : Sg X.K e ρ1 F1 σ (upd H1 dx (.own xx)) := s1.laid ndx
  have nx2 : (upd H1 dx (.own xx)) xx = none := by rw [upd_ne (Ne.symm ne)]; exact nx
  obtain ⟨s3, r3⟩ := s2.alloc (o := .ins (He.ga X.K C) dx []) (c := .ins C []) nx2 ⟨dx, [], rfl, .nil⟩
  obtain ⟨hf, heH⟩ := s2.free nx2
  have np : ∀ u, (xx, u) ∉ e.pn := fun u hu => by have := (s2.pin _ hu).1; rw [nx2] at this; cases this
  refine ⟨F1, .ins C [], ds, _, xx, _, vs, rfl, s3.fh, hf, upd_same, ⟨dx, [], rfl, .nil⟩, r1, q1, fun F' H' v dv c' o' st sm h1 h2 h3 ho hp => ?_⟩
  obtain ⟨rfl, hp⟩ := hp
  have hv : v = .non := by simpa [Out, Is] using ho
  refine ⟨hv, ?_⟩
  have s4 := s3.laterX sm st (fun i dw hi hw => r3.2 rfl i dw hi hw) np heH
  exact kk F' H' (.ref xx) (.mu true c') ρ1 s4 (m1.trans st.ff) ⟨⟨xx, o', rfl, h1, fun _ => heH, (fun z => nomatch z), np, h2, h3⟩, fun _ i dw hi hw => r3.2 rfl i dw hi hw⟩ hp
/-- a method of a frozen instance -/
def wMeth (C m : Str) (R : RF) (Wo : WE) (Wa : WA) : WE := fun EX ρ P => Wo EX ρ fun dv ρ1 => match dv with
  | .fz (.ins C' ns ds) => C' = C ∧ m ∉ ns ∧ Wa EX ρ1 fun as ρ2 => R (.ins C' ns ds :: as) fun dv => P dv ρ2
  | _ => False
theorem meth_wk {R : RF} {t : TA} (hi : ∀ σ H (Q : List V → Hp → Prop), cA X.K Wx Wargs σ H Q → t σ H Q) (σ : St) (H : Hp) (Q : VK) (h : cE X.K Wx (wMeth C m R Wo Wargs) σ H Q) : tMeth (He.ga X.K C) m (spF X.K R) [] E0 (cE X.K Wx Wo) t σ H Q := by
  obtain ⟨e, ρ, F, EX, P, s, w0, hx, kk⟩ := h
  refine ⟨e, ρ, F, EX, _, s, w0, hx, fun F1 H1 v1 d1 ρ1 s1 m1 r1 q1 => ?_⟩
  split at q1
  · obtain ⟨rfl, nm, q⟩ := q1
    rename_i C' ns ds
    have i1 := r1.1
    have i1' : Is X.K F1 (.ins C' ns ds) v1 := i1
    simp only [Sl, Is] at i1
    obtain ⟨a, dx, vs, rfl, h1, h2, h3⟩ := i1
    refine ⟨a, dx, _, rfl, s1.fh _ _ h1, zip_none nm, hi _ _ _ ⟨e, ρ1, F1, EX, _, s1, q, hx, fun F2 H2 us as ρ2 s2 m2 r2 q2 => ?_⟩⟩
    show spF X.K R (V.ref a :: (us ++ [])) H2 Q E0
    rw [List.append_nil]
    exact ⟨F2, _ :: as, _, s2.fh, IsL.cons (Is.mono m2 _ i1') r2, q2, fun F' H' v dv st sm o p => kk F' H' v dv ρ2 (s2.later sm st) (m1.trans (m2.trans st.ff)) (Out.res s2 o) p⟩
  · exact q1.elim
theorem je_meth {R : RF} {pl : Sem Bool} (c : Cls X.K (He.ga X.K C)) (hm : Meth X.K (He.ga X.K C) m fa) (G : FnOk X.prog X.w X.K X.mg X.base CX0 k fa fd ps (spF X.K R)) (hr : Room k X.A) (hb : Binds X.K fd ps []) (ho : JE X Wx o Wo) (ha : JA X Wx (a :: es) Wargs)
    (hst : starEach (a :: es) X.env = (false, eval a X.env) :: starEach es X.env := by rfl) (hpl : (backTo pos (starEach es X.env)).any (·.1) = false := by rfl)
    (ht : eval (.Call (.Attribute o m apos) (a :: es) [] pos) X.env = (do
      let ov ← eval o X.env
      standAt apos.atName
      let (f, first) ← holding [ov] (getMethod ov m pl)
      callWith pos f first (backTo pos (starEach (a :: es) X.env)) (backToKw pos (keywordEach [] X.env))) := by rfl) :
    JE X Wx (.Call (.Attribute o m apos) (a :: es) [] pos) (wMeth C m R Wo Wargs) := PE.wk (pe_meth ho c hm G hr hb .nil pass0 ha hst hpl ht) (meth_wk fun _ _ _ h => h)
theorem je_meth0 {R : RF} {pl : Sem Bool} (c : Cls X.K (He.ga X.K C)) (hm : Meth X.K (He.ga X.K C) m fa) (G : FnOk X.prog X.w X.K X.mg X.base CX0 k fa fd ps (spF X.K R)) (hr : Room k X.A) (hb : Binds X.K fd ps []) (ho : JE X Wx o Wo)
    (ht : eval (.Call (.Attribute o m apos) [] [] pos) X.env = (do
      let ov ← eval o X.env
      standAt apos.atName
      let (f, first) ← holding [ov] (getMethod ov m pl)
      callWith pos f first (backTo pos (starEach [] X.env)) (backToKw pos (keywordEach [] X.env))) := by rfl) :
    JE X Wx (.Call (.Attribute o m apos) [] [] pos) (wMeth C m R Wo wNil) := PE.wk (pe_meth0 ho c hm G hr hb .nil pass0 ht) (meth_wk fun σ H Q h => by
      obtain ⟨e, ρ, F, EX, P, s, w0, hx, kk⟩ := h
      exact kk F H [] [] ρ s (Same.refl _) IsL.nil w0)
/-! ### isinstance, with instances of own classes -/
structure InsT (K : PySem.W.Frag) (C : Str) : Prop where
  cl : Cls K (He.ga K C)
  ha : PySem.W.findIn K (.ref (He.ga K C)) "__class__" = some (some (.builtin "object.__class__"))
  hn : PySem.W.specialIn K (.builtin "object.__class__") "__get__" = some (some (.builtin "getset_descriptor.__get__"))
  ht : PySem.W.takesIn K (.builtin "object.__class__") = some true
  hm : PySem.W.mroIn K (He.ga K C) (.type "object") = some true
  kt : ∀ t : Ty, PySem.W.kitOne K (.ref (He.ga K C)) (.type t.nm) = some false
def insB (K : PySem.W.Frag) (C : Str) : Bool := decide (PySem.W.findIn K (.ref (He.ga K C)) "__class__" = some (some (.builtin "object.__class__"))) && (decide (PySem.W.specialIn K (.builtin "object.__class__") "__get__" = some (some (.builtin "getset_descriptor.__get__"))) && (decide (PySem.W.takesIn K (.builtin "object.__class__") = some true) &&
  (decide (PySem.W.mroIn K (He.ga K C) (.type "object") = some true) && ([Ty.int, Ty.bool, Ty.tuple, Ty.list, Ty.str].all fun t => decide (PySem.W.kitOne K (.ref (He.ga K C)) (.type t.nm) = some false)))))
theorem insB_ok {K : PySem.W.Frag} {C : Str} (c : Cls K (He.ga K C)) (h : insB K C = true) : InsT K C := by
  obtain ⟨h1, h⟩ := He.ba h
  obtain ⟨h2, h⟩ := He.ba h
  obtain ⟨h3, h⟩ := He.ba h
  obtain ⟨h4, h5⟩ := He.ba h
  exact ⟨c, of_decide_eq_true h1, of_decide_eq_true h2, of_decide_eq_true h3, of_decide_eq_true h4, fun t => of_decide_eq_true (List.all_eq_true.mp h5 t (by cases t <;> simp))⟩
def plainX (oc : List Str) : D → Bool
  | .ins C _ _ => decide (C ∈ oc)
  | d => d.plain
def wIsiX (oc : List Str) (t : Ty) : List D → (DV → Prop) → Prop := fun ds P => match ds with
  | [d, .ty n] => n = t.nm ∧ plainX oc d = true ∧ P (.fz (.bl (d.isT t)))
  | _ => False
theorem cr_isiX {K : PySem.W.Frag} {oc : List Str} {t : Ty} (T : ∀ C, C ∈ oc → InsT K C) : CRl K (rIsi K) (wIsiX oc t) := by
  intro e ρ F σ H vs ds Q P s i w k
  unfold wIsiX at w
  split at w
  · rename_i d n
    obtain ⟨v, u, rfl, iv, iu⟩ := i.two_inv
    simp only [Is] at iu
    subst iu
    obtain ⟨rfl, w1, w2⟩ := w
    by_cases hi : ∃ C ns ds, d = .ins C ns ds
    · obtain ⟨C, ns, ds, rfl⟩ := hi
      have hC : C ∈ oc := of_decide_eq_true w1
      simp only [Is] at iv
      obtain ⟨a, dx, vs, rfl, h1, h2, h3⟩ := iv
      have T1 := T C hC
      exact ⟨_, _, _, _, _, rfl, .ty _, .base (.ins (s.fh _ _ h1) T1.cl T1.ha T1.hn T1.ht T1.hm), T1.kt t, k F H _ _ s (Same.refl _) (Res.fz (by simp [Is]; cases t <;> rfl)) w2⟩
    · have w1 : d.plain = true := by
        cases d <;> first | exact w1 | exact absurd ⟨_, _, _, rfl⟩ hi
      exact ⟨v, _, _, _, _, rfl, .ty _, tyX_of s.fh iv w1, kit_ty (kit_is t w1), k F H _ _ s (Same.refl _) (Res.fz (by simp [Is])) w2⟩
  · exact w.elim
end
/-! ## methods of lists, gcd -/
section
variable {X : Cx} {Wx : WX} {y x : Str} {i : Nat} {p pos py apos cpos : Pos} {a ex : Expr} {es : List Expr} {We : WE} {Wargs : WA}
def wRevS (i : Nat) : WS := fun E ρ => match ρ[i]? with
  | some (some (.mu b (.lst ds))) => E.nx (ρ.set i (some (.mu b (.lst ds.reverse))))
  | _ => False
theorem js_revS (h0 : PS X (.Expr (.Call (.Attribute (.Name y py) "reverse" apos) [] [] cpos) pos) (tDrop (tBM0 X.K "list" rReverse (tVar i)))) : JS X Wx (.Expr (.Call (.Attribute (.Name y py) "reverse" apos) [] [] cpos) pos) (wRevS i) := PS.wk h0 fun D σ H h => by
  obtain ⟨e, ρ, F, E, s, w, r⟩ := h
  unfold wRevS at w
  split at w
  · rename_i b ds hi
    obtain ⟨v, hσ, q', o', rfl, b1, b2, b3, b4, b5, vs, rfl, b6⟩ := s.sl i _ hi
    exact ⟨_, hσ, .inl ⟨rfl, vs, SqL.of b5⟩, q', vs, rfl, rfl, b5, r.nx _ F σ _ (s.mut (c' := .lst ds.reverse) hi hσ (o := .lst vs.reverse) ⟨_, rfl, b6.reverse⟩) w⟩
  · exact w.elim
def wExt (i : Nat) (We : WE) : WS := fun E ρ => isMu ρ i ∧ We E.ex ρ fun dv ρ1 => dv.thn fun d => match d with
  | .lst es => (match ρ1[i]? with
    | some (some (.mu b (.lst ds))) => ds.length + es.length ≤ sizeLine ∧ E.nx (ρ1.set i (some (.mu b (.lst (ds ++ es)))))
    | _ => False)
  | _ => False
def isMuL (ρ : DEnv) (i : Nat) : Prop := match ρ[i]? with
  | some (some (.mu _ (.lst _))) => True
  | _ => False
def wExtL (i : Nat) (We : WE) : WS := fun E ρ => isMuL ρ i ∧ We E.ex ρ fun dv ρ1 => dv.thn fun d => match d with
  | .lst es => (match ρ1[i]? with
    | some (some (.mu b (.lst ds))) => ds.length + es.length ≤ sizeLine ∧ E.nx (ρ1.set i (some (.mu b (.lst (ds ++ es)))))
    | _ => False)
  | _ => False
theorem js_extL (h0 : PS X (.Expr (.Call (.Attribute (.Name y py) "extend" apos) [ex] [] cpos) pos) (tDrop (tBM X.K "list" rExtend (tVar i) (tCons (cE X.K Wx We) tNil)))) : JS X Wx (.Expr (.Call (.Attribute (.Name y py) "extend" apos) [ex] [] cpos) pos) (wExtL i We) := PS.wk h0 fun D σ H h => by
  obtain ⟨e, ρ, F, E, s, ⟨hm, w⟩, r⟩ := h
  unfold isMuL at hm
  split at hm
  · rename_i b c hb
    obtain ⟨v, hσ, q, o, rfl, a1, a2, a3, a4, a5, vs, rfl, a6⟩ := s.sl i _ hb
    refine ⟨_, hσ, .inl ⟨rfl, vs, SqL.of a5⟩, e, ρ, F, E.ex, _, s, w, r.ex, fun F1 H1 v1 d1 ρ1 s1 m1 r1 q1 => ?_⟩
    obtain ⟨F2, d, s2, m2, i2, q2⟩ := s1.data r1 q1
    split at q2
    · simp only [Is] at i2
      obtain ⟨pb, zs, rfl, hz, iz⟩ := i2
      split at q2
      · rename_i b' ds hb'
        obtain ⟨v', hσ', q', o', e', b1, b2, b3, b4, b5, vs', rfl, b6⟩ := s2.sl i _ hb'
        rw [hσ] at hσ'
        cases hσ'
        cases e'
        refine ⟨q, pb, vs', zs, rfl, rfl, b5, s2.fh _ _ hz, by rw [← b6.len, ← iz.len]; exact q2.1, ?_⟩
        exact r.nx _ F2 σ _ (s2.mut (c' := .lst _) hb' hσ (o := .lst (vs' ++ zs)) ⟨_, rfl, b6.append iz⟩) q2.2
      · exact q2.elim
    · exact q2.elim
  · exact hm.elim
/-- x.pop(e), x the own list of a slot -/
def wPopAt (i : Nat) (We : WE) : WE := fun EX ρ P => isMuL ρ i ∧ We EX ρ fun dv ρ1 => match dv with
  | .fz (.int k) => (match ρ1[i]? with
    | some (some (.mu b (.lst ds))) => -(2 ^ 63) ≤ k ∧ k < 2 ^ 63 ∧ ∃ j d, seqIndex? k ds.length = some j ∧ ds[j]? = some d ∧ P (.fz d) (ρ1.set i (some (.mu b (.lst (ds.eraseIdx j)))))
    | _ => False)
  | _ => False
theorem IsL.erase {K : PySem.W.Frag} {F : Hp} : ∀ {ds : List D} {vs : List V} (j : Nat), IsL K F ds vs → IsL K F (ds.eraseIdx j) (vs.eraseIdx j)
  | [], _, _, q => by simp only [IsL] at q; subst q; simp [IsL]
  | c :: ds, _, 0, q => by
    simp only [IsL] at q
    obtain ⟨w, r, rfl, a, b⟩ := q
    exact b
  | c :: ds, _, j + 1, q => by
    simp only [IsL] at q
    obtain ⟨w, r, rfl, a, b⟩ := q
    exact IsL.cons a (IsL.erase j b)
theorem je_popAt (h0 : PE X (.Call (.Attribute (.Name y py) "pop" apos) [ex] [] cpos) (tBM X.K "list" rPopAt (tVar i) (tCons (cE X.K Wx We) tNil))) : JE X Wx (.Call (.Attribute (.Name y py) "pop" apos) [ex] [] cpos) (wPopAt i We) := by
  refine PE.wk h0 fun σ H Q h => ?_
  obtain ⟨e, ρ, F, EX, P, s, ⟨hm, w⟩, hx, kk⟩ := h
  unfold isMuL at hm
  split at hm
  · rename_i b c hb
    obtain ⟨v, hσ, q, o, rfl, a1, a2, a3, a4, a5, vs, rfl, a6⟩ := s.sl i _ hb
    refine ⟨_, hσ, .inl ⟨rfl, vs, SqL.of a5⟩, e, ρ, F, EX, _, s, w, hx, fun F1 H1 v1 d1 ρ1 s1 m1 r1 q1 => ?_⟩
    split at q1
    · rename_i k
      have hk : v1 = .int k := by simpa [Res, Sl, Is] using r1.1
      split at q1
      · rename_i b' ds hb'
        obtain ⟨v', hσ', q', o', e', b1, b2, b3, b4, b5, vs', rfl, b6⟩ := s1.sl i _ hb'
        rw [hσ] at hσ'
        cases hσ'
        cases e'
        obtain ⟨k1, k2, j, d, hj, hd, hq⟩ := q1
        obtain ⟨w, hw, iw⟩ := b6.get hd
        refine ⟨q, vs', k, j, w, rfl, by rw [hk], b5, k1, k2, by rw [← b6.len]; exact hj, hw, ?_⟩
        exact kk F1 _ w _ _ (s1.mut (c' := .lst _) hb' hσ (o := .lst (vs'.eraseIdx j)) ⟨_, rfl, b6.erase j⟩) m1 (Res.fz iw) hq
      · exact q1.elim
    · exact q1.elim
  · exact hm.elim
/-- o.index(e), o a list of ints -/
def wLIx (Wo We : WE) : WE := fun EX ρ P => Wo EX ρ fun ov ρ1 => ov.thn fun od => match od with
  | .lst ds => We EX ρ1 fun dv ρ2 => (match dv with
    | .fz (.int z) => ∃ (ns : List Int) (j : Nat), intsD ds = some ns ∧ ns[j]? = some z ∧ (∀ m, m < j → ns[m]? ≠ some z) ∧ P (.fz (.int (j : Nat))) ρ2
    | _ => False)
  | _ => False
theorem je_lix {o : Expr} {Wo : WE} (h0 : PE X (.Call (.Attribute o "index" apos) [ex] [] cpos) (tBM X.K "list" (rIndex X.K) (cE X.K Wx Wo) (tCons (cE X.K Wx We) tNil))) : JE X Wx (.Call (.Attribute o "index" apos) [ex] [] cpos) (wLIx Wo We) := by
  refine PE.wk h0 fun σ H Q h => ?_
  obtain ⟨e, ρ, F, EX, P, s, w0, hx, kk⟩ := h
  refine ⟨e, ρ, F, EX, _, s, w0, hx, fun F1 H1 v1 d1 ρ1 s1 m1 r1 q1 => ?_⟩
  obtain ⟨F2, d, s2, m2, i2, q2⟩ := s1.data r1 q1
  split at q2
  · rename_i ds
    simp only [Is] at i2
    obtain ⟨a, vs, rfl, hF, iv⟩ := i2
    refine ⟨.inl ⟨rfl, vs, SqL.of (s2.fh _ _ hF)⟩, e, ρ1, F2, EX, _, s2, q2, hx, fun F3 H3 v3 d3 ρ3 s3 m3 r3 q3 => ?_⟩
    split at q3
    · rename_i z
      have hz : v3 = .int z := by simpa [Res, Sl, Is] using r3.1
      obtain ⟨ns, j, hn, hj, hno, q⟩ := q3
      rw [ints_of hn] at iv
      have ev := IsL.ints.mp iv
      subst ev hz
      refine ⟨a, ns.map V.int, .int z, j, .int z, rfl, rfl, SqL.of (s3.fh _ _ (m3 _ _ hF)), rfl, ?_, ?_, ?_, fun m z' hm hz' => ?_, kk F3 H3 _ _ ρ3 s3 (m1.trans (m2.trans m3)) (Res.fz (by simp [Is])) q⟩
      · rw [List.all_map]; exact List.all_eq_true.mpr fun _ _ => rfl
      · rw [List.getElem?_map, hj]; rfl
      · show (z == z) = true
        exact beq_self_eq_true z
      · rw [List.getElem?_map] at hz'
        obtain ⟨n, hn1, rfl⟩ := Option.map_eq_some_iff.mp hz'
        show (n == z) = false
        rw [beq_eq_false_iff_ne]
        intro ee
        exact hno m hm (by rw [hn1, ee])
    · exact q3.elim
  · exact q2.elim
/-- f(e, ..), f a module's name for a built-in function -/
theorem je_callBf {id : String} {r : List V → Hp → VK → Prop} {w : List D → (DV → Prop) → Prop} (hc : CallR X (.builtin id) r) (hr : CRl X.K r w) (hg : Gl X x) (hm : X.mg x = some (.builtin id)) (ha : JA X Wx (a :: es) Wargs) (hdb : (x == ("__debug__" : Str)) = false := by decide)
    (he : starEach (a :: es) X.env = (false, eval a X.env) :: starEach es X.env := by rfl) (hpl : (backTo pos (starEach es X.env)).any (·.1) = false := by rfl) : JE X Wx (.Call (.Name x p) (a :: es) [] pos) (wCB w Wargs) := PE.wk (pe_callBfun hc hg hm ha hdb he hpl) (cE_cb hr)
def wGcd : List D → (DV → Prop) → Prop := fun ds P => match ds with
  | [.int i, .int j] => P (.fz (.int ((Nat.gcd i.natAbs j.natAbs : Nat) : Int)))
  | _ => False
theorem cr_gcdD {K : PySem.W.Frag} : CRl K rGcd wGcd := two_ints fun i j _ _ q => ⟨i, j, rfl, q⟩
/-- is, is not of truth values -/
def wIsB (neg : Bool) : D → D → (DV → Prop) → Prop := fun a b P => match a, b with
  | .bl i, .bl j => P (.fz (.bl (if neg then !decide (i = j) else decide (i = j))))
  | _, _ => False
theorem br_isB {K : PySem.W.Frag} : BR K rIsB (wIsB false) := by
  intro e ρ F σ H x y a b Q P s ia ib w k
  unfold wIsB at w
  split at w
  · simp only [Is] at ia ib
    subst ia ib
    exact ⟨_, _, rfl, rfl, k F H _ _ s (Same.refl _) (Res.fz (by simp [Is])) w⟩
  · exact w.elim
theorem br_notB {K : PySem.W.Frag} : BR K rNotB (wIsB true) := by
  intro e ρ F σ H x y a b Q P s ia ib w k
  unfold wIsB at w
  split at w
  · simp only [Is] at ia ib
    subst ia ib
    exact ⟨_, _, rfl, rfl, k F H _ _ s (Same.refl _) (Res.fz (by simp [Is])) w⟩
  · exact w.elim
/-- xs[::-1] -/
def wRevL (We : WE) : WE := fun EX ρ P => We EX ρ fun dv ρ1 => dv.thn fun d => match d with
  | .lst ds => P (.mu true (.lst ds.reverse)) ρ1
  | _ => False
theorem je_revL {k : Nat} {p1 p2 p3 : Pos} (h : JE X Wx ex We) : JE X Wx (.Subscript ex (.Slice none none (some (.UnaryOp .USub (.Constant (.int 1) k p1) p2)) p3) pos) (wRevL We) := by
  refine PE.wk (pe_revL h) fun σ H Q h => ?_
  obtain ⟨e, ρ, F, EX, P, s, w0, hx, kk⟩ := h
  refine ⟨e, ρ, F, EX, _, s, w0, hx, fun F1 H1 v1 d1 ρ1 s1 m1 r1 q1 => ?_⟩
  obtain ⟨F2, d, s2, m2, i2, q2⟩ := s1.data r1 q1
  split at q2
  · simp only [Is] at i2
    obtain ⟨a, vs, rfl, hF, iv⟩ := i2
    refine ⟨a, vs, rfl, SqL.of (s2.fh _ _ hF), fun pp hp => ?_⟩
    obtain ⟨s4, r4⟩ := s2.alloc (o := .lst _) (c := .lst _) hp ⟨_, rfl, iv.reverse⟩
    exact kk _ _ _ _ ρ1 s4 (m1.trans m2) r4 q2
  · exact q2.elim
/-- enumerate, zip over tuples -/
def wEnumT (Wa : WA) : WI := fun EX ρ P => Wa EX ρ fun ds ρ1 => match ds with
  | [.tup l] => P (enumD l) ρ1
  | _ => False
theorem walk_enT {K : PySem.W.Frag} {a : Addr} {xs : List V} : Walk (En.ItT K a) xs.length (fun H => SqT K H a xs) (YPair (fun i => some (.int (i : Nat))) (fun i => xs[i]?)) := by
  refine ⟨fun i _ hi q => ⟨xs, xs[i], q, by simp [hi]⟩, fun _ q => ⟨xs, q, Nat.le_refl _⟩, fun i H v H' _ q y => ?_⟩
  obtain ⟨T, x, h1, h2, h3, h4⟩ := y
  exact ⟨T, .int (i : Nat), x, h1, h2, h3, rfl, h4 xs q⟩
theorem ji_enumT {b : Expr} {elts : List Expr} {kk : Nat} {tpos : Pos} (hg : Gl X "enumerate") (hm : X.mg "enumerate" = none) (ha : JA X Wx [b] Wargs) (hs : starEach [b] X.env = [(false, eval b X.env)] := by rfl) :
    JI X Wx (.Tuple elts kk tpos) (.Call (.Name "enumerate" p) [b] [] pos) (wEnumT Wargs) := by
  refine PI.wk (En.pi_enT hg hm ha hs) fun σ H R h => ?_
  obtain ⟨e, ρ, F, EX, P, s, w0, hx, k⟩ := h
  refine ⟨e, ρ, F, EX, _, s, w0, hx, fun F1 H1 vs ds ρ1 s1 m1 r1 q1 => ?_⟩
  split at q1
  · obtain ⟨v, rfl, iv⟩ := r1.one_inv
    simp only [Is] at iv
    obtain ⟨a, us, rfl, h1, h2⟩ := iv
    refine ⟨a, us, rfl, Same.seqT s1.fh h1, k F1 H1 _ ρ1 _ _ _ _ s1 m1 q1 (walk_enT (xs := us)) (by rw [enumD_len, h2.len]) ⟨fun e' ρ' F2 σ' H' s' m' _ => Same.seqT s'.fh (Same.seqT m' h1), fun i H x H' hi _ y => ?_⟩⟩
    obtain ⟨T, y1, y2, rfl, hT, rfl, e1, e2⟩ := y
    cases e1
    obtain ⟨d, h3, h4⟩ := h2.get' e2
    refine .inr ⟨T, _, [.int (i : Nat), d], rfl, hT, rfl, ?_, ?_⟩
    · rw [List.getElem?_eq_getElem hi, enumD_get]
      have := (List.getElem?_eq_some_iff.mp h3).2
      rw [this]
    · exact .cons (by simp [Is]) (.one h4)
  · exact q1.elim
def wZipT (Wa : WA) : WI := fun EX ρ P => Wa EX ρ fun ds ρ1 => match ds with
  | [.tup l, .tup m] => P (zipD l m) ρ1
  | _ => False
theorem walk_zipT {K : PySem.W.Frag} {a b : Addr} {xs ys : List V} {n : Nat} (hn : n = min xs.length ys.length) : Walk (RZ.ItzT K a b) n (fun H => SqT K H a xs ∧ SqT K H b ys) (YPair (fun i => xs[i]?) (fun i => ys[i]?)) := by
  subst hn
  refine ⟨fun i _ hi q => ?_, fun _ q => ⟨xs, ys, q.1, q.2, by omega⟩, fun i H v H' _ q y => ?_⟩
  · have h1 : i < xs.length := by omega
    have h2 : i < ys.length := by omega
    exact ⟨xs, ys, xs[i], ys[i], q.1, q.2, by simp [h1], by simp [h2]⟩
  · obtain ⟨T, x, z, h1, h2, h3, h4, h5⟩ := y
    exact ⟨T, x, z, h1, h2, h3, h4 xs q.1, h5 ys q.2⟩
theorem ji_zipT {c b : Expr} {elts : List Expr} {kk : Nat} {tpos : Pos} (hg : Gl X "zip") (hm : X.mg "zip" = none) (ha : JA X Wx [c, b] Wargs) (hs : starEach [c, b] X.env = (false, eval c X.env) :: starEach [b] X.env := by rfl) (hpl : (backTo pos (starEach [b] X.env)).any (·.1) = false := by rfl) :
    JI X Wx (.Tuple elts kk tpos) (.Call (.Name "zip" p) [c, b] [] pos) (wZipT Wargs) := by
  refine PI.wk (RZ.pi_zipA hg hm ha hs hpl) fun σ H R h => ?_
  obtain ⟨e, ρ, F, EX, P, s, w0, hx, k⟩ := h
  refine ⟨e, ρ, F, EX, _, s, w0, hx, fun F1 H1 vs ds ρ1 s1 m1 r1 q1 => ?_⟩
  split at q1
  · obtain ⟨v, u, rfl, iv, iu⟩ := r1.two_inv
    simp only [Is] at iv iu
    obtain ⟨a, us, rfl, h1, h2⟩ := iv
    obtain ⟨b, ws, rfl, h3, h4⟩ := iu
    refine ⟨a, b, us, ws, rfl, .inr ⟨Same.seqT s1.fh h1, Same.seqT s1.fh h3, k F1 H1 _ ρ1 _ _ _ _ s1 m1 q1 (walk_zipT (xs := us) (ys := ws) rfl) (by rw [zipD_len, h2.len, h4.len]) ⟨fun e' ρ' F2 σ' H' s' m' _ => ⟨Same.seqT s'.fh (Same.seqT m' h1), Same.seqT s'.fh (Same.seqT m' h3)⟩, fun i H x H' hi _ y => ?_⟩⟩⟩
    obtain ⟨T, y1, y2, rfl, hT, rfl, e1, e2⟩ := y
    obtain ⟨d, h5, h6⟩ := h2.get' e1
    obtain ⟨c, h7, h8⟩ := h4.get' e2
    refine .inr ⟨T, _, [d, c], rfl, hT, rfl, ?_, ?_⟩
    · rw [List.getElem?_eq_getElem hi, zipD_get]
      rw [(List.getElem?_eq_some_iff.mp h5).2, (List.getElem?_eq_some_iff.mp h7).2]
    · exact .cons h6 (.one h8)
  · exact q1.elim
end
end L2.DL

/-! # DLv.lean -/
set_option Elab.async false
set_option linter.all false
set_option maxRecDepth 100000
namespace L2.DL
open PySem PySem.Spec PyProof.Rows
/-! ## for the proofs: loops over mapped lists, items, slices, bits -/
theorem line : sizeLine = 16777216 := sizeLine_eq
section
variable {α σ : Type} {l : List α} {c : α → D} {g : WG} {Wt : WT} {We : WE} {W : WS} {E : DEnds} {vs : List Nat} {ρ ρw : DEnv} {P : DV → DEnv → Prop}
/-- a comprehension over a mapped list -/
theorem LcP.mapL (f : α → D) (hz : l.length ≤ sizeLine) (hw : Wk (wipeD ρ vs) ρw) (hs : ∀ a, a ∈ l → ∀ T : D → DEnv → Prop, (∀ ρ4, Wk (wipeD ρ4 vs) ρw → T (f a) ρ4) → g (c a) ρw fun ρ2 => We NX ρ2 fun y ρ4 => y.thn fun d => T d ρ4)
    (he : P (.mu true (.lst (l.map f))) (backD ρ ρw vs)) : LcP (l.map c) g wYes We vs ρ P := by
  refine ⟨fun i acc ρ' => acc = (l.take i).map f ∧ ρ' = ρw, ⟨ρw, hw, by simp, rfl⟩, fun i acc ρ' hi h => ?_, fun acc ρ' h => ?_⟩
  · obtain ⟨h1, rfl⟩ := h
    have hi' : i < l.length := by simpa using hi
    rw [List.getElem_map]
    refine hs _ (List.getElem_mem hi') (fun d ρ4 => acc.length < sizeLine ∧ ∃ ρ5, Wk (wipeD ρ4 vs) ρ5 ∧ acc ++ [d] = (l.take (i + 1)).map f ∧ ρ5 = ρ') fun ρ4 e2 => ?_
    refine ⟨by subst h1; simp; omega, ρ', e2, ?_, rfl⟩
    rw [h1, List.take_succ_eq_append_getElem hi', List.map_append]; rfl
  · obtain ⟨rfl, rfl⟩ := h
    have : l.take (l.map c).length = l := by simp
    rw [this]
    exact he
/-- .. with a test -/
theorem LcP.filtL (q : α → Bool) (f : α → D) (hz : l.length ≤ sizeLine) (hw : Wk (wipeD ρ vs) ρw)
    (hs : ∀ a, a ∈ l → ∀ (T : D → DEnv → Prop) (S : DEnv → Prop), (q a = true → ∀ ρ4, Wk (wipeD ρ4 vs) ρw → T (f a) ρ4) → (q a = false → ∀ ρ4, Wk (wipeD ρ4 vs) ρw → S ρ4) →
      g (c a) ρw fun ρ2 => Wt NX ρ2 fun b ρ3 => ift b (We NX ρ3 fun y ρ4 => y.thn fun d => T d ρ4) (S ρ3))
    (he : P (.mu true (.lst ((l.filter q).map f))) (backD ρ ρw vs)) : LcP (l.map c) g Wt We vs ρ P := by
  refine ⟨fun i acc ρ' => acc = ((l.take i).filter q).map f ∧ ρ' = ρw, ⟨ρw, hw, by simp, rfl⟩, fun i acc ρ' hi h => ?_, fun acc ρ' h => ?_⟩
  · obtain ⟨h1, rfl⟩ := h
    have hi' : i < l.length := by simpa using hi
    rw [List.getElem_map]
    refine hs _ (List.getElem_mem hi') (fun d ρ4 => acc.length < sizeLine ∧ ∃ ρ5, Wk (wipeD ρ4 vs) ρ5 ∧ acc ++ [d] = ((l.take (i + 1)).filter q).map f ∧ ρ5 = ρ') (fun ρ4 => ∃ ρ5, Wk (wipeD ρ4 vs) ρ5 ∧ acc = ((l.take (i + 1)).filter q).map f ∧ ρ5 = ρ') (fun hq ρ4 e2 => ?_) fun hq ρ4 e2 => ?_
    · refine ⟨?_, ρ', e2, ?_, rfl⟩
      · subst h1
        rw [List.length_map]
        have := List.length_filter_le q (l.take i)
        rw [List.length_take] at this
        omega
      · rw [h1, List.take_succ_eq_append_getElem hi', List.filter_append, List.map_append]; simp [hq]
    · refine ⟨ρ', e2, ?_, rfl⟩
      rw [h1, List.take_succ_eq_append_getElem hi', List.filter_append, List.map_append]; simp [hq]
  · obtain ⟨rfl, rfl⟩ := h
    have : l.take (l.map c).length = l := by simp
    rw [this]
    exact he
/-- a loop over a mapped list, by what holds of the part taken and the state -/
theorem ForP.inv (J : List α → σ → Prop) (env : σ → DEnv) (s0 : σ) (hw : Wk ρ (env s0)) (h0 : J [] s0)
    (hs : ∀ pre a post s, l = pre ++ a :: post → J pre s → ∀ N : DEnv → Prop, (∀ s' ρ3, J (pre ++ [a]) s' → Wk ρ3 (env s') → N ρ3) → g (c a) (env s) fun ρ2 => W { E with nx := N, ct := N, bk := E.nx } ρ2)
    (he : ∀ s, J l s → E.nx (env s)) : ForP (l.map c) g W E ρ := by
  refine ⟨fun i ρ' => ∃ s, J (l.take i) s ∧ ρ' = env s, ⟨env s0, hw, s0, by simpa using h0, rfl⟩, fun i ρ' hi h => ?_, fun ρ' h => ?_⟩
  · obtain ⟨s, hj, rfl⟩ := h
    have hi' : i < l.length := by simpa using hi
    rw [List.getElem_map]
    refine hs (l.take i) l[i] (l.drop (i + 1)) s ?_ hj (fun ρ3 => ∃ ρ4, Wk ρ3 ρ4 ∧ ∃ s, J (l.take (i + 1)) s ∧ ρ4 = env s) fun s' ρ3 hj' hw' => ?_
    · conv => lhs; rw [← List.take_append_drop i l]
      rw [List.drop_eq_getElem_cons hi']
    · exact ⟨env s', hw', s', by rw [List.take_succ_eq_append_getElem hi']; exact hj', rfl⟩
  · obtain ⟨s, hj, rfl⟩ := h
    have : l.take (l.map c).length = l := by simp
    rw [this] at hj
    exact he s hj
/-- .. the state a fold -/
theorem ForP.fold (env : σ → DEnv) (st : σ → α → σ) (s0 : σ) (hw : Wk ρ (env s0))
    (hs : ∀ pre a post, l = pre ++ a :: post → ∀ N : DEnv → Prop, (∀ ρ3, Wk ρ3 (env (st (pre.foldl st s0) a)) → N ρ3) → g (c a) (env (pre.foldl st s0)) fun ρ2 => W { E with nx := N, ct := N, bk := E.nx } ρ2)
    (he : E.nx (env (l.foldl st s0))) : ForP (l.map c) g W E ρ := by
  refine ForP.inv (fun pre s => s = pre.foldl st s0) env s0 hw rfl (fun pre a post s e hj N hN => ?_) fun s hj => by rw [hj]; exact he
  rw [hj]
  exact hs pre a post e N fun ρ3 h3 => hN _ ρ3 (by simp) h3
theorem rng_map (lo : Int) (n : Nat) : rngD lo 1 n = (List.range n).map fun i : Nat => D.int (lo + (i : Int) * 1) := rfl
theorem rng0 (n : Nat) : rngD 0 1 n = (List.range n).map fun i : Nat => D.int i := by
  rw [rng_map]; apply List.map_congr_left; intro i _; simp
theorem enum_map (f : α → D) (l : List α) : enumD (l.map f) = l.zipIdx.map fun x => .tup [.int (x.2 : Nat), f x.1] := by
  unfold enumD
  rw [List.zipIdx_map, List.map_map]; rfl
theorem zip_map {β : Type} (f : α → D) (h : β → D) (l : List α) (m : List β) : zipD (l.map f) (m.map h) = (l.zip m).map fun x => .tup [f x.1, h x.2] := by
  unfold zipD
  rw [List.zip_map, List.map_map]; rfl
theorem mem_zipIdx' {l : List α} {x : α × Nat} (h : x ∈ l.zipIdx) : ∃ (hi : x.2 < l.length), x.1 = l[x.2] := by
  obtain ⟨_, h2, h3⟩ := List.mem_zipIdx h
  simp only [Nat.zero_add, Nat.sub_zero] at h2 h3
  exact ⟨h2, h3⟩
/-- items -/
theorem atM {i : Int} (h0 : 0 ≤ i) (h1 : i < l.length) : atI (l.map c) i = some (c (l[i.toNat]'(by omega))) := by
  have hn : i.toNat < l.length := by omega
  have := atI_nat (xs := l.map c) (j := i.toNat) (v := c l[i.toNat]) (by simp [hn])
  rwa [Int.toNat_of_nonneg h0] at this
theorem atN {i : Nat} (h1 : i < l.length) : atI (l.map c) (i : Int) = some (c l[i]) := by
  have := atM (l := l) (c := c) (i := (i : Int)) (by omega) (by omega)
  simpa using this
end
theorem getD_at {α : Type} {l : List α} {d : α} {i : Nat} (h : i < l.length) : l.getD i d = l[i] := by
  rw [List.getD_eq_getElem?_getD, List.getElem?_eq_getElem h]; rfl
theorem atG {xs : List Int} {i : Int} (h0 : 0 ≤ i) (h1 : i < xs.length) : atI (xs.map D.int) i = some (.int (xs.getD i.toNat 0)) := by
  rw [atM h0 h1, getD_at (by omega)]
theorem ixN_at {n : Nat} {i : Int} (h0 : 0 ≤ i) (h1 : i < n) : ixN n i = some i.toNat := by
  unfold ixN; rw [if_pos h0, if_pos h1]
theorem setG {cs : List Int} {j : Nat} {v : Int} : (cs.map D.int).set j (.int v) = (cs.set j v).map D.int := by rw [List.map_set]
/-- slices -/
theorem cut_ab (xs : List D) (a b : Nat) : cutD xs (some (a : Int)) (some (b : Int)) = (xs.take b).drop a := by
  unfold cutD
  rw [HT.sIx_nat, HT.sIx_nat, List.drop_take]
  by_cases h : a ≤ xs.length
  · rw [Nat.min_eq_left h]
    by_cases hb : b ≤ xs.length
    · rw [Nat.min_eq_left hb]
    · rw [Nat.min_eq_right (by omega), List.take_of_length_le (by simp), List.take_of_length_le (by simp; omega)]
  · have h1 : xs.drop a = [] := List.drop_eq_nil_of_le (by omega)
    have h2 : xs.drop (min a xs.length) = [] := List.drop_eq_nil_of_le (by omega)
    rw [h1, h2]; simp
theorem cut_b (xs : List D) (b : Nat) : cutD xs none (some (b : Int)) = xs.take b := by
  unfold cutD
  rw [HT.sIx_none, HT.sIx_nat, List.drop_zero, Nat.sub_zero]
  by_cases hb : b ≤ xs.length
  · rw [Nat.min_eq_left hb]
  · rw [Nat.min_eq_right (by omega), List.take_of_length_le (Nat.le_refl _), List.take_of_length_le (by omega)]
theorem cut_a (xs : List D) (a : Nat) : cutD xs (some (a : Int)) none = xs.drop a := by
  unfold cutD
  rw [HT.sIx_nat, HT.sIx_none]
  by_cases h : a ≤ xs.length
  · rw [Nat.min_eq_left h, List.take_of_length_le (by simp)]
  · have h1 : xs.drop a = [] := List.drop_eq_nil_of_le (by omega)
    have h2 : xs.drop (min a xs.length) = [] := List.drop_eq_nil_of_le (by omega)
    rw [h1, h2]; simp
theorem cut_m1 (xs : List D) : cutD xs none (some (-1)) = xs.dropLast := by
  unfold cutD
  rw [HT.sIx_none]
  have : HT.sIx xs.length xs.length (some (-1)) = xs.length - 1 := by
    show (if (-1 : Int) < 0 then ((-1 : Int) + (xs.length : Int)).toNat else min (-1 : Int).toNat xs.length) = _
    rw [if_pos (by decide)]; omega
  rw [this, List.dropLast_eq_take]; simp
theorem toI {z : Int} (h : 0 ≤ z) : ∃ n : Nat, z = n := ⟨z.toNat, (Int.toNat_of_nonneg h).symm⟩
/-- bits -/
theorem xorN (a b : Nat) : Builtin.bitXor (a : Int) (b : Int) = ((a ^^^ b : Nat) : Int) := by
  rw [_root_.Bits.bitXor_pp (by omega) (by omega)]; simp
theorem orN (a b : Nat) : Builtin.bitOr (a : Int) (b : Int) = ((a ||| b : Nat) : Int) := by
  rw [_root_.Bits.bitOr_pp (by omega) (by omega)]; simp
theorem cmulR {i j : Int} (h1 : -(2 ^ 64) < j) (h2 : j < 2 ^ 64) : CMul i j := .inr ⟨h1, h2⟩
theorem cmulL {i j : Int} (h1 : -(2 ^ 64) < i) (h2 : i < 2 ^ 64) : CMul i j := .inl ⟨h1, h2⟩
/-- a sum, a count -/
theorem bls_of_map {α : Type} (l : List α) (f : α → Bool) : bls (l.map fun a => D.bl (f a)) = some (l.map f) := by
  rw [← bls_map, List.map_map]; rfl
theorem ints_of_map {α : Type} (l : List α) (f : α → Int) : intsD (l.map fun a => D.int (f a)) = some (l.map f) := by
  rw [← ints_map, List.map_map]; rfl
theorem map_int {α : Type} (l : List α) (f : α → Int) : (l.map fun a => D.int (f a)) = (l.map f).map D.int := by rw [List.map_map]; rfl
theorem mem_post {α : Type} {l pre post : List α} {a : α} (e : l = pre ++ a :: post) : a ∈ l := by rw [e]; exact List.mem_append_right _ List.mem_cons_self
theorem pre_lt {α : Type} {l pre post : List α} {a : α} (e : l = pre ++ a :: post) : pre.length < l.length := by rw [e, List.length_append, List.length_cons]; omega
theorem pre_at {α : Type} {l pre post : List α} {a : α} (e : l = pre ++ a :: post) : l[pre.length]? = some a := by rw [e]; simp
theorem rng_pre {n : Nat} {pre post : List Nat} {a : Nat} (e : List.range n = pre ++ a :: post) : a = pre.length ∧ pre = List.range a ∧ a < n := by
  have h1 := pre_lt e
  rw [List.length_range] at h1
  have h2 := pre_at e
  rw [List.getElem?_range h1] at h2
  have ha : a = pre.length := (Option.some.inj h2).symm
  refine ⟨ha, ?_, by omega⟩
  have h3 : pre = (List.range n).take pre.length := by rw [e]; simp
  rw [h3, List.take_range, ha]
  have : min pre.length n = pre.length := Nat.min_eq_left (by omega)
  rw [this]
/-- what is made next, by its name -/
theorem wk_refl {ρ : DEnv} : Wk ρ ρ := Wk.refl ρ

theorem andN (a b : Nat) : Builtin.bitAnd (a : Int) (b : Int) = ((a &&& b : Nat) : Int) := by
  rw [PyProof.Rows.bitAnd_pp (by omega) (by omega)]; simp
end L2.DL

/-! # CX79.lean -/
set_option Elab.async false
set_option linter.all false
set_option maxRecDepth 100000
set_option maxHeartbeats 1000000
namespace L2.DL.Q
open PySem PySem.Spec PyProof.Rows
local macro_rules | `(tactic| walk_at "wk") => `(tactic| (repeat' first | exact True.intro | exact rfl | apply And.intro))
def xtab : Tab3 := [("InvalidNumber", "NinthError", true), ("InvalidNumber", "InvalidNumber", true), ("InvalidNumber", "InvalidSubset", false), ("InvalidNumber", "InvalidMap", false), ("InvalidSubset", "NinthError", true), ("InvalidSubset", "InvalidNumber", false), ("InvalidSubset", "InvalidSubset", true), ("InvalidSubset", "InvalidMap", false), ("InvalidMap", "NinthError", true), ("InvalidMap", "InvalidNumber", false), ("InvalidMap", "InvalidSubset", false), ("InvalidMap", "InvalidMap", true)]
def xoc : List Str := ["Share"]
abbrev PX (d : D) : Prop := plainX xoc d = true
/-! ## values -/
def isInt : D → Bool
  | .int _ => true
  | _ => false
def R_is_integer : RF := fun ds Q => match ds with
  | [d] => PX d ∧ Q (.fz (.bl (isInt d)))
  | _ => False
def w_is_integer : WS :=
    (wRet (wAndV (wCB (wIsiX xoc .int) (wCons (wVar 0) (wCons (wK (.ty "int")) wNil))) (wNotV (wCB (wIsiX xoc .bool) (wCons (wVar 0) (wCons (wK (.ty "bool")) wNil))))))
abbrev N_is_integer : List Str := ["value"]
theorem v_is_integer (ds Q) (h : R_is_integer ds Q) : w_is_integer (endF Q) (argD N_is_integer ds) := by
  match ds, h with
  | [d], ⟨hp, h⟩ =>
    refine ⟨rfl, hp, ?_⟩
    cases d <;> first | exact ⟨trivial, h⟩ | exact ⟨rfl, hp, trivial, h⟩
def isNum : D → Bool
  | .int i => decide (0 ≤ i)
  | _ => false
def R_is_number : RF := fun ds Q => match ds with
  | [d] => PX d ∧ Q (.fz (.bl (isNum d)))
  | _ => False
def w_is_number : WS :=
    (wRet (wAndV (wCall R_is_integer (wCons (wVar 0) wNil)) (wBin wGe (wVar 0) (wK (.int 0)))))
abbrev N_is_number : List Str := ["value"]
theorem v_is_number (ds Q) (h : R_is_number ds Q) : w_is_number (endF Q) (argD N_is_number ds) := by
  match ds, h with
  | [d], ⟨hp, h⟩ =>
    refine ⟨hp, ?_⟩
    cases d <;> exact ⟨trivial, h⟩
def below (d : D) (b : Int) : Bool := match d with
  | .int i => decide (0 ≤ i) && decide (i < b)
  | _ => false
def R_is_below : RF := fun ds Q => match ds with
  | [d, .int b] => PX d ∧ Q (.fz (.bl (below d b)))
  | _ => False
def w_is_below : WS :=
    (wRet (wAndV (wCall R_is_integer (wCons (wVar 0) wNil)) (wChain wLe wLt (wK (.int 0)) (wVar 0) (wVar 1))))
abbrev N_is_below : List Str := ["value", "bound"]
theorem v_is_below (ds Q) (h : R_is_below ds Q) : w_is_below (endF Q) (argD N_is_below ds) := by
  match ds, h with
  | [d, .int b], ⟨hp, h⟩ =>
    refine ⟨hp, ?_⟩
    cases d <;> first | exact ⟨trivial, h⟩ | skip
    rename_i i
    refine ift_d (fun h0 => ⟨trivial, ?_⟩) fun h0 => ⟨trivial, ?_⟩
    · simp only [below, h0, decide_true, Bool.true_and] at h; exact h
    · simp only [below, h0, decide_false, Bool.false_and] at h; exact h
def rowBelow (v : D) (n b : Int) : Bool := match v with
  | .tup ds => decide ((ds.length : Int) = n) && ds.all fun d => below d b
  | _ => false
def R_row_below : RF := fun ds Q => match ds with
  | [v, .int n, .int b] => PX v ∧ (∀ ds, v = .tup ds → ∀ d, d ∈ ds → PX d) ∧ Q (.fz (.bl (rowBelow v n b)))
  | _ => False
def w_row_below : WS :=
    (wSeq (wIfS (wOr (wNot (wTest (wCB (wIsiX xoc .tuple) (wCons (wVar 0) (wCons (wK (.ty "tuple")) wNil))))) (wTest (wBin wNeI (wCB wLen (wCons (wVar 0) wNil)) (wVar 1))))
    (wRet (wK (.bl false)))
    wNext)
    (wSeq (wFor (wItT (wVar 0)) (wgName 3)
    (wIfS (wNot (wTest (wCall R_is_below (wCons (wVar 3) (wCons (wVar 2) wNil)))))
    (wRet (wK (.bl false)))
    wNext))
    (wRet (wK (.bl true)))))
abbrev N_row_below : List Str := ["value", "length", "bound", "one"]
theorem v_row_below (ds Q) (h : R_row_below ds Q) : w_row_below (endF Q) (argD N_row_below ds) := by
  match ds, h with
  | [v, .int n, .int b], ⟨hp, he, h⟩ =>
    refine ⟨rfl, hp, ?_⟩
    cases v <;> first | exact ⟨trivial, h⟩ | skip
    rename_i ds
    refine ift_n (fun hn => ⟨trivial, ?_⟩) fun hn => ?_
    · simp only [rowBelow, hn, decide_false, Bool.false_and] at h; exact h
    · simp only [rowBelow, hn, decide_true, Bool.true_and] at h
      refine ForP.byI (fun i ρ => ρ = [some (.fz (.tup ds)), some (.fz (.int n)), some (.fz (.int b)), none] ∧ ∀ j, j < i → ∀ d, ds[j]? = some d → below d b = true) ⟨_, by walk_at "wk", rfl, fun j hj => absurd hj (by omega)⟩ ?_ ?_
      · rintro i ρ' hi ⟨rfl, hj⟩
        refine ⟨he ds rfl _ (List.getElem_mem hi), ?_⟩
        cases hb : below ds[i] b with
        | false =>
          have : (ds.all fun d => below d b) = false := by
            rw [List.all_eq_false]
            exact ⟨ds[i], List.getElem_mem hi, by simp [hb]⟩
          rw [this] at h
          exact ⟨trivial, h⟩
        | true =>
          refine ⟨_, by walk_at "wk", rfl, fun j hj' d hd => ?_⟩
          by_cases e : j = i
          · subst e
            rw [List.getElem?_eq_getElem hi] at hd
            cases hd; exact hb
          · exact hj j (by omega) d hd
      · rintro ρ' ⟨rfl, hj⟩
        have : (ds.all fun d => below d b) = true := by
          rw [List.all_eq_true]
          intro d hd
          obtain ⟨j, hj', e⟩ := List.getElem_of_mem hd
          exact hj j hj' d (by rw [List.getElem?_eq_getElem hj', e])
        rw [this] at h
        exact ⟨trivial, h⟩
/-- a row of numbers is a row of numbers -/
theorem rowBelow_ints {xs : List Int} {n b : Int} (hn : (xs.length : Int) = n) (hx : ∀ x, x ∈ xs → 0 ≤ x ∧ x < b) : rowBelow (.tup (xs.map .int)) n b = true := by
  simp only [rowBelow, List.length_map, hn, decide_true, Bool.true_and, List.all_eq_true, List.mem_map]
  rintro d ⟨x, hx', rfl⟩
  obtain ⟨h1, h2⟩ := hx x hx'
  simp [below, h1, h2]
theorem px_ints {xs : List Int} : ∀ ds, D.tup (xs.map .int) = .tup ds → ∀ d, d ∈ ds → PX d := by
  rintro ds h d hd
  cases h
  obtain ⟨x, _, rfl⟩ := List.mem_map.mp hd
  rfl
end L2.DL.Q

/-! # CF79.lean -/
set_option Elab.async false
set_option linter.all false
set_option maxRecDepth 100000
set_option maxHeartbeats 1000000
namespace L2.DL.Q
open PySem PySem.Spec PyProof.Rows
local macro_rules | `(tactic| walk_at "wk") => `(tactic| (repeat' first | exact True.intro | exact rfl | apply And.intro))
local macro_rules | `(tactic| walk_at "pos") => `(tactic| (show (0 : Int) < _; omega))
/-! ## the feed of draws -/
def feedDs (cells : List Int) (a g s : Int) : List D := [.lst (cells.map .int), .int a, .int g, .int s]
structure FeedI (cells : List Int) (a g s : Int) : Prop where
  c0 : ∀ x, x ∈ cells → 0 ≤ x
  a0 : 0 ≤ a
  al : a ≤ cells.length
  cl : cells.length ≤ 63
  g0 : 0 ≤ g
  s0 : 0 ≤ s
def FeedOk (c : Mc) : Prop := ∃ cells a g s, c = .lst (feedDs cells a g s) ∧ FeedI cells a g s
def R__law_draw : RB := fun c ds Q => ∃ many, ds = [.int many] ∧ 0 < many ∧ many < 1073741824 ∧ FeedOk c ∧ ∀ r c', 0 ≤ r → r < many → FeedOk c' → Q (.fz (.int r)) c'
def w__law_draw : WS :=
    (wSeq (wIfS (wTest (wBin wGt (wIxM 0 (wK (.int 2))) (wK (.int 0))))
    (wSeq (wSetF 2 (wIxM 0 (wK (.int 2))))
    (wSeq (wSetIx 0 (wK (.int 2)) (wBin wDiv (wVar 2) (wVar 1)))
    (wRet (wBin wMod (wCB wInt1 (wCons (wVar 2) wNil)) (wVar 1)))))
    wNext)
    (wSeq (wIfS (wTest (wBin wLt (wIxM 0 (wK (.int 1))) (wCB wLen (wCons (wIxM 0 (wK (.int 0))) wNil))))
    (wSeq (wSetF 3 (wBin wIx (wIxM 0 (wK (.int 0))) (wIxM 0 (wK (.int 1)))))
    (wSeq (wSetIx 0 (wK (.int 1)) (wBin wAdd (wIxM 0 (wK (.int 1))) (wK (.int 1))))
    (wSeq (wIfS (wTest (wBin wGe (wVar 3) (wBin wPow (wK (.int 10)) (wK (.int 18)))))
    (wSeq (wSetIx 0 (wK (.int 2)) (wBin wDiv (wVar 3) (wVar 1)))
    (wRet (wBin wMod (wCB wInt1 (wCons (wVar 3) wNil)) (wVar 1))))
    wNext)
    (wSeq (wSetF 4 (wBin wMod (wCB wInt1 (wCons (wBin wAdd (wBin wAdd (wBin wMul (wVar 3) (wK (.int 48271))) (wBin wMul (wIxM 0 (wK (.int 1))) (wK (.int 69621)))) (wK (.int 11))) wNil)) (wK (.int 2147483647))))
    (wSeq (wSetF 4 (wBin wMod (wCB wInt1 (wCons (wBin wAdd (wBin wMul (wVar 4) (wK (.int 16807))) (wVar 3)) wNil)) (wK (.int 1073741789))))
    (wRet (wBin wMod (wCB wInt1 (wCons (wBin wDiv (wVar 4) (wK (.int 8))) wNil)) (wVar 1))))))))
    wNext)
    (wSeq (wSetIx 0 (wK (.int 3)) (wBin wMod (wCB wInt1 (wCons (wBin wAdd (wBin wMul (wIxM 0 (wK (.int 3))) (wK (.int 48271))) (wK (.int 11))) wNil)) (wK (.int 2147483647))))
    (wRet (wBin wMod (wCB wInt1 (wCons (wBin wDiv (wIxM 0 (wK (.int 3))) (wK (.int 16))) wNil)) (wVar 1))))))
abbrev N__law_draw : List Str := ["feed", "many", "great", "cell", "mixed"]
theorem cmul_r {i j : Int} (h1 : -(2 ^ 64) < j) (h2 : j < 2 ^ 64) : CMul i j := .inr ⟨h1, h2⟩
theorem cmul_l {i j : Int} (h1 : -(2 ^ 64) < i) (h2 : i < 2 ^ 64) : CMul i j := .inl ⟨h1, h2⟩
theorem atI_cells {cells : List Int} {a : Int} (h0 : 0 ≤ a) (h1 : a < cells.length) : ∃ x, x ∈ cells ∧ atI (cells.map D.int) a = some (.int x) := by
  have hn : a.toNat < cells.length := by omega
  refine ⟨cells[a.toNat], List.getElem_mem hn, ?_⟩
  have := atI_nat (xs := cells.map D.int) (j := a.toNat) (v := .int cells[a.toNat]) (by simp [hn])
  rwa [Int.toNat_of_nonneg h0] at this
theorem v__law_draw (c ds Q) (h : R__law_draw c ds Q) : w__law_draw (endB Q) (argB N__law_draw c ds) := by
  obtain ⟨many, rfl, hm, hm2, ⟨cells, a, g, s, rfl, F⟩, h⟩ := h
  have nn := fun x => Int.emod_nonneg x (show many ≠ 0 by omega)
  have lt := fun x => Int.emod_lt_of_pos x hm
  refine ⟨trivial, _, rfl, ?_⟩
  refine ift_d (fun h1 => ?_) fun h1 => ?_
  · refine ⟨trivial, _, rfl, ⟨hm, hm2⟩, trivial, 2, rfl, hm, ?_⟩
    exact ⟨trivial, _, rfl, h _ _ (nn _) (lt _) ⟨cells, a, g / many, s, rfl, ⟨F.c0, F.a0, F.al, F.cl, Int.ediv_nonneg F.g0 (by omega), F.s0⟩⟩⟩
  · refine ⟨trivial, _, rfl, trivial, _, rfl, ?_⟩
    refine ift_d (fun h2 => ?_) fun h2 => ?_
    · have h2' : a < cells.length := by simpa using h2
      obtain ⟨x, hx, ex⟩ := atI_cells F.a0 h2'
      have F1 : FeedI cells (a + 1) g s := ⟨F.c0, by have := F.a0; omega, by omega, F.cl, F.g0, F.s0⟩
      refine ⟨trivial, _, rfl, trivial, _, rfl, _, ex, ?_⟩
      refine ⟨trivial, _, rfl, trivial, 1, rfl, ⟨by decide, by decide, by decide⟩, ?_⟩
      refine ift_d (fun h3 => ?_) fun h3 => ?_
      · refine ⟨⟨hm, hm2⟩, trivial, 2, rfl, hm, ?_⟩
        exact ⟨trivial, _, rfl, h _ _ (nn _) (lt _) ⟨cells, a + 1, x / many, s, rfl, ⟨F.c0, F1.a0, F1.al, F.cl, Int.ediv_nonneg (F.c0 x hx) (by omega), F.s0⟩⟩⟩
      · refine ⟨cmul_r (by decide) (by decide), trivial, _, rfl, cmul_r (by decide) (by decide), by walk_at "pos", ?_⟩
        refine ⟨cmul_r (by decide) (by decide), by walk_at "pos", ?_⟩
        refine ⟨⟨by decide, by decide⟩, hm, ?_⟩
        exact ⟨trivial, _, rfl, h _ _ (nn _) (lt _) ⟨cells, a + 1, g, s, rfl, F1⟩⟩
    · refine ⟨trivial, _, rfl, cmul_r (by decide) (by decide), by walk_at "pos", trivial, 3, rfl, ?_⟩
      refine ⟨trivial, _, rfl, ⟨by decide, by decide⟩, hm, ?_⟩
      exact ⟨trivial, _, rfl, h _ _ (nn _) (lt _) ⟨cells, a, g, _, rfl, ⟨F.c0, F.a0, F.al, F.cl, F.g0, Int.emod_nonneg _ (by decide)⟩⟩⟩
def R__law_feed : RF := fun ds Q => ∃ ns : List Int, ds = [.scr (ns.map .int)] ∧ ns.length ≤ 63 ∧ ∀ c, FeedOk c → Q (.mu true c)
def w__law_feed : WS :=
    (wSeq (wSetF 1 (wLc (wItL (wSlL (wVar 0) woNone (woSome (wK (.int 63))))) (wgName 3) wYes (wCB wAbsI (wCons (wCB wInt1 (wCons (wVar 3) wNil)) wNil)) [3]))
    (wSeq (wSetF 2 (wK (.int 7)))
    (wSeq (wFor (wItL (wVar 1)) (wgName 3)
    (wSetF 2 (wBin wMod (wCB wInt1 (wCons (wBin wAdd (wBin wAdd (wBin wMul (wVar 2) (wK (.int 48271))) (wVar 3)) (wK (.int 1))) wNil)) (wK (.int 2147483647)))))
    (wRet (wLst (wCons (wVar 1) (wCons (wK (.int 0)) (wCons (wK (.int 0)) (wCons (wVar 2) wNil)))))))))
abbrev N__law_feed : List Str := ["script", "cells", "seed", "cell"]
theorem sz63 {n : Nat} (h : n ≤ 63) : n < sizeLine := by
  have : (64 : Nat) ≤ sizeLine := by decide
  omega
theorem v__law_feed (ds Q) (h : R__law_feed ds Q) : w__law_feed (endF Q) (argD N__law_feed ds) := by
  obtain ⟨ns, rfl, hn, h⟩ := h
  have hcut : ∃ ms : List Int, cutD (ns.map D.int) none (some 63) = ms.map D.int ∧ ms.length ≤ 63 := by
    unfold cutD
    rw [← List.map_drop, ← List.map_take]
    refine ⟨_, rfl, ?_⟩
    simp only [List.length_take, List.length_drop, List.length_map]
    omega
  obtain ⟨ms, e, hms⟩ := hcut
  show LcP (cutD (ns.map D.int) none (some 63)) _ _ _ _ _ _
  rw [e]
  refine LcP.map (fun i => .int (if ms.getD i 0 < 0 then -(ms.getD i 0) else ms.getD i 0)) (ρw := [some (.fz (.scr (ns.map .int))), none, none, none]) (by walk_at "wk") (fun i acc hi ha => ?_) ?_
  · have hi' : i < ms.length := by simpa using hi
    rw [List.getElem_map]
    refine lcN (xs := ms.map D.int) (by rw [List.length_map]; exact Nat.le_of_lt (sz63 hms)) hi ha ?_ (by walk_at "wk")
    simp [List.getD_eq_getElem?_getD, hi']
  · rw [List.length_map]
    have ec : ((List.range ms.length).map fun i => D.int (if ms.getD i 0 < 0 then -(ms.getD i 0) else ms.getD i 0)) = (ms.map fun x => if x < 0 then -x else x).map D.int := by
      apply List.ext_getElem
      · simp
      · intro i h1 h2
        have hi : i < ms.length := by simpa using h1
        simp [List.getD_eq_getElem?_getD, hi]
    rw [ec]
    generalize hcs : (ms.map fun x => if x < 0 then -x else x) = cs
    have hcl : cs.length ≤ 63 := by rw [← hcs]; simpa using hms
    have hc0 : ∀ x, x ∈ cs → 0 ≤ x := by
      intro x hx
      rw [← hcs] at hx
      obtain ⟨y, _, rfl⟩ := List.mem_map.mp hx
      split <;> omega
    refine ForP.map (I := fun i ρ => ∃ s, ρ = [some (.fz (.scr (ns.map .int))), some (.fz (.lst (cs.map .int))), some (.fz (.int s)), none] ∧ 0 ≤ s) ⟨_, by walk_at "wk", 7, rfl, by decide⟩ ?_ ?_
    · rintro i ρ' hi ⟨s, rfl, hs⟩
      exact ⟨cmul_r (by decide) (by decide), by walk_at "pos", _, by walk_at "wk", _, rfl, Int.emod_nonneg _ (by decide)⟩
    · rintro ρ' ⟨s, rfl, hs⟩
      refine ⟨by show 4 ≤ sizeLine; decide, rfl, h _ ⟨cs, 0, 0, s, rfl, ⟨hc0, by decide, by omega, hcl, by decide, hs⟩⟩⟩
end L2.DL.Q

/-! # M79.lean -/
set_option linter.all false
namespace M79
/-! ## signs -/
def sg (b : Int) : Int := 1 - 2 * b
def stf (s : Nat) (l : List Int) (i : Nat) : Int := if i / s % 2 = 0 then l.getD i 0 + l.getD (i + s) 0 else l.getD (i - s) 0 - l.getD i 0
def bstep (s : Nat) (l : List Int) : List Int := (List.range l.length).map (stf s l)
def its : Nat → List Int → List Int
  | 0, l => l
  | k + 1, l => bstep (2 ^ k) (its k l)
theorem bstep_len (s : Nat) (l : List Int) : (bstep s l).length = l.length := by simp [bstep]
theorem its_len (k : Nat) (l : List Int) : (its k l).length = l.length := by
  induction k with
  | zero => rfl
  | succ k ih => rw [its, bstep_len, ih]
theorem even_room {s q i : Nat} (hs : 0 < s) (h : i < 2 * s * q) (e : i / s % 2 = 0) : i + s < 2 * s * q := by
  have h1 : i / s < 2 * q := by
    rw [Nat.div_lt_iff_lt_mul hs]
    calc i < 2 * s * q := h
      _ = 2 * q * s := by rw [Nat.mul_assoc, Nat.mul_comm s q, ← Nat.mul_assoc]
  have h2 : i / s + 2 ≤ 2 * q := by omega
  have h3 : i < s * (i / s + 1) := Nat.lt_mul_div_succ i hs
  have h4 : s * (i / s + 2) ≤ s * (2 * q) := Nat.mul_le_mul_left s h2
  have h5 : s * (i / s + 2) = s * (i / s + 1) + s := by rw [show i / s + 2 = (i / s + 1) + 1 by omega, Nat.mul_succ]
  have h6 : s * (2 * q) = 2 * s * q := by rw [Nat.mul_comm 2 s, Nat.mul_assoc]
  omega
theorem odd_room {s i : Nat} (e : ¬ i / s % 2 = 0) : s ≤ i := by
  apply Nat.le_of_not_lt
  intro h
  rw [Nat.div_eq_of_lt h] at e
  exact e rfl
/-- where the partner lies -/
theorem room {k n i : Nat} (hk : k < n) (hi : i < 2 ^ n) (e : i / 2 ^ k % 2 = 0) : i + 2 ^ k < 2 ^ n := by
  have h : 2 ^ n = 2 * 2 ^ k * 2 ^ (n - k - 1) := by
    rw [Nat.mul_comm 2, ← Nat.pow_succ, ← Nat.pow_add]
    congr 1; omega
  rw [h] at hi ⊢
  exact even_room (Nat.two_pow_pos k) hi e
def Bd (B : Int) (l : List Int) : Prop := ∀ i, -B ≤ l.getD i 0 ∧ l.getD i 0 ≤ B
theorem bd_of {B : Int} {l : List Int} (h0 : 0 ≤ B) (h : ∀ x, x ∈ l → -B ≤ x ∧ x ≤ B) : Bd B l := fun i => by
  rw [List.getD_eq_getElem?_getD]
  by_cases hi : i < l.length
  · rw [List.getElem?_eq_getElem hi]; exact h _ (List.getElem_mem hi)
  · rw [List.getElem?_eq_none (by omega)]; simp; omega
theorem bd_mem {B : Int} {l : List Int} (h : Bd B l) {x : Int} (hx : x ∈ l) : -B ≤ x ∧ x ≤ B := by
  obtain ⟨i, hi, rfl⟩ := List.getElem_of_mem hx
  have := h i
  rw [List.getD_eq_getElem?_getD, List.getElem?_eq_getElem hi] at this
  exact this
theorem bd_step {B : Int} {s : Nat} {l : List Int} (h0 : 0 ≤ B) (h : Bd B l) : Bd (2 * B) (bstep s l) := by
  refine bd_of (by omega) fun x hx => ?_
  obtain ⟨i, _, rfl⟩ := List.mem_map.mp hx
  have h1 := h i
  have h2 := h (i + s)
  have h3 := h (i - s)
  unfold stf
  split <;> omega
theorem bd_its {l : List Int} (h : Bd 1 l) : ∀ k, Bd ((2 ^ k : Nat) : Int) (its k l)
  | 0 => h
  | k + 1 => by
    have := bd_step (s := 2 ^ k) (Int.natCast_nonneg _) (bd_its h k)
    rw [its]
    have e : ((2 ^ (k + 1) : Nat) : Int) = 2 * ((2 ^ k : Nat) : Int) := by rw [Nat.pow_succ]; omega
    rw [e]; exact this
structure Tab (n : Nat) (f : List Int) : Prop where
  n1 : 1 ≤ n
  n7 : n ≤ 7
  len : f.length = 2 ^ n
  b : ∀ x, x ∈ f → 0 ≤ x ∧ x < 2
theorem Tab.p {n : Nat} {f : List Int} (t : Tab n f) : 2 ≤ f.length ∧ f.length ≤ 128 := by
  rw [t.len]
  have h1 := Nat.pow_le_pow_right (n := 2) (by omega) t.n1
  have h2 := Nat.pow_le_pow_right (n := 2) (by omega) t.n7
  omega
abbrev sgs (n : Nat) (f : List Int) : List Int := its n (f.map sg)
theorem sgs_len (n : Nat) (f : List Int) : (sgs n f).length = f.length := by rw [sgs, its_len, List.length_map]
theorem Tab.bd {n : Nat} {f : List Int} (t : Tab n f) : ∀ x, x ∈ sgs n f → -(f.length : Int) ≤ x ∧ x ≤ f.length := fun x hx => by
  have h1 : Bd 1 (f.map sg) := bd_of (by omega) fun y hy => by
    obtain ⟨b, hb, rfl⟩ := List.mem_map.mp hy
    have := t.b b hb
    unfold sg; omega
  have := bd_mem (bd_its h1 n) hx
  rw [t.len]; exact this
/-! ## weights -/
def val (l : List Int) : Int := l.foldl (fun a b => 2 * a + b) 0
theorem val_app (l : List Int) (b : Int) : val (l ++ [b]) = 2 * val l + b := by simp [val]
def Bits (l : List Int) : Prop := ∀ x, x ∈ l → 0 ≤ x ∧ x < 2
theorem val0 {l : List Int} (h : Bits l) : 0 ≤ val l := by
  suffices ∀ (l : List Int) (a : Int), 0 ≤ a → (∀ x, x ∈ l → 0 ≤ x ∧ x < 2) → 0 ≤ l.foldl (fun a b => 2 * a + b) a from this l 0 (by omega) h
  intro l
  induction l with
  | nil => intro a ha _; exact ha
  | cons b l ih =>
    intro a ha hl
    have := hl b (by simp)
    exact ih _ (by show 0 ≤ 2 * a + b; omega) fun x hx => hl x (by simp [hx])
theorem bits_app {l : List Int} {b : Int} (h : Bits l) (hb : 0 ≤ b ∧ b < 2) : Bits (l ++ [b]) := fun x hx => by
  rcases List.mem_append.mp hx with hx | hx
  · exact h x hx
  · rw [List.mem_singleton.mp hx]; exact hb
def wlo (n : Nat) (beg : List Int) : Nat := (val beg).toNat * 2 ^ (n - beg.length)
def whi (n : Nat) (beg : List Int) : Nat := ((val beg).toNat + 1) * 2 ^ (n - beg.length)
def Wt (n : Nat) (found : List Int) (beg : List Int) : Int := (((found.take (whi n beg)).drop (wlo n beg)).map fun s => s * s).sum
/-! ## levels -/
abbrev Pr := List Int × Int
def kids (n : Nat) (found : List Int) (t : Int) (p : Pr) : List Pr := if t * t ≤ p.2 then [(p.1 ++ [0], Wt n found (p.1 ++ [0])), (p.1 ++ [1], Wt n found (p.1 ++ [1]))] else []
def lev (n : Nat) (found : List Int) (t : Int) : Nat → List Pr
  | 0 => [([], Wt n found [])]
  | k + 1 => (lev n found t k).flatMap (kids n found t)
theorem kids_len (n : Nat) (found : List Int) (t : Int) (p : Pr) : (kids n found t p).length ≤ 2 := by unfold kids; split <;> simp
theorem flat_len (n : Nat) (found : List Int) (t : Int) : ∀ l : List Pr, (l.flatMap (kids n found t)).length ≤ 2 * l.length
  | [] => by simp
  | p :: l => by
    rw [List.flatMap_cons, List.length_append, List.length_cons]
    have := flat_len n found t l
    have := kids_len n found t p
    omega
theorem lev_len (n : Nat) (found : List Int) (t : Int) : ∀ k, (lev n found t k).length ≤ 2 ^ k
  | 0 => by simp [lev]
  | k + 1 => by
    rw [lev, Nat.pow_succ]
    have := flat_len n found t (lev n found t k)
    have := lev_len n found t k
    omega
theorem lev_mem {n : Nat} {found : List Int} {t : Int} : ∀ {k : Nat} {p : Pr}, p ∈ lev n found t k → p.1.length = k ∧ Bits p.1
  | 0, p, h => by
    rw [lev, List.mem_singleton] at h
    subst h; exact ⟨rfl, fun x hx => absurd hx (by simp)⟩
  | k + 1, p, h => by
    rw [lev, List.mem_flatMap] at h
    obtain ⟨q, hq, hp⟩ := h
    obtain ⟨h1, h2⟩ := lev_mem hq
    unfold kids at hp
    split at hp
    · simp only [List.mem_cons, List.mem_nil_iff, or_false] at hp
      rcases hp with rfl | rfl
      · exact ⟨by simp [h1], bits_app h2 (by omega)⟩
      · exact ⟨by simp [h1], bits_app h2 (by omega)⟩
    · cases hp
theorem lev_first (n : Nat) (found : List Int) (t : Int) : 0 < (lev n found t 0).length := by simp [lev]
/-! ## broken pairs, near masks -/
/-- counts -/
theorem count_app {α : Type} (l : List α) (a : α) (q : α → Bool) : ((l ++ [a]).filter q).length = (l.filter q).length + if q a then 1 else 0 := by
  rw [List.filter_append, List.length_append]
  congr 1
  cases h : q a <;> simp [h]
theorem two_pow_toNat {n : Nat} {i : Int} (h : i = n) : (2 : Int) ^ i.toNat = ((2 ^ n : Nat) : Int) := by
  subst h
  rw [Int.toNat_natCast, Int.natCast_pow]; rfl
end M79

/-! # V79.lean -/
set_option Elab.async false
set_option linter.all false
set_option maxRecDepth 100000
set_option maxHeartbeats 1000000
namespace L2.DL.Q
open PySem PySem.Spec PyProof.Rows M79
local macro_rules | `(tactic| walk_at "wk") => `(tactic| (repeat' first | exact True.intro | exact rfl | apply And.intro))
local macro_rules | `(tactic| walk_at "om") => `(tactic| (first | omega | (dsimp only; omega) | (dsimp only at *; omega)))
local macro_rules | `(tactic| walk_at "sz") => `(tactic| (first | (show (_ : Nat) ≤ 16777216; omega) | (show (_ : Nat) < 16777216; omega)))
theorem nd_t {a : Prop} [Decidable a] (h : ¬ a) : (!decide a) = true := by rw [decide_eq_false h]; rfl
theorem nd_f {a : Prop} [Decidable a] (h : a) : (!decide a) = false := by rw [decide_eq_true h]; rfl
/-- loops over what a number gives -/
theorem ForP.rangeF {f : Nat → D} {n : Nat} {g : WG} {W : WS} {E : DEnds} {ρ : DEnv} (I : Nat → DEnv → Prop) (h0 : NxI I 0 ρ) (hs : ∀ i ρ', i < n → I i ρ' → g (f i) ρ' fun ρ2 => W { E with nx := NxI I (i + 1), ct := NxI I (i + 1), bk := E.nx } ρ2) (he : ∀ ρ', I n ρ' → E.nx ρ') : ForP ((List.range n).map f) g W E ρ := by
  refine ForP.map I h0 (fun i ρ' hi h => ?_) fun ρ' h => ?_
  · rw [List.getElem_range]; exact hs i ρ' (by simpa using hi) h
  · rw [List.length_range] at h; exact he ρ' h
theorem enum_rng (xs : List Int) : enumD (xs.map D.int) = (List.range xs.length).map fun i : Nat => .tup [.int i, .int (xs.getD i 0)] := by
  rw [enum_map]
  apply List.ext_getElem
  · simp
  · intro i h1 h2
    simp at h1
    simp [List.getD_eq_getElem?_getD, h1]
theorem enum_rngG {α : Type} (f : α → D) (d : α) (l : List α) : enumD (l.map f) = (List.range l.length).map fun i : Nat => .tup [.int i, f (l.getD i d)] := by
  rw [enum_map]
  apply List.ext_getElem
  · simp
  · intro i h1 h2
    simp at h1
    simp [List.getD_eq_getElem?_getD, h1]
theorem map_succ {α : Type} (f : Nat → α) (i : Nat) : (List.range (i + 1)).map f = (List.range i).map f ++ [f i] := by rw [List.range_succ, List.map_append]; rfl
/-- the table and its number -/
def TabD (z : Int) (fd : D) (n : Nat) (f : List Int) : Prop := z = n ∧ fd = .tup (f.map .int) ∧ Tab n f
def Bad (z : Int) (E : Str → List (Str × D) → Prop) : Prop := ¬ (1 ≤ z ∧ z ≤ 7) ∧ E "InvalidNumber" [("value", .int z)]
def R_check_bits : RX := fun ds Q E => match ds with
  | [.int z, fd] => (∃ n f, TabD z fd n f ∧ Q (.fz .non)) ∨ Bad z E
  | _ => False
def w_check_bits : WS :=
    (wSeq (wIfS (wOr (wNot (wTest (wCall R_is_number (wCons (wVar 0) wNil)))) (wNot (wTest (wChain wLe wLe (wK (.int 1)) (wVar 0) (wK (.int (7)))))))
    (wRaise "InvalidNumber" ["value"] (wCons (wVar 0) wNil))
    wNext)
    (wIfS (wNot (wTest (wCall R_row_below (wCons (wVar 1) (wCons (wBin wShl (wK (.int 1)) (wVar 0)) (wCons (wK (.int 2)) wNil))))))
    (wRaise "InvalidMap" ["value"] (wCons (wVar 1) wNil))
    wNext))
abbrev N_check_bits : List Str := ["n", "f"]
theorem shl1 {n : Nat} : (1 : Int) * 2 ^ ((n : Int)).toNat = ((2 ^ n : Nat) : Int) := by
  rw [Int.one_mul, Int.toNat_natCast, Int.natCast_pow]; rfl
theorem v_check_bits (ds Q E') (h : R_check_bits ds Q E') : w_check_bits (endX Q E') (argD N_check_bits ds) := by
  unfold R_check_bits at h
  split at h
  · rename_i z fd
    rcases h with ⟨n, f, ⟨rfl, rfl, t⟩, h⟩ | ⟨hb, h⟩
    · have h1 := t.n1
      have h7 := t.n7
      refine ⟨rfl, ?_⟩
      refine ift_n (fun z => absurd (Int.natCast_nonneg n) z) fun _ => ?_
      refine ift_d (fun _ => ?_) fun z => absurd z (by omega)
      refine ift_n (fun z => absurd z (by omega)) fun _ => ?_
      refine ⟨⟨by omega, by omega, by omega⟩, rfl, px_ints, ?_⟩
      rw [rowBelow_ints (by rw [shl1, t.len]) t.b]
      exact h
    · refine ⟨rfl, ?_⟩
      refine ift_n (fun _ => ⟨rfl, h⟩) fun h0 => ?_
      refine ift_d (fun h1 => ?_) fun _ => ⟨rfl, h⟩
      refine ift_n (fun _ => ⟨rfl, h⟩) fun h7 => absurd ⟨h1, h7⟩ hb
  · exact h.elim
def R_signs : RX := fun ds Q E => match ds with
  | [.int z, fd] => (∃ n f, TabD z fd n f ∧ Q (.fz (.tup ((sgs n f).map .int)))) ∨ Bad z E
  | _ => False
def w_signs : WS :=
    (wSeq (wExpr (wCallX R_check_bits (wCons (wVar 0) (wCons (wVar 1) wNil))))
    (wSeq (wSetF 2 (wLc (wItT (wVar 1)) (wgName 8) wYes (wBin wSub (wK (.int 1)) (wBin wMul (wK (.int 2)) (wVar 8))) [8]))
    (wSeq (wSetF 3 (wK (.int 1)))
    (wSeq (wFor (wRng1 (wCons (wVar 0) wNil)) (wgName 4)
    (wSeq (wSet 5 (wLst wNil))
    (wSeq (wFor (wEnum (wCons (wVar 2) wNil)) (wgTup 2 (wgCons (wgName 6) (wgCons (wgName 7) wgNil)))
    (wIfS (wTest (wBin wEqI (wBin wMod (wBin wDiv (wVar 6) (wVar 3)) (wK (.int 2))) (wK (.int 0))))
    (wApp 5 (wBin wAdd (wVar 7) (wBin wIx (wVar 2) (wBin wAdd (wVar 6) (wVar 3)))))
    (wApp 5 (wBin wSub (wBin wIx (wVar 2) (wBin wSub (wVar 6) (wVar 3))) (wVar 7)))))
    (wSeq (wSetF 2 (wFrz 5))
    (wSetF 3 (wBin wMul (wK (.int 2)) (wVar 3)))))))
    (wRet (wCB wTupleOf (wCons (wVar 2) wNil)))))))
abbrev N_signs : List Str := ["n", "f", "found", "step", "_", "fresh", "place", "value", "bit"]

abbrev bz (b : Bool) (x y : D) : D := if b then x else y
theorem sg_ints (f : List Int) : (f.map fun b => D.int (1 - 2 * b)) = (f.map sg).map .int := by rw [List.map_map]; rfl
theorem stf_even {s i : Nat} {l : List Int} (e : i / s % 2 = 0) : stf s l i = l.getD i 0 + l.getD (i + s) 0 := by unfold stf; rw [if_pos e]
theorem stf_odd {s i : Nat} {l : List Int} (e : ¬ i / s % 2 = 0) : stf s l i = l.getD (i - s) 0 - l.getD i 0 := by unfold stf; rw [if_neg e]
theorem par {i s : Nat} : (i : Int) / ((s : Nat) : Int) % 2 = 0 ↔ i / s % 2 = 0 := by
  rw [← Int.natCast_ediv]; omega
theorem pow_s (k : Nat) : (2 : Int) * ((2 ^ k : Nat) : Int) = ((2 ^ (k + 1) : Nat) : Int) := by rw [Nat.pow_succ]; omega
theorem v_signs (ds Q E') (h : R_signs ds Q E') : w_signs (endX Q E') (argD N_signs ds) := by
  unfold R_signs at h
  split at h
  · rename_i z fd
    rcases h with ⟨n, f, ⟨rfl, rfl, t⟩, h⟩ | ⟨hb, h⟩
    · refine .inl ⟨n, f, ⟨rfl, rfl, t⟩, ?_⟩
      have hp := t.p
      rw [t.len] at hp
      have h7 := t.n7
      show LcP (f.map D.int) _ _ _ _ _ _
      refine LcP.mapL (ρw := [some (.fz (.int n)), some (.fz (.tup (f.map .int))), none, none, none, none, none, none, none]) (fun b => .int (1 - 2 * b)) (by rw [line, t.len]; omega) (by walk_at "wk") (fun a ha T hT => ⟨cmulL (by decide) (by decide), hT _ (by walk_at "wk")⟩) ?_
      rw [sg_ints]
      refine ⟨by omega, by omega, ?_⟩
      rw [rng0]
      refine ForP.rangeF (fun k ρ => ρ = [some (.fz (.int n)), some (.fz (.tup (f.map .int))), some (.fz (.lst ((its k (f.map sg)).map .int))), some (.fz (.int ((2 ^ k : Nat) : Int))), none, none, none, none, none]) ⟨_, by walk_at "wk", rfl⟩ ?_ ?_
      · rintro k ρ' hk rfl
        have hk : k < n := by simpa using hk
        have hl : (its k (f.map sg)).length = 2 ^ n := by rw [its_len, List.length_map, t.len]
        generalize hg : its k (f.map sg) = l at hl ⊢
        have hpk := Nat.two_pow_pos k
        have hkn := Nat.pow_lt_pow_right (a := 2) (by omega) hk
        refine ⟨by show (0 : Nat) ≤ sizeLine; omega, ?_⟩
        show ForP (enumD (l.map D.int)) _ _ _ _
        rw [enum_rng]
        refine ForP.rangeF (fun i ρ => ρ = [some (.fz (.int n)), some (.fz (.tup (f.map .int))), some (.fz (.lst (l.map .int))), some (.fz (.int ((2 ^ k : Nat) : Int))), none, some (.mu true (.lst (((List.range i).map (stf (2 ^ k) l)).map .int))), none, none, none]) ⟨_, by walk_at "wk", rfl⟩ ?_ ?_
        · rintro i ρ' hi rfl
          refine ⟨rfl, ⟨by omega, by omega⟩, by show (0 : Int) < _; omega, ?_⟩
          have hs : ((List.range i).map (stf (2 ^ k) l)).length < 16777216 := by rw [List.length_map, List.length_range]; omega
          refine ift_d (fun e => ?_) fun e => ?_
          · have e' := par.mp e
            have r := room hk (by omega) e'
            refine ⟨_, atG (by omega) (by omega), by rw [List.length_map, line]; exact hs, ?_⟩
            refine ⟨_, ?_, rfl⟩
            have : ((i : Int) + ((2 ^ k : Nat) : Int)).toNat = i + 2 ^ k := by omega
            rw [map_succ, List.map_append, stf_even e', this]
            walk_at "wk"
          · have e' : ¬ i / 2 ^ k % 2 = 0 := fun z => e (par.mpr z)
            have r := odd_room e'
            refine ⟨_, atG (by omega) (by omega), by rw [List.length_map, line]; exact hs, ?_⟩
            refine ⟨_, ?_, rfl⟩
            have : ((i : Int) - ((2 ^ k : Nat) : Int)).toNat = i - 2 ^ k := by omega
            rw [map_succ, List.map_append, stf_odd e', this]
            walk_at "wk"
        · rintro ρ' rfl
          refine ⟨cmulL (by decide) (by decide), _, ?_, rfl⟩
          rw [its, ← pow_s, hg]
          walk_at "wk"
      · rintro ρ' rfl
        have : ((n : Int)).toNat = n := by omega
        rw [this]
        exact ⟨trivial, h⟩
    · exact .inr ⟨hb, h⟩
  · exact h.elim

/-! ## broken pairs -/
def at0 (f : List Int) (x : Nat) : Int := f.getD x 0
def brq (f : List Int) (x y : Nat) : Bool := !decide (Builtin.bitXor (at0 f x) (at0 f y) = at0 f (x ^^^ y))
def brx (f : List Int) (x : Nat) : Nat := ((List.range f.length).filter (brq f x)).length
def brk (f : List Int) : Nat → Nat
  | 0 => 0
  | k + 1 => brk f k + brx f k
def R_broken_bits : RX := fun ds Q E => match ds with
  | [.int z, fd] => (∃ n f, TabD z fd n f ∧ Q (.fz (.int (brk f f.length : Nat)))) ∨ Bad z E
  | _ => False
def w_broken_bits : WS :=
    (wSeq (wExpr (wCallX R_check_bits (wCons (wVar 0) (wCons (wVar 1) wNil))))
    (wSeq (wSetF 2 (wK (.int 0)))
    (wSeq (wFor (wRng1 (wCons (wCB wLen (wCons (wVar 1) wNil)) wNil)) (wgName 3)
    (wFor (wRng1 (wCons (wCB wLen (wCons (wVar 1) wNil)) wNil)) (wgName 4)
    (wIfS (wTest (wBin (wEq true) (wBin wBxor (wBin wIx (wVar 1) (wVar 3)) (wBin wIx (wVar 1) (wVar 4))) (wBin wIx (wVar 1) (wBin wBxor (wVar 3) (wVar 4)))))
    (wAug 2 wAdd (wK (.int 1)))
    wNext)))
    (wRet (wVar 2)))))
abbrev N_broken_bits : List Str := ["n", "f", "many", "x", "y"]
theorem at_f {f : List Int} {x : Nat} (h : x < f.length) : atI (f.map D.int) (x : Int) = some (.int (at0 f x)) := by
  have := atG (xs := f) (i := (x : Int)) (by omega) (by omega)
  rw [this]; rfl
theorem xor_lt {n x y : Nat} (hx : x < 2 ^ n) (hy : y < 2 ^ n) : x ^^^ y < 2 ^ n := Nat.xor_lt_two_pow hx hy
theorem cnt_succ (q : Nat → Bool) (y : Nat) : ((List.range (y + 1)).filter q).length = ((List.range y).filter q).length + if q y then 1 else 0 := by rw [List.range_succ, count_app]
theorem v_broken_bits (ds Q E') (h : R_broken_bits ds Q E') : w_broken_bits (endX Q E') (argD N_broken_bits ds) := by
  unfold R_broken_bits at h
  split at h
  · rename_i z fd
    rcases h with ⟨n, f, ⟨rfl, rfl, t⟩, h⟩ | ⟨hb, h⟩
    · refine .inl ⟨n, f, ⟨rfl, rfl, t⟩, ?_⟩
      have hp := t.p
      have hl := t.len
      refine ⟨by omega, by rw [List.length_map]; omega, ?_⟩
      rw [rng0, List.length_map, Int.toNat_natCast]
      refine ForP.rangeF (fun x ρ => ρ = [some (.fz (.int n)), some (.fz (.tup (f.map .int))), some (.fz (.int (brk f x : Nat))), none, none]) ⟨_, by walk_at "wk", rfl⟩ ?_ ?_
      · rintro x ρ' hx rfl
        refine ⟨by rw [List.length_map]; omega, by rw [List.length_map]; omega, ?_⟩
        rw [rng0, List.length_map, Int.toNat_natCast]
        refine ForP.rangeF (fun y ρ => ρ = [some (.fz (.int n)), some (.fz (.tup (f.map .int))), some (.fz (.int ((brk f x + ((List.range y).filter (brq f x)).length : Nat) : Int))), some (.fz (.int x)), none]) ⟨_, by walk_at "wk", rfl⟩ ?_ ?_
        · rintro y ρ' hy rfl
          have hxy := xor_lt (by rwa [← hl]) (by rwa [← hl]) (n := n) (x := x) (y := y)
          refine ⟨_, at_f hx, _, at_f hy, _, (by rw [xorN]; exact at_f (by omega)), _, deq_int _ _, ?_⟩
          refine ift_of (fun e => ?_) fun e => ?_
          · refine ⟨_, ?_, rfl⟩
            rw [cnt_succ, if_pos (show brq f x y = true from e)]
            walk_at "wk"
          · refine ⟨_, ?_, rfl⟩
            rw [cnt_succ, if_neg (by rw [show brq f x y = false from e]; decide)]
            walk_at "wk"
        · rintro ρ' rfl
          exact ⟨_, by walk_at "wk", rfl⟩
      · rintro ρ' rfl
        exact ⟨trivial, h⟩
    · exact .inr ⟨hb, h⟩
  · exact h.elim
/-! ## the best mask -/
def bests (l : List Int) (m : Int) : List Nat := (List.range l.length).filter fun i => decide (l.getD i 0 = m)
theorem maxi : ∀ l : List Int, 0 < l.length → ∃ m, m ∈ l ∧ ∀ y, y ∈ l → y ≤ m
  | [], h => absurd h (by simp)
  | [a], _ => ⟨a, by simp, fun y hy => by rw [List.mem_singleton.mp hy]; exact Int.le_refl _⟩
  | a :: b :: l, _ => by
    obtain ⟨m, h1, h2⟩ := maxi (b :: l) (by simp)
    by_cases h : m ≤ a
    · refine ⟨a, by simp, fun y hy => ?_⟩
      rcases List.mem_cons.mp hy with rfl | hy
      · exact Int.le_refl _
      · exact Int.le_trans (h2 y hy) h
    · refine ⟨m, List.mem_cons_of_mem _ h1, fun y hy => ?_⟩
      rcases List.mem_cons.mp hy with rfl | hy
      · omega
      · exact h2 y hy
theorem max_uni {l : List Int} {m m' : Int} (h1 : m ∈ l) (h2 : ∀ y, y ∈ l → y ≤ m) (h1' : m' ∈ l) (h2' : ∀ y, y ∈ l → y ≤ m') : m' = m := Int.le_antisymm (h2 _ h1') (h2' _ h1)
theorem bests_cons {l : List Int} {m : Int} (h : m ∈ l) : ∃ j r, bests l m = j :: r ∧ l[j]? = some m ∧ ∀ i, i < j → l[i]? ≠ some m := by
  cases e : bests l m with
  | nil =>
    obtain ⟨i, hi, rfl⟩ := List.getElem_of_mem h
    have := List.filter_eq_nil_iff.mp e i (List.mem_range.mpr hi)
    exact absurd (by simp [List.getD_eq_getElem?_getD, hi]) this
  | cons j r =>
    obtain ⟨l1, l2, e1, e2, e3, _⟩ := List.filter_eq_cons_iff.mp e
    obtain ⟨_, e5, e6⟩ := rng_pre e1
    refine ⟨j, r, rfl, ?_, fun i hi => ?_⟩
    · rw [List.getElem?_eq_getElem e6, ← getD_at (d := 0) e6, of_decide_eq_true e3]
    · have := e2 i (by rw [e5]; exact List.mem_range.mpr hi)
      intro z
      apply this
      rw [List.getD_eq_getElem?_getD, z]
      exact decide_eq_true rfl
def R_best_linear : RX := fun ds Q E => match ds with
  | [.int z, fd] => (∃ n f, TabD z fd n f ∧ ∀ (m : Int) (j : Nat), m ∈ sgs n f → (∀ y, y ∈ sgs n f → y ≤ m) → (sgs n f)[j]? = some m → (∀ i, i < j → (sgs n f)[i]? ≠ some m) → Q (.fz (.int j))) ∨ Bad z E
  | _ => False
def w_best_linear : WS :=
    (wSeq (wSetF 2 (wCallX R_signs (wCons (wVar 0) (wCons (wVar 1) wNil))))
    (wRet (wBin wIx (wLc (wEnumT (wCons (wVar 2) wNil)) (wgTup 2 (wgCons (wgName 3) (wgCons (wgName 4) wgNil))) (wTest (wBin wEqI (wVar 4) (wCB wMaxTu (wCons (wVar 2) wNil)))) (wVar 3) [3, 4]) (wK (.int 0)))))
abbrev N_best_linear : List Str := ["n", "f", "found", "a", "sign"]
theorem v_best_linear (ds Q E') (h : R_best_linear ds Q E') : w_best_linear (endX Q E') (argD N_best_linear ds) := by
  unfold R_best_linear at h
  split at h
  · rename_i z fd
    rcases h with ⟨n, f, ⟨rfl, rfl, t⟩, h⟩ | ⟨hb, h⟩
    · refine .inl ⟨n, f, ⟨rfl, rfl, t⟩, ?_⟩
      have hp := t.p
      have hl : (sgs n f).length = f.length := sgs_len n f
      generalize sgs n f = l at h hl ⊢
      obtain ⟨m, m1, m2⟩ := maxi l (by omega)
      show LcP (enumD (l.map D.int)) _ _ _ _ _ _
      rw [enum_rng]
      refine LcP.filtL (ρw := [some (.fz (.int n)), some (.fz (.tup (f.map .int))), some (.fz (.tup (l.map .int))), none, none]) (fun i => decide (l.getD i 0 = m)) (fun i => .int i) (by rw [List.length_range, line]; omega) (by walk_at "wk") (fun i hi T S h1 h2 => ?_) ?_
      · refine ⟨rfl, l, ints_map l, by omega, fun m' h1' h2' => ?_⟩
        rw [max_uni m1 m2 h1' h2']
        refine ift_of (fun e => ?_) fun e => ?_
        · exact h1 e _ (by walk_at "wk")
        · exact h2 e _ (by walk_at "wk")
      · obtain ⟨j, r, e1, e2, e3⟩ := bests_cons m1
        refine ⟨.int j, ?_, trivial, h m j m1 m2 e2 e3⟩
        show atI ((bests l m).map _) ((0 : Nat) : Int) = _
        rw [atN (by rw [e1]; simp)]
        simp [e1]
    · exact .inr ⟨hb, h⟩
  · exact h.elim
end L2.DL.Q

/-! # VW79.lean -/
set_option Elab.async false
set_option linter.all false
set_option maxRecDepth 100000
set_option maxHeartbeats 1000000
namespace L2.DL.Q
open PySem PySem.Spec PyProof.Rows M79
local macro_rules | `(tactic| walk_at "wk") => `(tactic| (repeat' first | exact True.intro | exact rfl | apply And.intro))
local macro_rules | `(tactic| walk_at "om") => `(tactic| (first | omega | (dsimp only; omega) | (dsimp only at *; omega)))
/-! ## weights -/
abbrev rowD (l : List Int) : D := .tup (l.map .int)
structure Fd (n : Nat) (l : List Int) : Prop where
  n7 : n ≤ 7
  len : l.length = 2 ^ n
  bd : ∀ x, x ∈ l → -128 ≤ x ∧ x ≤ 128
theorem fd_of {n f} (t : Tab n f) : Fd n (sgs n f) := ⟨t.n7, by rw [sgs_len, t.len], fun x hx => by
  have := t.bd x hx
  have := t.p
  omega⟩
theorem Fd.p {n l} (F : Fd n l) : l.length ≤ 128 := by
  rw [F.len]
  have := Nat.pow_le_pow_right (n := 2) (by omega) F.n7
  omega
def R_is_beginning : RF := fun ds Q => ∃ (n : Nat) (beg : List Int), ds = [.int n, rowD beg] ∧ beg.length ≤ n ∧ Bits beg ∧ Q (.fz (.bl true))
def w_is_beginning : WS :=
    (wRet (wAndV (wCB (wIsiX xoc .tuple) (wCons (wVar 1) (wCons (wK (.ty "tuple")) wNil))) (wAndV (wBin wLe (wCB wLen (wCons (wVar 1) wNil)) (wVar 0)) (wCall R_row_below (wCons (wVar 1) (wCons (wCB wLen (wCons (wVar 1) wNil)) (wCons (wK (.int 2)) wNil)))))))
abbrev N_is_beginning : List Str := ["n", "value"]
theorem v_is_beginning (ds Q) (h : R_is_beginning ds Q) : w_is_beginning (endF Q) (argD N_is_beginning ds) := by
  obtain ⟨n, beg, rfl, hl, hb, h⟩ := h
  refine ⟨rfl, rfl, ?_⟩
  refine ift_t rfl ?_
  refine ift_d (fun _ => ?_) fun z => absurd z (by rw [List.length_map]; omega)
  refine ⟨rfl, px_ints, trivial, ?_⟩
  rw [rowBelow_ints (by rw [List.length_map]) hb]
  exact h
def R_weight_of : RF := fun ds Q => ∃ n l beg, ds = [.int (n : Nat), rowD l, rowD beg] ∧ Fd n l ∧ beg.length ≤ n ∧ Bits beg ∧ Q (.fz (.int (Wt n l beg)))
def w_weight_of : WS :=
    (wSeq (wSetF 3 (wK (.int 0)))
    (wSeq (wFor (wItT (wVar 2)) (wgName 4)
    (wSetF 3 (wBin wAdd (wBin wMul (wK (.int 2)) (wVar 3)) (wVar 4))))
    (wSeq (wSetF 5 (wBin wShl (wK (.int 1)) (wBin wSub (wVar 0) (wCB wLen (wCons (wVar 2) wNil)))))
    (wRet (wCB wSum (wCons (wLc (wItT (wSlT (wVar 1) (woSome (wBin wMul (wVar 3) (wVar 5))) (woSome (wBin wMul (wBin wAdd (wVar 3) (wK (.int 1))) (wVar 5))))) (wgName 6) wYes (wBin wMul (wVar 6) (wVar 6)) [6]) wNil))))))
abbrev N_weight_of : List Str := ["n", "found", "beginning", "first", "bit", "many", "sign"]
theorem shl2 {n m : Nat} (h : m ≤ n) : (1 : Int) * 2 ^ ((n : Int) - (m : Int)).toNat = ((2 ^ (n - m) : Nat) : Int) := by
  rw [Int.one_mul, show ((n : Int) - (m : Int)).toNat = n - m by omega, Int.natCast_pow]; rfl
theorem wlo_e {n : Nat} {beg : List Int} (hb : Bits beg) : val beg * ((2 ^ (n - beg.length) : Nat) : Int) = ((wlo n beg : Nat) : Int) := by
  unfold wlo
  rw [Int.natCast_mul, Int.toNat_of_nonneg (val0 hb)]
theorem whi_e {n : Nat} {beg : List Int} (hb : Bits beg) : (val beg + 1) * ((2 ^ (n - beg.length) : Nat) : Int) = ((whi n beg : Nat) : Int) := by
  unfold whi
  rw [Int.natCast_mul, Int.natCast_add, Int.toNat_of_nonneg (val0 hb)]; rfl
theorem mem_cut {α : Type} {l : List α} {a b : Nat} {x : α} (h : x ∈ (l.take b).drop a) : x ∈ l := List.mem_of_mem_take (List.mem_of_mem_drop h)
theorem len_cut {α : Type} {l : List α} {a b : Nat} : ((l.take b).drop a).length ≤ l.length := by
  rw [List.length_drop, List.length_take]; omega
theorem pow7 {a : Nat} (h : a ≤ 7) : 2 ^ a ≤ 128 := by
  have := Nat.pow_le_pow_right (n := 2) (by omega) h
  omega
theorem v_weight_of (ds Q) (h : R_weight_of ds Q) : w_weight_of (endF Q) (argD N_weight_of ds) := by
  obtain ⟨n, l, beg, rfl, F, hl, hb, h⟩ := h
  have h7 := F.n7
  have hp := F.p
  show ForP (beg.map D.int) _ _ _ _
  refine ForP.inv (fun pre s => s = val pre) (fun s => [some (.fz (.int n)), some (.fz (rowD l)), some (.fz (rowD beg)), some (.fz (.int s)), none, none, none]) 0 (by walk_at "wk") rfl (fun pre a post s e hj N hN => ?_) fun s hs => ?_
  · refine ⟨cmulL (by decide) (by decide), hN _ _ ?_ (by walk_at "wk")⟩
    rw [val_app, hj]
  · subst hs
    have hq := pow7 (show n - beg.length ≤ 7 by omega)
    refine ⟨⟨by rw [List.length_map]; omega, by rw [List.length_map]; omega, by decide⟩, ?_⟩
    have hq0 : (0 : Int) ≤ ((2 ^ (n - beg.length) : Nat) : Int) := Int.natCast_nonneg _
    rw [List.length_map, shl2 hl]
    refine ⟨cmulR (by omega) (by omega), cmulR (by omega) (by omega), ?_⟩
    rw [wlo_e hb, whi_e hb]
    show LcP (cutD (l.map D.int) (some (wlo n beg : Nat)) (some (whi n beg : Nat))) _ _ _ _ _ _
    rw [cut_ab, ← List.map_take, ← List.map_drop]
    refine LcP.mapL (ρw := [some (.fz (.int n)), some (.fz (rowD l)), some (.fz (rowD beg)), some (.fz (.int (val beg))), none, some (.fz (.int ((2 ^ (n - beg.length) : Nat) : Int))), none]) (fun s => .int (s * s)) ?_ (by walk_at "wk") (fun a ha T hT => ?_) ?_
    · have := len_cut (l := l) (a := wlo n beg) (b := whi n beg)
      rw [line]; omega
    · have := F.bd a (mem_cut ha)
      exact ⟨cmulL (by omega) (by omega), hT _ (by walk_at "wk")⟩
    · refine ⟨_, ints_of_map _ _, trivial, h⟩
def R_weight : RX := fun ds Q E => match ds with
  | [.int z, fd, bd] => (∃ n f beg, TabD z fd n f ∧ bd = rowD beg ∧ beg.length ≤ n ∧ Bits beg ∧ Q (.fz (.int (Wt n (sgs n f) beg)))) ∨ Bad z E
  | _ => False
def w_weight : WS :=
    (wSeq (wExpr (wCallX R_check_bits (wCons (wVar 0) (wCons (wVar 1) wNil))))
    (wSeq (wIfS (wNot (wTest (wCall R_is_beginning (wCons (wVar 0) (wCons (wVar 2) wNil)))))
    (wRaise "InvalidSubset" ["value"] (wCons (wVar 2) wNil))
    wNext)
    (wRet (wCall R_weight_of (wCons (wVar 0) (wCons (wCallX R_signs (wCons (wVar 0) (wCons (wVar 1) wNil))) (wCons (wVar 2) wNil)))))))
abbrev N_weight : List Str := ["n", "f", "beginning"]
theorem v_weight (ds Q E') (h : R_weight ds Q E') : w_weight (endX Q E') (argD N_weight ds) := by
  unfold R_weight at h
  split at h
  · rename_i z fd bd
    rcases h with ⟨n, f, beg, ⟨rfl, rfl, t⟩, rfl, hl, hb, h⟩ | hb
    · refine .inl ⟨n, f, ⟨rfl, rfl, t⟩, ?_⟩
      refine ⟨n, beg, rfl, hl, hb, ?_⟩
      refine ift_f rfl ?_
      refine .inl ⟨n, f, ⟨rfl, rfl, t⟩, ?_⟩
      exact ⟨n, _, beg, rfl, fd_of t, hl, hb, trivial, h⟩
    · exact .inr hb
  · exact h.elim
def R_check_near : RX := fun ds Q E => match ds with
  | [.int z, fd, .int t] => (∃ n f, TabD z fd n f ∧ 1 ≤ t ∧ t ≤ f.length ∧ Q (.fz .non)) ∨ Bad z E
  | _ => False
def w_check_near : WS :=
    (wSeq (wExpr (wCallX R_check_bits (wCons (wVar 0) (wCons (wVar 1) wNil))))
    (wIfS (wOr (wNot (wTest (wCall R_is_number (wCons (wVar 2) wNil)))) (wNot (wTest (wChain wLe wLe (wK (.int 1)) (wVar 2) (wCB wLen (wCons (wVar 1) wNil))))))
    (wRaise "InvalidNumber" ["value"] (wCons (wVar 2) wNil))
    wNext))
abbrev N_check_near : List Str := ["n", "f", "t"]
theorem v_check_near (ds Q E') (h : R_check_near ds Q E') : w_check_near (endX Q E') (argD N_check_near ds) := by
  unfold R_check_near at h
  split at h
  · rename_i z fd t
    rcases h with ⟨n, f, ⟨rfl, rfl, T⟩, t1, t2, h⟩ | hb
    · refine .inl ⟨n, f, ⟨rfl, rfl, T⟩, ?_⟩
      refine ⟨rfl, ?_⟩
      refine ift_n (fun z => absurd z (by omega)) fun _ => ?_
      refine ift_d (fun _ => ?_) fun z => absurd t1 z
      refine ift_n (fun z => absurd z (by rw [List.length_map]; omega)) fun _ => ?_
      exact h
    · exact .inr hb
  · exact h.elim
def nears (l : List Int) (t : Int) : List Nat := (List.range l.length).filter fun i => decide (t ≤ l.getD i 0)
def R_near_linear : RX := fun ds Q E => match ds with
  | [.int z, fd, .int t] => (∃ n f, TabD z fd n f ∧ 1 ≤ t ∧ t ≤ f.length ∧ Q (.fz (.tup ((nears (sgs n f) t).map fun i : Nat => D.int i)))) ∨ Bad z E
  | _ => False
def w_near_linear : WS :=
    (wSeq (wExpr (wCallX R_check_near (wCons (wVar 0) (wCons (wVar 1) (wCons (wVar 2) wNil)))))
    (wRet (wCB wTupleOf (wCons (wLc (wEnumT (wCons (wCallX R_signs (wCons (wVar 0) (wCons (wVar 1) wNil))) wNil)) (wgTup 2 (wgCons (wgName 3) (wgCons (wgName 4) wgNil))) (wTest (wBin wGe (wVar 4) (wVar 2))) (wVar 3) [3, 4]) wNil))))
abbrev N_near_linear : List Str := ["n", "f", "t", "a", "sign"]
theorem v_near_linear (ds Q E') (h : R_near_linear ds Q E') : w_near_linear (endX Q E') (argD N_near_linear ds) := by
  unfold R_near_linear at h
  split at h
  · rename_i z fd t
    rcases h with ⟨n, f, ⟨rfl, rfl, T⟩, t1, t2, h⟩ | hb
    · refine .inl ⟨n, f, ⟨rfl, rfl, T⟩, t1, t2, ?_⟩
      refine .inl ⟨n, f, ⟨rfl, rfl, T⟩, ?_⟩
      have hp := T.p
      have hl : (sgs n f).length = f.length := sgs_len n f
      generalize sgs n f = l at h hl ⊢
      show LcP (enumD (l.map D.int)) _ _ _ _ _ _
      rw [enum_rng]
      refine LcP.filtL (ρw := [some (.fz (.int n)), some (.fz (.tup (f.map .int))), some (.fz (.int t)), none, none]) (fun i => decide (t ≤ l.getD i 0)) (fun i => .int i) (by rw [List.length_range, line]; omega) (by walk_at "wk") (fun i hi T S h1 h2 => ?_) ?_
      · refine ⟨rfl, ?_⟩
        refine ift_of (fun e => ?_) fun e => ?_
        · exact h1 e _ (by walk_at "wk")
        · exact h2 e _ (by walk_at "wk")
      · exact ⟨trivial, h⟩
    · exact .inr hb
  · exact h.elim

/-! ## certificates -/
def pd (p : Pr) : D := .tup [rowD p.1, .int p.2]
def levD (ps : List Pr) : D := .tup (ps.map pd)
def certDs (n : Nat) (l : List Int) (t : Int) (k : Nat) : List D := (List.range k).map fun k => levD (lev n l t k)
def certD (n : Nat) (l : List Int) (t : Int) : D := .tup (certDs n l t (n + 1))
theorem atI_last (xs : List D) (x : D) : atI (xs ++ [x]) (-1) = some x := by
  have : ixN (xs.length + 1) (-1) = some xs.length := by
    unfold ixN
    rw [if_neg (by omega)]
    first | (rw [if_pos (by omega)]; congr 1; omega) | (simp; omega)
  unfold L2.atI
  simp [this]

def R_near_certificate : RX := fun ds Q E => match ds with
  | [.int z, fd, .int t] => (∃ n f, TabD z fd n f ∧ 1 ≤ t ∧ t ≤ f.length ∧ Q (.fz (certD n (sgs n f) t))) ∨ Bad z E
  | _ => False
def w_near_certificate : WS :=
    (wSeq (wExpr (wCallX R_check_near (wCons (wVar 0) (wCons (wVar 1) (wCons (wVar 2) wNil)))))
    (wSeq (wSetF 3 (wCallX R_signs (wCons (wVar 0) (wCons (wVar 1) wNil))))
    (wSeq (wSet 4 (wLst (wCons (wTup (wCons (wTup (wCons (wTup wNil) (wCons (wCall R_weight_of (wCons (wVar 0) (wCons (wVar 3) (wCons (wTup wNil) wNil)))) wNil))) wNil)) wNil)))
    (wSeq (wFor (wRng1 (wCons (wVar 0) wNil)) (wgName 5)
    (wSeq (wSet 6 (wLst wNil))
    (wSeq (wFor (wItT (wIxM 4 (wNeg (wK (.int 1))))) (wgTup 2 (wgCons (wgName 7) (wgCons (wgName 8) wgNil)))
    (wIfS (wTest (wBin wGe (wVar 8) (wBin wMul (wVar 2) (wVar 2))))
    (wExtL 6 (wLc (wItT (wTup (wCons (wK (.int 0)) (wCons (wK (.int 1)) wNil)))) (wgName 9) wYes (wTup (wCons (wBin wCatT (wVar 7) (wTup (wCons (wVar 9) wNil))) (wCons (wCall R_weight_of (wCons (wVar 0) (wCons (wVar 3) (wCons (wBin wCatT (wVar 7) (wTup (wCons (wVar 9) wNil))) wNil)))) wNil))) [9]))
    wNext))
    (wApp 4 (wCB wTupleOf (wCons (wFrz 6) wNil))))))
    (wRet (wCB wTupleOf (wCons (wFrz 4) wNil)))))))
abbrev N_near_certificate : List Str := ["n", "f", "t", "found", "levels", "_", "level", "beginning", "heavy", "bit"]
theorem certDs_succ (n l t k) : certDs n l t (k + 1) = certDs n l t k ++ [levD (lev n l t k)] := by unfold certDs; rw [map_succ]
theorem pd_app (q : List Int) (b w : Int) : pd (q ++ [b], w) = .tup [.tup (q.map .int ++ [.int b]), .int w] := by simp [pd, rowD]
theorem kids_yes {n l t p} (h : t * t ≤ p.2) : kids n l t p = [((p.1 ++ [0], Wt n l (p.1 ++ [0])) : Pr), (p.1 ++ [1], Wt n l (p.1 ++ [1]))] := by unfold kids; rw [if_pos h]
theorem kids_no {n l t p} (h : ¬ t * t ≤ p.2) : kids n l t p = [] := by unfold kids; rw [if_neg h]
theorem v_near_certificate (ds Q E') (h : R_near_certificate ds Q E') : w_near_certificate (endX Q E') (argD N_near_certificate ds) := by
  unfold R_near_certificate at h
  split at h
  · rename_i z fd t
    rcases h with ⟨n, f, ⟨rfl, rfl, T⟩, t1, t2, h⟩ | hb
    · refine .inl ⟨n, f, ⟨rfl, rfl, T⟩, t1, t2, ?_⟩
      refine .inl ⟨n, f, ⟨rfl, rfl, T⟩, ?_⟩
      have hp := T.p
      have F := fd_of T
      have h7 := T.n7
      have hsz := sizeLine_eq
      generalize sgs n f = l at h F ⊢
      refine ⟨by show (0 : Nat) ≤ sizeLine; omega, by show (0 : Nat) ≤ sizeLine; omega, n, l, [], rfl, F, Nat.zero_le _, fun x hx => absurd hx (by simp), ?_⟩
      refine ⟨by show (2 : Nat) ≤ sizeLine; omega, by show (1 : Nat) ≤ sizeLine; omega, by show (1 : Nat) ≤ sizeLine; omega, ?_⟩
      refine ⟨by omega, by omega, ?_⟩
      rw [rng0, Int.toNat_natCast]
      refine ForP.rangeF (fun k ρ => ρ = [some (.fz (.int n)), some (.fz (rowD f)), some (.fz (.int t)), some (.fz (rowD l)), some (.mu true (.lst (certDs n l t (k + 1)))), none, none, none, none, none]) ⟨_, by walk_at "wk", rfl⟩ ?_ ?_
      · rintro k ρ' hk rfl
        have hlv := lev_len n l t k
        have hq := pow7 (show k ≤ 7 by omega)
        refine ⟨by show (0 : Nat) ≤ sizeLine; omega, trivial, levD (lev n l t k), by rw [certDs_succ, atI_last], ?_⟩
        show ForP ((lev n l t k).map pd) _ _ _ _
        refine ForP.inv (fun pre s => s = pre.flatMap (kids n l t)) (fun s => [some (.fz (.int n)), some (.fz (rowD f)), some (.fz (.int t)), some (.fz (rowD l)), some (.mu true (.lst (certDs n l t (k + 1)))), none, some (.mu true (.lst (s.map pd))), none, none, none]) [] (by walk_at "wk") rfl (fun pre p post s e hj N hN => ?_) fun s hs => ?_
        · obtain ⟨hpl, hpb⟩ := lev_mem (mem_post e)
          have hlt := pre_lt e
          have hfl := flat_len n l t pre
          refine ⟨rfl, cmulL (by omega) (by omega), ?_⟩
          refine ift_d (fun hh => ?_) fun hh => ?_
          · refine ⟨trivial, by show (2 : Nat) ≤ sizeLine; omega, ?_⟩
            show LcP ([0, 1].map D.int) _ _ _ _ _ _
            refine LcP.mapL (ρw := [some (.fz (.int n)), some (.fz (rowD f)), some (.fz (.int t)), some (.fz (rowD l)), some (.mu true (.lst (certDs n l t (k + 1)))), none, some (.mu true (.lst (s.map pd))), some (.fz (rowD p.1)), some (.fz (.int p.2)), none]) (fun b => pd (p.1 ++ [b], Wt n l (p.1 ++ [b]))) (by show (2 : Nat) ≤ sizeLine; omega) (by walk_at "wk") (fun b hb TT hT => ?_) ?_
            · have hbb : 0 ≤ b ∧ b < 2 := by
                simp only [List.mem_cons, List.mem_nil_iff, or_false] at hb
                rcases hb with rfl | rfl <;> omega
              refine ⟨by show (1 : Nat) ≤ sizeLine; omega, by rw [List.length_map]; show _ + 1 ≤ _; omega, by show (1 : Nat) ≤ sizeLine; omega, by rw [List.length_map]; show _ + 1 ≤ _; omega, ?_⟩
              refine ⟨n, l, p.1 ++ [b], by simp, F, by simp; omega, bits_app hpb hbb, by show (2 : Nat) ≤ sizeLine; omega, ?_⟩
              rw [pd_app] at hT
              exact hT _ (by walk_at "wk")
            · refine ⟨by show (s.map pd).length + 2 ≤ sizeLine; rw [List.length_map, hj]; omega, hN (s ++ [((p.1 ++ [0], Wt n l (p.1 ++ [0])) : Pr), (p.1 ++ [1], Wt n l (p.1 ++ [1]))]) _ ?_ ?_⟩
              · rw [List.flatMap_append, hj, List.flatMap_cons, List.flatMap_nil, kids_yes hh, List.append_nil]
              · rw [List.map_append]
                walk_at "wk"
          · refine hN _ _ ?_ (by walk_at "wk")
            rw [List.flatMap_append, hj, List.flatMap_cons, List.flatMap_nil, kids_no hh]
            simp
        · subst hs
          refine ⟨by unfold certDs; rw [List.length_map, List.length_range]; omega, _, ?_, rfl⟩
          rw [certDs_succ n l t (k + 1)]
          walk_at "wk"
      · rintro ρ' rfl
        exact ⟨trivial, h⟩
    · exact .inr hb
  · exact h.elim
end L2.DL.Q

/-! # VX79.lean -/
set_option Elab.async false
set_option linter.all false
set_option maxRecDepth 100000
set_option maxHeartbeats 1000000
namespace L2.DL.Q
open PySem PySem.Spec PyProof.Rows M79
local macro_rules | `(tactic| walk_at "wk") => `(tactic| (repeat' first | exact True.intro | exact rfl | apply And.intro))
local macro_rules | `(tactic| walk_at "om") => `(tactic| (first | omega | (dsimp only; omega) | (dsimp only at *; omega)))
/-! ## is a level -/
def DP : Nat → D → Prop
  | 0, d => PX d
  | k + 1, d => PX d ∧ ∀ ds, d = .tup ds → ∀ x, x ∈ ds → DP k x
theorem DP.px : ∀ {k d}, DP k d → PX d
  | 0, _, h => h
  | _ + 1, _, h => h.1
theorem DP.el {k : Nat} {ds : List D} (h : DP (k + 1) (.tup ds)) : ∀ x, x ∈ ds → DP k x := h.2 ds rfl
theorem DP.not {d : D} (h : PX d) (hn : ∀ ds, d ≠ .tup ds) : ∀ k, DP k d
  | 0 => h
  | _ + 1 => ⟨h, fun ds e => absurd e (hn ds)⟩
theorem DP.tup {k : Nat} {ds : List D} (h : ∀ x, x ∈ ds → DP k x) : DP (k + 1) (.tup ds) := ⟨rfl, fun es e => by cases e; exact h⟩
theorem DP.int {i : Int} (k) : DP k (.int i) := DP.not rfl (fun _ h => by cases h) k
def isPair (k : Int) (d : D) : Bool := match d with
  | .tup [a, b] => isInt b && rowBelow a k 2
  | _ => false
def isLevel (k : Int) (v : D) : Bool := match v with
  | .tup ds => ds.all (isPair k)
  | _ => false
def R_is_level : RF := fun ds Q => match ds with
  | [v, .int k] => DP 3 v ∧ Q (.fz (.bl (isLevel k v)))
  | _ => False
def w_is_level : WS :=
    (wSeq (wIfS (wNot (wTest (wCB (wIsiX xoc .tuple) (wCons (wVar 0) (wCons (wK (.ty "tuple")) wNil)))))
    (wRet (wK (.bl false)))
    wNext)
    (wSeq (wFor (wItT (wVar 0)) (wgName 2)
    (wSeq (wIfS (wOr (wNot (wTest (wCB (wIsiX xoc .tuple) (wCons (wVar 2) (wCons (wK (.ty "tuple")) wNil))))) (wOr (wTest (wBin wNeI (wCB wLen (wCons (wVar 2) wNil)) (wK (.int 2)))) (wNot (wTest (wCall R_is_integer (wCons (wBin wIx (wVar 2) (wK (.int 1))) wNil))))))
    (wRet (wK (.bl false)))
    wNext)
    (wIfS (wNot (wTest (wCall R_row_below (wCons (wBin wIx (wVar 2) (wK (.int 0))) (wCons (wVar 1) (wCons (wK (.int 2)) wNil))))))
    (wRet (wK (.bl false)))
    wNext)))
    (wRet (wK (.bl true)))))
abbrev N_is_level : List Str := ["value", "length", "pair"]
theorem pair_len {k : Int} {ds : List D} (h : ¬ (ds.length : Int) = 2) : isPair k (.tup ds) = false := by
  match ds, h with
  | [], _ => rfl
  | [_], _ => rfl
  | [_, _], h => exact absurd rfl h
  | _ :: _ :: _ :: _, _ => rfl
theorem isLevel_f {k : Int} {ds : List D} {i : Nat} (hi : i < ds.length) (h : isPair k ds[i] = false) : isLevel k (.tup ds) = false := by
  show ds.all (isPair k) = false
  rw [List.all_eq_false]
  exact ⟨_, List.getElem_mem hi, by rw [h]; decide⟩
theorem v_is_level (ds Q) (h : R_is_level ds Q) : w_is_level (endF Q) (argD N_is_level ds) := by
  match ds, h with
  | [v, .int k], ⟨hp, h⟩ =>
    refine ⟨rfl, hp.px, ?_⟩
    by_cases hv : ∃ ds, v = .tup ds
    · obtain ⟨ds, rfl⟩ := hv
      refine ift_f rfl ?_
      refine ForP.byI (fun i ρ => ρ = [some (.fz (.tup ds)), some (.fz (.int k)), none] ∧ ∀ j (hj : j < ds.length), j < i → isPair k ds[j] = true) ⟨_, by walk_at "wk", rfl, fun j _ hj => absurd hj (by omega)⟩ ?_ ?_
      · rintro i ρ' hi ⟨rfl, hj⟩
        have hd := hp.el _ (List.getElem_mem hi)
        have hf := isLevel_f (k := k) hi
        have ht : isPair k ds[i] = true → ∀ j (hj : j < ds.length), j < i + 1 → isPair k ds[j] = true := fun e j hj' hji => by
          by_cases ej : j = i
          · subst ej; exact e
          · exact hj j hj' (by omega)
        generalize ds[i] = d at hd hf ht ⊢
        refine ⟨rfl, hd.px, ?_⟩
        by_cases hv : ∃ es, d = .tup es
        · obtain ⟨es, rfl⟩ := hv
          refine ift_f rfl ?_
          refine ift_n (fun hl => ⟨trivial, ?_⟩) fun hl => ?_
          · have := hf (pair_len hl)
            rw [this] at h; exact h
          · match es, hl with
            | [a, b], _ =>
              refine ⟨b, rfl, (hd.el b (by simp)).px, ?_⟩
              cases hb : isInt b with
              | false =>
                have := hf (show (isInt b && rowBelow a k 2) = false by rw [hb]; rfl)
                rw [this] at h; exact ⟨trivial, h⟩
              | true =>
                have ha := hd.el a (by simp)
                refine ⟨a, rfl, ha.px, fun xs e x hx => ?_, ?_⟩
                · subst e
                  exact (ha.el x hx).px
                · cases hr : rowBelow a k 2 with
                  | false =>
                    have := hf (show (isInt b && rowBelow a k 2) = false by rw [hr, Bool.and_false])
                    rw [this] at h; exact ⟨trivial, h⟩
                  | true =>
                    refine ⟨_, by walk_at "wk", rfl, ht ?_⟩
                    show (isInt b && rowBelow a k 2) = true
                    rw [hb, hr]; rfl
        · have e : d.isT .tuple = false := by
            cases d <;> first | rfl | exact absurd ⟨_, rfl⟩ hv
          have e2 : isPair k d = false := by
            cases d <;> first | rfl | exact absurd ⟨_, rfl⟩ hv
          refine ift_t (by rw [e]; rfl) ⟨trivial, ?_⟩
          rw [hf e2] at h; exact h
      · rintro ρ' ⟨rfl, hj⟩
        have : isLevel k (.tup ds) = true := by
          show ds.all (isPair k) = true
          rw [List.all_eq_true]
          intro d hd
          obtain ⟨j, hj', rfl⟩ := List.getElem_of_mem hd
          exact hj j hj' hj'
        rw [this] at h
        exact ⟨trivial, h⟩
    · have e : v.isT .tuple = false := by
        cases v <;> first | rfl | exact absurd ⟨_, rfl⟩ hv
      have e2 : isLevel k v = false := by
        cases v <;> first | rfl | exact absurd ⟨_, rfl⟩ hv
      refine ift_t (by rw [e]; rfl) ⟨trivial, ?_⟩
      rw [e2] at h; exact h
/-! ## the certificate holds where it is the one that is due -/
noncomputable def eqb (a b : D) : Bool := @decide (a = b) (Classical.propDecidable _)
theorem eqb_t {a b : D} (h : a = b) : eqb a b = true := by unfold eqb; exact @decide_eq_true _ (_) h
theorem eqb_f {a b : D} (h : a ≠ b) : eqb a b = false := by unfold eqb; exact @decide_eq_false _ (_) h
abbrev CT := Tu (Tu (Tu Int × Int))
theorem da_inj {α : Type} [DecidableEq α] [Da α] {a b : α} (h : (Da.d a : D) = Da.d b) : a = b := by
  have h1 := Da.dp a
  rw [h, Da.dp b] at h1
  have h2 : (Da.p b : PyData) = Da.p a := Option.some.inj h1
  have h3 := Da.eqv a b
  rw [← h2] at h3
  have h4 := Da.eqv b b
  rw [decide_eq_true rfl] at h4
  exact of_decide_eq_true (h3.symm.trans h4)
theorem deq_eqb {α : Type} [DecidableEq α] [Da α] (h : Da.dep α ≤ 64) (a b : α) : DEq (Da.d a) (Da.d b) (eqb (Da.d a) (Da.d b)) := by
  have := deq h a b
  by_cases e : a = b
  · rw [eqb_t (by rw [e])]
    rwa [decide_eq_true e] at this
  · rw [eqb_f (fun z => e (da_inj z))]
    rwa [decide_eq_false e] at this
theorem row_ints {a : D} {k b : Int} (h : rowBelow a k b = true) : ∃ xs : Tu Int, a = Da.d xs := by
  have ⟨ds, e⟩ : ∃ ds, a = .tup ds := by
    cases a <;> first | exact ⟨_, rfl⟩ | cases h
  subst e
  simp only [rowBelow, Bool.and_eq_true, List.all_eq_true] at h
  obtain ⟨_, h⟩ := h
  suffices ∀ ds : List D, (∀ d, d ∈ ds → below d b = true) → ∃ xs : List Int, ds = xs.map D.int by
    obtain ⟨xs, rfl⟩ := this ds h
    exact ⟨⟨xs⟩, rfl⟩
  intro ds
  induction ds with
  | nil => exact fun _ => ⟨[], rfl⟩
  | cons d ds ih =>
    intro h
    obtain ⟨xs, rfl⟩ := ih fun x hx => h x (by simp [hx])
    have := h d (by simp)
    cases d <;> first | exact ⟨_ :: xs, rfl⟩ | cases this
theorem all_da {α : Type} [DecidableEq α] [Da α] : ∀ {ds : List D}, (∀ d, d ∈ ds → ∃ a : α, d = Da.d a) → ∃ t : Tu α, D.tup ds = Da.d t
  | [], _ => ⟨⟨[]⟩, rfl⟩
  | d :: ds, h => by
    obtain ⟨⟨l⟩, e⟩ := all_da (ds := ds) fun x hx => h x (by simp [hx])
    obtain ⟨a, rfl⟩ := h d (by simp)
    have e : ds = l.map Da.d := D.tup.inj e
    exact ⟨⟨a :: l⟩, by rw [e]; rfl⟩
theorem pair_da {k : Int} {d : D} (h : isPair k d = true) : ∃ p : Tu Int × Int, d = Da.d p := by
  unfold isPair at h
  split at h
  · rename_i a b
    rw [Bool.and_eq_true] at h
    obtain ⟨xs, rfl⟩ := row_ints h.2
    have h1 := h.1
    have ⟨i, e⟩ : ∃ i, b = .int i := by
      cases b <;> first | exact ⟨_, rfl⟩ | cases h1
    subst e
    exact ⟨(xs, i), rfl⟩
  · cases h
theorem level_da {k : Int} {d : D} (h : isLevel k d = true) : ∃ t : Tu (Tu Int × Int), d = Da.d t := by
  unfold isLevel at h
  split at h
  · rw [List.all_eq_true] at h
    exact all_da fun d hd => pair_da (h d hd)
  · cases h
theorem lev_ok {n l t k} : isLevel (k : Nat) (levD (lev n l t k)) = true := by
  show ((lev n l t k).map pd).all (isPair (k : Nat)) = true
  rw [List.all_eq_true]
  intro d hd
  obtain ⟨p, hp, rfl⟩ := List.mem_map.mp hd
  obtain ⟨h1, h2⟩ := lev_mem hp
  show (true && rowBelow (rowD p.1) k 2) = true
  rw [rowBelow_ints (by rw [h1]) h2]; rfl
theorem cert_da (n l t) : ∃ c : CT, certD n l t = Da.d c := all_da fun d hd => by
  obtain ⟨k, _, rfl⟩ := List.mem_map.mp hd
  exact level_da (lev_ok (k := k))
theorem cert_get {n l t m i} (h : i < (certDs n l t m).length) : (certDs n l t m)[i] = levD (lev n l t i) := by simp [certDs]
def R_near_certificate_holds : RX := fun ds Q E => match ds with
  | [.int z, fd, .int t, c] => (∃ n f, TabD z fd n f ∧ 1 ≤ t ∧ t ≤ f.length ∧ DP 4 c ∧ Q (.fz (.bl (eqb c (certD n (sgs n f) t))))) ∨ Bad z E
  | _ => False
def w_near_certificate_holds : WS :=
    (wSeq (wSetF 4 (wCallX R_near_certificate (wCons (wVar 0) (wCons (wVar 1) (wCons (wVar 2) wNil)))))
    (wSeq (wIfS (wOr (wNot (wTest (wCB (wIsiX xoc .tuple) (wCons (wVar 3) (wCons (wK (.ty "tuple")) wNil))))) (wTest (wBin wNeI (wCB wLen (wCons (wVar 3) wNil)) (wCB wLen (wCons (wVar 4) wNil)))))
    (wRet (wK (.bl false)))
    wNext)
    (wRet (wAndV (wCB wAll (wCons (wLc (wEnumT (wCons (wVar 3) wNil)) (wgTup 2 (wgCons (wgName 5) (wgCons (wgName 6) wgNil))) wYes (wCall R_is_level (wCons (wVar 6) (wCons (wVar 5) wNil))) [5, 6]) wNil)) (wBin (wEq false) (wVar 3) (wVar 4))))))
abbrev N_near_certificate_holds : List Str := ["n", "f", "t", "certificate", "due", "length", "level"]
theorem v_near_certificate_holds (ds Q E') (h : R_near_certificate_holds ds Q E') : w_near_certificate_holds (endX Q E') (argD N_near_certificate_holds ds) := by
  unfold R_near_certificate_holds at h
  split at h
  · rename_i z fd t c
    rcases h with ⟨n, f, ⟨rfl, rfl, T⟩, t1, t2, hc, h⟩ | hb
    · refine .inl ⟨n, f, ⟨rfl, rfl, T⟩, t1, t2, ?_⟩
      have h7 := T.n7
      have hsz := sizeLine_eq
      generalize sgs n f = l at h ⊢
      refine ⟨rfl, hc.px, ?_⟩
      by_cases hv : ∃ ds, c = .tup ds
      · obtain ⟨ds, rfl⟩ := hv
        refine ift_f rfl ?_
        have hdl : (certDs n l t (n + 1)).length = n + 1 := by unfold certDs; simp
        refine ift_n (fun hl => ⟨trivial, ?_⟩) fun hl => ?_
        · rw [eqb_f (fun e => hl (by rw [D.tup.inj e]))] at h
          exact h
        · rw [hdl] at hl
          show LcP (ds.zipIdx.map fun x => .tup [.int (x.2 : Nat), x.1]) _ _ _ _ _ _
          refine LcP.mapL (ρw := [some (.fz (.int n)), some (.fz (rowD f)), some (.fz (.int t)), some (.fz (.tup ds)), some (.fz (certD n l t)), none, none]) (fun x => .bl (isLevel (x.2 : Nat) x.1)) (by rw [List.length_zipIdx]; omega) (by walk_at "wk") (fun x hx TT hT => ?_) ?_
          · obtain ⟨hi, e⟩ := mem_zipIdx' hx
            exact ⟨rfl, by rw [e]; exact hc.el _ (List.getElem_mem hi), hT _ (by walk_at "wk")⟩
          · refine ⟨_, bls_of_map _ _, ?_⟩
            refine ift_of (fun e => ?_) fun e => ⟨trivial, ?_⟩
            · obtain ⟨c0, hc0⟩ := cert_da n l t
              have hall : ∀ d, d ∈ ds → ∃ a : Tu (Tu Int × Int), d = Da.d a := fun d hd => by
                obtain ⟨i, hi, rfl⟩ := List.getElem_of_mem hd
                rw [List.all_eq_true] at e
                exact level_da (k := (i : Nat)) (e _ (List.mem_map.mpr ⟨(ds[i], i), by rw [List.mem_iff_getElem]; exact ⟨i, by simpa using hi, by simp⟩, rfl⟩))
              obtain ⟨c1, hc1⟩ := all_da hall
              refine ⟨_, ?_, trivial, h⟩
              rw [hc0, hc1]
              exact deq_eqb (by decide) c1 c0
            · rw [eqb_f (fun z => ?_)] at h
              · exact h
              · have z : ds = certDs n l t (n + 1) := D.tup.inj z
                subst z
                rw [List.all_eq_false] at e
                obtain ⟨b, hb, hbf⟩ := e
                obtain ⟨x, hx, rfl⟩ := List.mem_map.mp hb
                obtain ⟨hi, e⟩ := mem_zipIdx' hx
                apply hbf
                show isLevel _ _ = true
                rw [e, cert_get hi]
                exact lev_ok
      · have e : c.isT .tuple = false := by
          cases c <;> first | rfl | exact absurd ⟨_, rfl⟩ hv
        refine ift_t (by rw [e]; rfl) ⟨trivial, ?_⟩
        rw [eqb_f (b := certD n l t) (fun e => hv ⟨_, e⟩)] at h; exact h
    · exact .inr hb
  · exact h.elim
end L2.DL.Q

/-! # VY79.lean -/
set_option Elab.async false
set_option linter.all false
set_option maxRecDepth 100000
set_option maxHeartbeats 1000000
namespace L2.DL.Q
open PySem PySem.Spec PyProof.Rows M79
local macro_rules | `(tactic| walk_at "wk") => `(tactic| (repeat' first | exact True.intro | exact rfl | apply And.intro))
local macro_rules | `(tactic| walk_at "om") => `(tactic| (first | omega | (dsimp only; omega) | (dsimp only at *; omega)))
def R_Share_init : RB := fun c ds Q => ∃ v, ds = [.int v, .int 1] ∧ c = .ins "Share" [] ∧ ∀ fs, Q (.fz .non) (.ins "Share" fs)
def w_Share_init : WS :=
    (wSeq (wIfS (wNot (wTest (wCall R_is_integer (wCons (wVar 1) wNil))))
    (fun _ _ => False)
    wNext)
    (wSeq (wIfS (wOr (wNot (wTest (wCall R_is_integer (wCons (wVar 2) wNil)))) (wTest (wBin wLt (wVar 2) (wK (.int 1)))))
    (fun _ _ => False)
    wNext)
    (wSeq (wSetF 3 (wCB wGcd (wCons (wVar 1) (wCons (wVar 2) wNil))))
    (wSeq (wFldS 0 "Share" "top" (wBin wDiv (wVar 1) (wVar 3)))
    (wFldS 0 "Share" "bottom" (wBin wDiv (wVar 2) (wVar 3)))))))
abbrev N_Share_init : List Str := ["self", "top", "bottom", "divisor"]
theorem v_Share_init (c ds Q) (h : R_Share_init c ds Q) : w_Share_init (endB Q) (argB N_Share_init c ds) := by
  obtain ⟨v, rfl, rfl, h⟩ := h
  refine ⟨rfl, ift_f rfl ?_⟩
  refine ⟨rfl, ift_f rfl ?_⟩
  have e : ((Nat.gcd v.natAbs (Int.natAbs 1) : Nat) : Int) = 1 := by
    rw [show Int.natAbs 1 = 1 from rfl, Nat.gcd_one_right]; rfl
  refine ⟨?_, rfl, by show 0 < 1000; omega, ?_, rfl, by show 1 < 1000; omega, _, rfl, h _⟩ <;> (rw [e]; exact ⟨by omega, by omega⟩)
def R__law_size : RF := fun ds Q => ∃ n : Nat, ds = [.int n] ∧ n ≤ 7 ∧ Q (.fz (.int (2 ^ n : Nat)))
def w__law_size : WS :=
    (wSeq (wSetF 1 (wK (.int 1)))
    (wSeq (wFor (wRng1 (wCons (wVar 0) wNil)) (wgName 2)
    (wSetF 1 (wBin wMul (wK (.int 2)) (wVar 1))))
    (wRet (wVar 1))))
abbrev N__law_size : List Str := ["n", "size", "k"]
theorem v__law_size (ds Q) (h : R__law_size ds Q) : w__law_size (endF Q) (argD N__law_size ds) := by
  obtain ⟨n, rfl, hn, h⟩ := h
  refine ⟨by omega, by omega, ?_⟩
  rw [rng0, Int.toNat_natCast]
  refine ForP.rangeF (fun k ρ => ρ = [some (.fz (.int n)), some (.fz (.int ((2 ^ k : Nat) : Int))), none]) ⟨_, by walk_at "wk", rfl⟩ ?_ ?_
  · rintro k ρ' hk rfl
    refine ⟨cmulL (by decide) (by decide), _, ?_, rfl⟩
    rw [← pow_s]
    walk_at "wk"
  · rintro ρ' rfl
    exact ⟨trivial, h⟩
def bitD (x : Int) : Int := x % 2
theorem bit_b (x : Int) : 0 ≤ x % 2 ∧ x % 2 < 2 := ⟨Int.emod_nonneg _ (by decide), Int.emod_lt_of_pos _ (by decide)⟩
def R__law_bits : RF := fun ds Q => ∃ (n : Nat) (x : Int), ds = [.int n, .int x] ∧ n ≤ 7 ∧ ∀ bits : List Int, bits.length = n → Bits bits → Q (.mu true (.lst (bits.map .int)))
def w__law_bits : WS :=
    (wSeq (wSet 2 (wLst wNil))
    (wSeq (wFor (wRng1 (wCons (wVar 0) wNil)) (wgName 3)
    (wSeq (wApp 2 (wBin wMod (wCB wInt1 (wCons (wVar 1) wNil)) (wK (.int 2))))
    (wSetF 1 (wBin wDiv (wVar 1) (wK (.int 2))))))
    (wSeq (wRevS 2)
    (wRet (wMov 2)))))
abbrev N__law_bits : List Str := ["n", "x", "bits", "k"]
theorem v__law_bits (ds Q) (h : R__law_bits ds Q) : w__law_bits (endF Q) (argD N__law_bits ds) := by
  obtain ⟨n, x, rfl, hn, h⟩ := h
  have hsz := sizeLine_eq
  refine ⟨by show (0 : Nat) ≤ sizeLine; omega, by omega, by omega, ?_⟩
  rw [rng0, Int.toNat_natCast]
  refine ForP.rangeF (fun k ρ => ∃ (x : Int) (bits : List Int), ρ = [some (.fz (.int n)), some (.fz (.int x)), some (.mu true (.lst (bits.map .int))), none] ∧ bits.length = k ∧ Bits bits) ⟨_, by walk_at "wk", x, [], rfl, rfl, fun _ h => absurd h (by simp)⟩ ?_ ?_
  · rintro k ρ' hk ⟨x, bits, rfl, hl, hb⟩
    refine ⟨by decide, by rw [List.length_map]; omega, ⟨by decide, by decide⟩, _, ?_, x / 2, bits ++ [x % 2], rfl, by simp [hl], bits_app hb (bit_b x)⟩
    rw [List.map_append]
    walk_at "wk"
  · rintro ρ' ⟨x, bits, rfl, hl, hb⟩
    show (DV.mine (.mu true (.lst (bits.map D.int).reverse))) ∧ Q (.mu true (.lst (bits.map D.int).reverse))
    rw [← List.map_reverse]
    exact ⟨rfl, h _ (by simp [hl]) fun y hy => hb y (List.mem_reverse.mp hy)⟩
theorem bits_get {l : List Int} (h : Bits l) (i : Nat) : 0 ≤ l.getD i 0 ∧ l.getD i 0 < 2 := by
  rw [List.getD_eq_getElem?_getD]
  by_cases hi : i < l.length
  · rw [List.getElem?_eq_getElem hi]; exact h _ (List.getElem_mem hi)
  · rw [List.getElem?_eq_none (by omega)]; decide
def R__law_linear : RF := fun ds Q => ∃ (n : Nat) (a : Int), ds = [.int n, .int a] ∧ n ≤ 7 ∧ ∀ row : List Int, row.length = 2 ^ n → Bits row → Q (.mu true (.lst (row.map .int)))
def w__law_linear : WS :=
    (wSeq (wSetF 2 (wCall R__law_bits (wCons (wVar 0) (wCons (wVar 1) wNil))))
    (wSeq (wSet 3 (wLst wNil))
    (wSeq (wFor (wRng1 (wCons (wCall R__law_size (wCons (wVar 0) wNil)) wNil)) (wgName 4)
    (wSeq (wSetF 5 (wCall R__law_bits (wCons (wVar 0) (wCons (wVar 4) wNil))))
    (wApp 3 (wBin wMod (wCB wInt1 (wCons (wCB wSum (wCons (wLc (wRng1 (wCons (wVar 0) wNil)) (wgName 6) wYes (wBin wMul (wBin wIx (wVar 2) (wVar 6)) (wBin wIx (wVar 5) (wVar 6))) [6]) wNil)) wNil)) (wK (.int 2))))))
    (wRet (wMov 3)))))
abbrev N__law_linear : List Str := ["n", "a", "one", "row", "x", "two", "k"]
theorem v__law_linear (ds Q) (h : R__law_linear ds Q) : w__law_linear (endF Q) (argD N__law_linear ds) := by
  obtain ⟨n, a, rfl, hn, h⟩ := h
  have hsz := sizeLine_eq
  have hp := pow7 hn
  refine ⟨n, a, rfl, hn, fun one ol ob => ?_⟩
  have hp0 := Nat.two_pow_pos n
  refine ⟨by show (0 : Nat) ≤ sizeLine; omega, n, rfl, hn, by omega, by omega, ?_⟩
  rw [rng0, Int.toNat_natCast]
  refine ForP.rangeF (fun k ρ => ∃ (row : List Int), ρ = [some (.fz (.int n)), some (.fz (.int a)), some (.fz (.lst (one.map .int))), some (.mu true (.lst (row.map .int))), none, none, none] ∧ row.length = k ∧ Bits row) ⟨_, by walk_at "wk", [], rfl, rfl, fun _ h => absurd h (by simp)⟩ ?_ ?_
  · rintro k ρ' hk ⟨row, rfl, hl, hb⟩
    refine ⟨n, k, rfl, hn, fun two tl tb => ?_⟩
    refine ⟨by omega, by omega, ?_⟩
    rw [rng0, Int.toNat_natCast]
    refine LcP.mapL (ρw := [some (.fz (.int n)), some (.fz (.int a)), some (.fz (.lst (one.map .int))), some (.mu true (.lst (row.map .int))), some (.fz (.int k)), some (.fz (.lst (two.map .int))), none]) (fun i : Nat => .int (one.getD i 0 * two.getD i 0)) (by rw [List.length_range]; omega) (by walk_at "wk") (fun i hi T hT => ?_) ?_
    · have hi := List.mem_range.mp hi
      have h1 := bits_get ob i
      refine ⟨_, atG (by omega) (by omega), _, atG (by omega) (by omega), cmulL (by rw [Int.toNat_natCast]; omega) (by rw [Int.toNat_natCast]; omega), ?_⟩
      exact hT _ (by walk_at "wk")
    · refine ⟨_, ints_of_map _ _, by decide, by rw [List.length_map]; omega, ?_⟩
      generalize ((List.range n).map fun i => one.getD i 0 * two.getD i 0).sum = s
      refine ⟨_, ?_, row ++ [s % 2], rfl, by simp [hl], bits_app hb (bit_b s)⟩
      rw [List.map_append]
      walk_at "wk"
  · rintro ρ' ⟨row, rfl, hl, hb⟩
    exact ⟨rfl, h row hl hb⟩

def R__law_table : RB := fun c ds Q => ∃ n : Nat, ds = [.int n] ∧ 1 ≤ n ∧ n ≤ 7 ∧ FeedOk c ∧ ∀ (row : List Int) c', row.length = 2 ^ n → Bits row → FeedOk c' → Q (.mu true (.lst (row.map .int))) c'
def w__law_table : WS :=
    (wSeq (wSetF 2 (wCall R__law_size (wCons (wVar 1) wNil)))
    (wSeq (wSetF 3 (wCallL R__law_draw 0 (wCons (wK (.int 6)) wNil)))
    (wSeq (wIfS (wTest (wBin wEqI (wVar 3) (wK (.int 0))))
    (wRet (wLc (wRng1 (wCons (wVar 2) wNil)) (wgName 6) wYes (wCallL R__law_draw 0 (wCons (wK (.int 2)) wNil)) [6]))
    wNext)
    (wSeq (wIfS (wTest (wBin wEqI (wVar 3) (wK (.int 1))))
    (wSeq (wSetF 4 (wCallL R__law_draw 0 (wCons (wK (.int 2)) wNil)))
    (wRet (wLc (wRng1 (wCons (wVar 2) wNil)) (wgName 6) wYes (wVar 4) [6])))
    wNext)
    (wSeq (wSet 5 (wCall R__law_linear (wCons (wVar 1) (wCons (wCallL R__law_draw 0 (wCons (wVar 2) wNil)) wNil))))
    (wSeq (wIfS (wTest (wBin wEqI (wVar 3) (wK (.int 2))))
    (wSeq (wFor (wRng1 (wCons (wVar 2) wNil)) (wgName 6)
    (wSeq (wSetF 7 (wCall R__law_bits (wCons (wVar 1) (wCons (wVar 6) wNil))))
    (wSetIx 5 (wVar 6) (wBin wMod (wCB wInt1 (wCons (wBin wAdd (wIxM 5 (wVar 6)) (wCB wSum (wCons (wLc (wRng3 (wCons (wK (.int 0)) (wCons (wBin wSub (wVar 1) (wK (.int 1))) (wCons (wK (.int 2)) wNil)))) (wgName 8) wYes (wBin wMul (wBin wIx (wVar 7) (wVar 8)) (wBin wIx (wVar 7) (wBin wAdd (wVar 8) (wK (.int 1))))) [8]) wNil))) wNil)) (wK (.int 2))))))
    (wRet (wMov 5)))
    wNext)
    (wSeq (wFor (wRng1 (wCons (wCallL R__law_draw 0 (wCons (wBin wIx (wLst (wCons (wK (.int 2)) (wCons (wK (.int 9)) (wCons (wK (.int 41)) wNil)))) (wBin wSub (wVar 3) (wK (.int 3)))) wNil)) wNil)) (wgName 8)
    (wSeq (wSetF 6 (wCallL R__law_draw 0 (wCons (wVar 2) wNil)))
    (wSetIx 5 (wVar 6) (wBin wSub (wK (.int 1)) (wIxM 5 (wVar 6))))))
    (wRet (wMov 5)))))))))
abbrev N__law_table : List Str := ["feed", "n", "size", "kind", "bit", "row", "x", "bits", "k"]
theorem set_bits {l : List Int} {j : Nat} {v : Int} (h : Bits l) (hv : 0 ≤ v ∧ v < 2) : Bits (l.set j v) := fun x hx => by
  rcases List.mem_or_eq_of_mem_set hx with hx | rfl
  · exact h x hx
  · exact hv
theorem rgc_two : ∀ n : Nat, 1 ≤ n → n ≤ 7 → RgC 0 ((n : Int) - 1) 2 (n / 2)
  | 0, h, _ => absurd h (by decide)
  | 1, _, _ => ⟨by decide, by decide, by decide, by decide⟩
  | 2, _, _ => ⟨by decide, by decide, by decide, by decide⟩
  | 3, _, _ => ⟨by decide, by decide, by decide, by decide⟩
  | 4, _, _ => ⟨by decide, by decide, by decide, by decide⟩
  | 5, _, _ => ⟨by decide, by decide, by decide, by decide⟩
  | 6, _, _ => ⟨by decide, by decide, by decide, by decide⟩
  | 7, _, _ => ⟨by decide, by decide, by decide, by decide⟩
  | n + 8, _, h => absurd h (by omega)
/-- a row of draws -/
theorem v__law_table (c ds Q) (h : R__law_table c ds Q) : w__law_table (endB Q) (argB N__law_table c ds) := by
  obtain ⟨n, rfl, h1, h7, fc, h⟩ := h
  have hsz := sizeLine_eq
  have hp := pow7 h7
  have hp0 := Nat.two_pow_pos n
  have hpn : ((2 ^ n : Nat) : Int) ≤ 128 := by omega
  have hpn0 : (0 : Int) < ((2 ^ n : Nat) : Int) := by omega
  refine ⟨n, rfl, h7, ?_⟩
  generalize hN : (2 ^ n : Nat) = N at *
  refine ⟨trivial, 6, rfl, by decide, by decide, fc, fun kd c' k0 k6 fc => ?_⟩
  refine ift_d (fun hk => ?_) fun hk => ?_
  · refine ⟨by omega, by omega, ?_⟩
    rw [rng0, Int.toNat_natCast]
    refine LcP.byI (fun i acc ρ => ∃ (row : List Int) (c' : Mc), acc = row.map .int ∧ row.length = i ∧ Bits row ∧ FeedOk c' ∧ ρ = [some (.mu false c'), some (.fz (.int n)), some (.fz (.int N)), some (.fz (.int kd)), none, none, none, none, none]) ⟨_, by walk_at "wk", [], c', rfl, rfl, fun _ h => absurd h (by simp), fc, rfl⟩ ?_ ?_
    · rintro i acc ρ' hi ⟨row, c', rfl, hl, hb, fc, rfl⟩
      rw [List.length_map, List.length_range] at hi
      refine ⟨trivial, 2, rfl, by decide, by decide, fc, fun r c' r0 r2 fc => ?_⟩
      refine ⟨by rw [List.length_map]; omega, _, by walk_at "wk", row ++ [r], c', by simp, by simp [hl], bits_app hb ⟨r0, r2⟩, fc, rfl⟩
    · rintro acc ρ' ⟨row, c', rfl, hl, hb, fc, rfl⟩
      rw [List.length_map, List.length_range] at hl
      exact ⟨rfl, c', rfl, h row c' hl hb fc⟩
  refine ift_d (fun hk => ?_) fun hk' => ?_
  · refine ⟨trivial, 2, rfl, by decide, by decide, fc, fun r c' r0 r2 fc => ?_⟩
    refine ⟨by omega, by omega, ?_⟩
    rw [rng0, Int.toNat_natCast]
    refine LcP.mapL (ρw := [some (.mu false c'), some (.fz (.int n)), some (.fz (.int N)), some (.fz (.int kd)), some (.fz (.int r)), none, none, none, none]) (fun _ => .int r) (by rw [List.length_range]; omega) (by walk_at "wk") (fun i hi T hT => hT _ (by walk_at "wk")) ?_
    rw [map_int]
    exact ⟨rfl, c', rfl, h _ c' (by simp) (fun x hx => by
      obtain ⟨_, _, rfl⟩ := List.mem_map.mp hx
      exact ⟨r0, r2⟩) fc⟩
  refine ⟨trivial, N, rfl, hpn0, by omega, fc, fun a c' _ _ fc => ?_⟩
  refine ⟨n, a, rfl, h7, fun row rl rb => ?_⟩
  rw [hN] at rl
  refine ift_d (fun hk => ?_) fun hk'' => ?_
  · refine ⟨by omega, by omega, ?_⟩
    rw [rng0, Int.toNat_natCast]
    refine ForP.rangeF (fun i ρ => ∃ (row : List Int), ρ = [some (.mu false c'), some (.fz (.int n)), some (.fz (.int N)), some (.fz (.int kd)), none, some (.mu true (.lst (row.map .int))), none, none, none] ∧ row.length = N ∧ Bits row) ⟨_, by walk_at "wk", row, rfl, rl, rb⟩ ?_ ?_
    · rintro i ρ' hi ⟨row, rfl, rl, rb⟩
      refine ⟨n, i, rfl, h7, fun bits bl bb => ?_⟩
      refine ⟨trivial, _, atG (by omega) (by omega), n / 2, rgc_two n h1 h7, ?_⟩
      refine LcP.mapL (ρw := [some (.mu false c'), some (.fz (.int n)), some (.fz (.int N)), some (.fz (.int kd)), none, some (.mu true (.lst (row.map .int))), some (.fz (.int i)), some (.fz (.lst (bits.map .int))), none]) (fun j : Nat => .int (bits.getD (0 + (j : Int) * 2).toNat 0 * bits.getD (0 + (j : Int) * 2 + 1).toNat 0)) (by rw [List.length_range]; omega) (by walk_at "wk") (fun j hj T hT => ?_) ?_
      · have hj := List.mem_range.mp hj
        have hb1 := bits_get bb (0 + (j : Int) * 2).toNat
        exact ⟨_, atG (by omega) (by omega), _, atG (by omega) (by omega), cmulL (by omega) (by omega), hT _ (by walk_at "wk")⟩
      · refine ⟨_, ints_of_map _ _, by decide, trivial, _, ixN_at (by omega) (by rw [List.length_map]; omega), ?_⟩
        rw [setG]
        generalize row.getD _ 0 + _ = s
        refine ⟨_, by walk_at "wk", _, rfl, by rw [List.length_set]; exact rl, set_bits rb (bit_b s)⟩
    · rintro ρ' ⟨row, rfl, rl, rb⟩
      exact ⟨rfl, c', rfl, h _ c' rl rb fc⟩
  have hk3 : kd = 3 ∨ kd = 4 ∨ kd = 5 := by
    have : ¬ kd = 0 := hk
    have : ¬ kd = 1 := hk'
    have : ¬ kd = 2 := hk''
    omega
  have hm : ∃ m : Int, atI ([2, 9, 41].map D.int) (kd - 3) = some (.int m) ∧ 0 < m ∧ m ≤ 41 := by
    rcases hk3 with rfl | rfl | rfl
    · exact ⟨2, rfl, by omega, by omega⟩
    · exact ⟨9, rfl, by omega, by omega⟩
    · exact ⟨41, rfl, by omega, by omega⟩
  obtain ⟨m, em, m0, m4⟩ := hm
  refine ⟨trivial, by show (3 : Nat) ≤ sizeLine; omega, .int m, em, m, rfl, m0, by omega, fc, fun r c' r0 r1 fc => ?_⟩
  refine ⟨by omega, by omega, ?_⟩
  obtain ⟨r, rfl⟩ := toI r0
  rw [rng0, Int.toNat_natCast]
  refine ForP.rangeF (fun i ρ => ∃ (row : List Int) (c' : Mc), ρ = [some (.mu false c'), some (.fz (.int n)), some (.fz (.int N)), some (.fz (.int kd)), none, some (.mu true (.lst (row.map .int))), none, none, none] ∧ row.length = N ∧ Bits row ∧ FeedOk c') ⟨_, by walk_at "wk", row, c', rfl, rl, rb, fc⟩ ?_ ?_
  · rintro i ρ' hi ⟨row, c', rfl, rl, rb, fc⟩
    refine ⟨trivial, N, rfl, hpn0, by omega, fc, fun a c' a0 a1 fc => ?_⟩
    have hg := bits_get rb a.toNat
    refine ⟨trivial, _, atG (by omega) (by omega), trivial, _, ixN_at (by omega) (by rw [List.length_map]; omega), ?_⟩
    rw [setG]
    exact ⟨_, by walk_at "wk", _, c', rfl, by rw [List.length_set]; exact rl, set_bits rb (by omega), fc⟩
  · rintro ρ' ⟨row, c', rfl, rl, rb, fc⟩
    exact ⟨rfl, c', rfl, h _ c' rl rb fc⟩
end L2.DL.Q

/-! # VZ79.lean -/
set_option Elab.async false
set_option linter.all false
set_option maxRecDepth 100000
set_option maxHeartbeats 1000000
namespace L2.DL.Q
open PySem PySem.Spec PyProof.Rows M79
local macro_rules | `(tactic| walk_at "wk") => `(tactic| (repeat' first | exact True.intro | exact rfl | apply And.intro))
local macro_rules | `(tactic| walk_at "om") => `(tactic| (first | omega | (dsimp only; omega) | (dsimp only at *; omega)))
abbrev rowL (l : List Int) : D := .lst (l.map .int)
def R__law_signs : RF := fun ds Q => ∃ (n : Nat) (f : List Int), ds = [.int n, rowD f] ∧ Tab n f ∧ Q (.fz (rowL (sgs n f)))
def w__law_signs : WS :=
    (wSeq (wSetF 2 (wLc (wItT (wVar 1)) (wgName 7) wYes (wBin wSub (wK (.int 1)) (wBin wMul (wK (.int 2)) (wVar 7))) [7]))
    (wSeq (wSetF 3 (wK (.int 1)))
    (wSeq (wFor (wRng1 (wCons (wVar 0) wNil)) (wgName 4)
    (wSeq (wSet 5 (wLst wNil))
    (wSeq (wFor (wRng1 (wCons (wCB wLen (wCons (wVar 2) wNil)) wNil)) (wgName 6)
    (wIfS (wTest (wBin wEqI (wBin wMod (wCB wInt1 (wCons (wBin wDiv (wVar 6) (wVar 3)) wNil)) (wK (.int 2))) (wK (.int 0))))
    (wApp 5 (wBin wAdd (wBin wIx (wVar 2) (wVar 6)) (wBin wIx (wVar 2) (wBin wAdd (wVar 6) (wVar 3)))))
    (wApp 5 (wBin wSub (wBin wIx (wVar 2) (wBin wSub (wVar 6) (wVar 3))) (wBin wIx (wVar 2) (wVar 6))))))
    (wSeq (wSetF 2 (wFrz 5))
    (wSetF 3 (wBin wMul (wK (.int 2)) (wVar 3)))))))
    (wRet (wVar 2)))))
abbrev N__law_signs : List Str := ["n", "f", "row", "step", "k", "turned", "x", "bit"]
theorem v__law_signs (ds Q) (h : R__law_signs ds Q) : w__law_signs (endF Q) (argD N__law_signs ds) := by
  obtain ⟨n, f, rfl, t, h⟩ := h
  have hp := t.p
  rw [t.len] at hp
  have h7 := t.n7
  show LcP (f.map D.int) _ _ _ _ _ _
  refine LcP.mapL (ρw := [some (.fz (.int n)), some (.fz (rowD f)), none, none, none, none, none, none]) (fun b => .int (1 - 2 * b)) (by rw [line, t.len]; omega) (by walk_at "wk") (fun a ha T hT => ⟨cmulL (by decide) (by decide), hT _ (by walk_at "wk")⟩) ?_
  rw [sg_ints]
  refine ⟨by omega, by omega, ?_⟩
  rw [rng0, Int.toNat_natCast]
  refine ForP.rangeF (fun k ρ => ρ = [some (.fz (.int n)), some (.fz (rowD f)), some (.fz (rowL (its k (f.map sg)))), some (.fz (.int ((2 ^ k : Nat) : Int))), none, none, none, none]) ⟨_, by walk_at "wk", rfl⟩ ?_ ?_
  · rintro k ρ' hk rfl
    have hl : (its k (f.map sg)).length = 2 ^ n := by rw [its_len, List.length_map, t.len]
    generalize hg : its k (f.map sg) = l at hl ⊢
    have hpk := Nat.two_pow_pos k
    have hkn := Nat.pow_lt_pow_right (a := 2) (by omega) hk
    refine ⟨by show (0 : Nat) ≤ sizeLine; omega, by omega, by rw [List.length_map]; omega, ?_⟩
    rw [rng0, List.length_map, Int.toNat_natCast]
    refine ForP.rangeF (fun i ρ => ρ = [some (.fz (.int n)), some (.fz (rowD f)), some (.fz (rowL l)), some (.fz (.int ((2 ^ k : Nat) : Int))), none, some (.mu true (.lst (((List.range i).map (stf (2 ^ k) l)).map .int))), none, none]) ⟨_, by walk_at "wk", rfl⟩ ?_ ?_
    · rintro i ρ' hi rfl
      refine ⟨⟨by omega, by omega⟩, by show (0 : Int) < _; omega, ?_⟩
      have hs : ((List.range i).map (stf (2 ^ k) l)).length < 16777216 := by rw [List.length_map, List.length_range]; omega
      refine ift_d (fun e => ?_) fun e => ?_
      · have e' := par.mp e
        have r := room hk (by omega) e'
        refine ⟨_, atG (by omega) (by omega), _, atG (by omega) (by omega), by rw [List.length_map, line]; exact hs, ?_⟩
        refine ⟨_, ?_, rfl⟩
        have : ((i : Int) + ((2 ^ k : Nat) : Int)).toNat = i + 2 ^ k := by omega
        rw [map_succ, List.map_append, stf_even e', this, Int.toNat_natCast]
        walk_at "wk"
      · have e' : ¬ i / 2 ^ k % 2 = 0 := fun z => e (par.mpr z)
        have r := odd_room e'
        refine ⟨_, atG (by omega) (by omega), _, atG (by omega) (by omega), by rw [List.length_map, line]; exact hs, ?_⟩
        refine ⟨_, ?_, rfl⟩
        have : ((i : Int) - ((2 ^ k : Nat) : Int)).toNat = i - 2 ^ k := by omega
        rw [map_succ, List.map_append, stf_odd e', this, Int.toNat_natCast]
        walk_at "wk"
    · rintro ρ' rfl
      refine ⟨cmulL (by decide) (by decide), _, ?_, rfl⟩
      rw [its, ← pow_s, hg]
      walk_at "wk"
  · rintro ρ' rfl
    exact ⟨trivial, h⟩
def R__law_broken : RF := fun ds Q => ∃ (n : Nat) (f : List Int), ds = [rowD f] ∧ Tab n f ∧ Q (.fz (.int (brk f f.length : Nat)))
def w__law_broken : WS :=
    (wSeq (wSetF 1 (wK (.int 0)))
    (wSeq (wFor (wRng1 (wCons (wCB wLen (wCons (wVar 0) wNil)) wNil)) (wgName 2)
    (wSetF 1 (wBin wAdd (wVar 1) (wCB wLen (wCons (wLc (wRng1 (wCons (wCB wLen (wCons (wVar 0) wNil)) wNil)) (wgName 3) (wTest (wBin (wEq true) (wBin wIx (wVar 0) (wBin wBxor (wVar 2) (wVar 3))) (wBin wBxor (wBin wIx (wVar 0) (wVar 2)) (wBin wIx (wVar 0) (wVar 3))))) (wVar 3) [3]) wNil)))))
    (wRet (wVar 1))))
abbrev N__law_broken : List Str := ["f", "count", "x", "y"]
theorem v__law_broken (ds Q) (h : R__law_broken ds Q) : w__law_broken (endF Q) (argD N__law_broken ds) := by
  obtain ⟨n, f, rfl, t, h⟩ := h
  have hp := t.p
  have hl := t.len
  refine ⟨by omega, by rw [List.length_map]; omega, ?_⟩
  rw [rng0, List.length_map, Int.toNat_natCast]
  refine ForP.rangeF (fun x ρ => ρ = [some (.fz (rowD f)), some (.fz (.int (brk f x : Nat))), none, none]) ⟨_, by walk_at "wk", rfl⟩ ?_ ?_
  · rintro x ρ' hx rfl
    refine ⟨by rw [List.length_map]; omega, by rw [List.length_map]; omega, ?_⟩
    rw [rng0, List.length_map, Int.toNat_natCast]
    refine LcP.filtL (ρw := [some (.fz (rowD f)), some (.fz (.int (brk f x : Nat))), some (.fz (.int x)), none]) (brq f x) (fun i => .int i) (by rw [List.length_range, line]; omega) (by walk_at "wk") (fun y hy T S h1 h2 => ?_) ?_
    · have hy := List.mem_range.mp hy
      have hxy := xor_lt (by rwa [← hl]) (by rwa [← hl]) (n := n) (x := x) (y := y)
      have esym : decide (at0 f (x ^^^ y) = Builtin.bitXor (at0 f x) (at0 f y)) = decide (Builtin.bitXor (at0 f x) (at0 f y) = at0 f (x ^^^ y)) := decide_eq_decide.mpr ⟨Eq.symm, Eq.symm⟩
      refine ⟨_, (by rw [xorN]; exact at_f (by omega)), _, at_f hx, _, at_f hy, _, deq_int _ _, ?_⟩
      refine ift_of (fun e => ?_) fun e => ?_
      · exact h1 (by rw [if_pos rfl, esym] at e; exact e) _ (by walk_at "wk")
      · exact h2 (by rw [if_pos rfl, esym] at e; exact e) _ (by walk_at "wk")
    · refine ⟨_, ?_, rfl⟩
      have : brk f (x + 1) = brk f x + ((List.range f.length).filter (brq f x)).length := rfl
      rw [this, List.length_map]
      walk_at "wk"
  · rintro ρ' rfl
    exact ⟨trivial, h⟩
def R__law_weight : RF := fun ds Q => ∃ (n : Nat) (l beg : List Int), ds = [.int n, rowL l, rowD beg] ∧ Fd n l ∧ beg.length ≤ n ∧ Bits beg ∧ Q (.fz (.int (Wt n l beg)))
def w__law_weight : WS :=
    (wSeq (wSetF 3 (wCB wLen (wCons (wVar 1) wNil)))
    (wSeq (wSetF 4 (wK (.int 0)))
    (wSeq (wFor (wItT (wVar 2)) (wgName 5)
    (wSeq (wSetF 3 (wBin wDiv (wVar 3) (wK (.int 2))))
    (wSetF 4 (wBin wAdd (wVar 4) (wBin wMul (wVar 5) (wVar 3))))))
    (wRet (wCB wSum (wCons (wLc (wItL (wSlL (wVar 1) (woSome (wVar 4)) (woSome (wBin wAdd (wVar 4) (wVar 3))))) (wgName 6) wYes (wBin wMul (wVar 6) (wVar 6)) [6]) wNil))))))
abbrev N__law_weight : List Str := ["n", "told", "bits", "many", "first", "bit", "value"]
theorem v__law_weight (ds Q) (h : R__law_weight ds Q) : w__law_weight (endF Q) (argD N__law_weight ds) := by
  obtain ⟨n, l, beg, rfl, F, hl, hb, h⟩ := h
  have h7 := F.n7
  have hp := F.p
  have e0 : ((l.map D.int).length : Int) = ((2 ^ n : Nat) : Int) := by rw [List.length_map, F.len]
  show ForP (beg.map D.int) _ _ _ _
  refine ForP.inv (fun pre s => s = pre) (fun pre => [some (.fz (.int n)), some (.fz (rowL l)), some (.fz (rowD beg)), some (.fz (.int ((2 ^ (n - pre.length) : Nat) : Int))), some (.fz (.int (val pre * ((2 ^ (n - pre.length) : Nat) : Int)))), none, none]) [] (by rw [e0]; simp only [val, List.foldl_nil, Int.zero_mul, List.length_nil, Nat.sub_zero]; walk_at "wk") rfl (fun pre a post s e hj N hN => ?_) fun s hs => ?_
  · subst hj
    have hlt := pre_lt e
    have hpw : 2 ^ (n - s.length) = 2 * 2 ^ (n - (s.length + 1)) := by
      rw [show n - s.length = (n - (s.length + 1)) + 1 by omega, Nat.pow_succ, Nat.mul_comm]
    have h2 : ((2 ^ (n - s.length) : Nat) : Int) / 2 = ((2 ^ (n - (s.length + 1)) : Nat) : Int) := by omega
    have hab := hb a (mem_post e)
    refine ⟨⟨by decide, by decide⟩, cmulL (by omega) (by omega), hN (s ++ [a]) _ rfl ?_⟩
    rw [h2, val_app, List.length_append, hpw]
    have : (2 * val s + a) * ((2 ^ (n - (s.length + 1)) : Nat) : Int) = val s * ((2 * 2 ^ (n - (s.length + 1)) : Nat) : Int) + a * ((2 ^ (n - (s.length + 1)) : Nat) : Int) := by
      rw [Int.add_mul, Int.natCast_mul, ← Int.mul_assoc, Int.mul_comm 2 (val s)]; rfl
    show Wk _ [_, _, _, _, some (.fz (.int ((2 * val s + a) * ((2 ^ (n - (s.length + 1)) : Nat) : Int)))), _, _]
    rw [this]
    walk_at "wk"
  · subst hs
    have e2 : val s * ((2 ^ (n - s.length) : Nat) : Int) + ((2 ^ (n - s.length) : Nat) : Int) = ((whi n s : Nat) : Int) := by
      rw [← whi_e hb, Int.add_mul, Int.one_mul]
    show LcP (cutD (l.map D.int) (some (val s * ((2 ^ (n - s.length) : Nat) : Int))) (some (val s * ((2 ^ (n - s.length) : Nat) : Int) + ((2 ^ (n - s.length) : Nat) : Int)))) _ _ _ _ _ _
    rw [e2, wlo_e hb, cut_ab, ← List.map_take, ← List.map_drop]
    refine LcP.mapL (ρw := [some (.fz (.int n)), some (.fz (rowL l)), some (.fz (rowD s)), some (.fz (.int ((2 ^ (n - s.length) : Nat) : Int))), some (.fz (.int ((wlo n s : Nat) : Int))), none, none]) (fun s => .int (s * s)) ?_ (by walk_at "wk") (fun a ha T hT => ?_) ?_
    · have := len_cut (l := l) (a := wlo n s) (b := whi n s)
      rw [line]; omega
    · have := F.bd a (mem_cut ha)
      exact ⟨cmulL (by omega) (by omega), hT _ (by walk_at "wk")⟩
    · refine ⟨_, ints_of_map _ _, trivial, h⟩
def R__law_levels : RF := fun ds Q => ∃ (n : Nat) (l : List Int) (t : Int), ds = [.int n, rowL l, .int t] ∧ Fd n l ∧ 1 ≤ t ∧ t ≤ 128 ∧ Q (.fz (certD n l t))
def w__law_levels : WS :=
    (wSeq (wSetF 3 (wLst (wCons (wTup (wCons (wTup wNil) (wCons (wCall R__law_weight (wCons (wVar 0) (wCons (wVar 1) (wCons (wTup wNil) wNil)))) wNil))) wNil)))
    (wSeq (wSet 4 (wLst (wCons (wCB wTupleOf (wCons (wVar 3) wNil)) wNil)))
    (wSeq (wFor (wRng1 (wCons (wVar 0) wNil)) (wgName 5)
    (wSeq (wSet 6 (wLst wNil))
    (wSeq (wFor (wItL (wVar 3)) (wgName 7)
    (wIfS (wTest (wBin wGe (wBin wIx (wVar 7) (wK (.int 1))) (wBin wMul (wVar 2) (wVar 2))))
    (wSeq (wApp 6 (wTup (wCons (wBin wCatT (wBin wIx (wVar 7) (wK (.int 0))) (wTup (wCons (wK (.int 0)) wNil))) (wCons (wCall R__law_weight (wCons (wVar 0) (wCons (wVar 1) (wCons (wBin wCatT (wBin wIx (wVar 7) (wK (.int 0))) (wTup (wCons (wK (.int 0)) wNil))) wNil)))) wNil))))
    (wApp 6 (wTup (wCons (wBin wCatT (wBin wIx (wVar 7) (wK (.int 0))) (wTup (wCons (wK (.int 1)) wNil))) (wCons (wCall R__law_weight (wCons (wVar 0) (wCons (wVar 1) (wCons (wBin wCatT (wBin wIx (wVar 7) (wK (.int 0))) (wTup (wCons (wK (.int 1)) wNil))) wNil)))) wNil)))))
    wNext))
    (wSeq (wSetF 3 (wFrz 6))
    (wApp 4 (wCB wTupleOf (wCons (wVar 3) wNil)))))))
    (wRet (wCB wTupleOf (wCons (wFrz 4) wNil))))))
abbrev N__law_levels : List Str := ["n", "told", "t", "level", "levels", "k", "more", "pair"]
theorem v__law_levels (ds Q) (h : R__law_levels ds Q) : w__law_levels (endF Q) (argD N__law_levels ds) := by
  obtain ⟨n, l, t, rfl, F, t1, t2, h⟩ := h
  have h7 := F.n7
  have hsz := sizeLine_eq
  refine ⟨by show (0 : Nat) ≤ sizeLine; omega, by show (0 : Nat) ≤ sizeLine; omega, n, l, [], rfl, F, Nat.zero_le _, fun x hx => absurd hx (by simp), ?_⟩
  refine ⟨by show (2 : Nat) ≤ sizeLine; omega, by show (1 : Nat) ≤ sizeLine; omega, by show (1 : Nat) ≤ sizeLine; omega, ?_⟩
  refine ⟨by omega, by omega, ?_⟩
  rw [rng0, Int.toNat_natCast]
  refine ForP.rangeF (fun k ρ => ρ = [some (.fz (.int n)), some (.fz (rowL l)), some (.fz (.int t)), some (.fz (.lst ((lev n l t k).map pd))), some (.mu true (.lst (certDs n l t (k + 1)))), none, none, none]) ⟨_, by walk_at "wk", rfl⟩ ?_ ?_
  · rintro k ρ' hk rfl
    have hlv := lev_len n l t k
    have hq := pow7 (show k ≤ 7 by omega)
    refine ⟨by show (0 : Nat) ≤ sizeLine; omega, ?_⟩
    show ForP ((lev n l t k).map pd) _ _ _ _
    refine ForP.inv (fun pre s => s = pre.flatMap (kids n l t)) (fun s => [some (.fz (.int n)), some (.fz (rowL l)), some (.fz (.int t)), some (.fz (.lst ((lev n l t k).map pd))), some (.mu true (.lst (certDs n l t (k + 1)))), none, some (.mu true (.lst (s.map pd))), none]) [] (by walk_at "wk") rfl (fun pre p post s e hj N hN => ?_) fun s hs => ?_
    · obtain ⟨hpl, hpb⟩ := lev_mem (mem_post e)
      have hlt := pre_lt e
      have hfl := flat_len n l t pre
      refine ⟨.int p.2, rfl, cmulL (by omega) (by omega), ?_⟩
      refine ift_d (fun hh => ?_) fun hh => ?_
      · have hw : ∀ b : Int, 0 ≤ b ∧ b < 2 → (p.1 ++ [b]).length ≤ n ∧ Bits (p.1 ++ [b]) := fun b hb => ⟨by simp; omega, bits_app hpb hb⟩
        have hz : (p.1.map D.int).length + 1 ≤ sizeLine := by rw [List.length_map]; omega
        have hsl : (s.map pd).length < sizeLine := by rw [List.length_map, hj]; omega
        refine ⟨rowD p.1, rfl, by show (1 : Nat) ≤ sizeLine; omega, hz, rowD p.1, rfl, by show (1 : Nat) ≤ sizeLine; omega, hz, ?_⟩
        refine ⟨n, l, p.1 ++ [0], by simp, F, (hw 0 (by omega)).1, (hw 0 (by omega)).2, by show (2 : Nat) ≤ sizeLine; omega, hsl, ?_⟩
        refine ⟨rowD p.1, rfl, by show (1 : Nat) ≤ sizeLine; omega, hz, rowD p.1, rfl, by show (1 : Nat) ≤ sizeLine; omega, hz, ?_⟩
        refine ⟨n, l, p.1 ++ [1], by simp, F, (hw 1 (by omega)).1, (hw 1 (by omega)).2, by show (2 : Nat) ≤ sizeLine; omega, by rw [List.length_append, List.length_map, hj]; show _ + 1 < _; omega, ?_⟩
        refine hN (s ++ [((p.1 ++ [0], Wt n l (p.1 ++ [0])) : Pr), (p.1 ++ [1], Wt n l (p.1 ++ [1]))]) _ ?_ ?_
        · rw [List.flatMap_append, hj, List.flatMap_cons, List.flatMap_nil, kids_yes hh, List.append_nil]
        · rw [List.map_append, List.map_cons, List.map_cons, List.map_nil, pd_app, pd_app, List.append_assoc]
          walk_at "wk"
      · refine hN _ _ ?_ (by walk_at "wk")
        rw [List.flatMap_append, hj, List.flatMap_cons, List.flatMap_nil, kids_no hh]
        simp
    · subst hs
      refine ⟨by unfold certDs; rw [List.length_map, List.length_range]; omega, _, ?_, rfl⟩
      rw [certDs_succ n l t (k + 1)]
      walk_at "wk"
  · rintro ρ' rfl
    exact ⟨trivial, h⟩
end L2.DL.Q

/-! # VS79.lean -/
set_option Elab.async false
set_option linter.all false
set_option maxRecDepth 100000
set_option maxHeartbeats 1000000
namespace L2.DL.Q
open PySem PySem.Spec PyProof.Rows M79
local macro_rules | `(tactic| walk_at "wk") => `(tactic| (repeat' first | exact True.intro | exact rfl | apply And.intro))
local macro_rules | `(tactic| walk_at "om") => `(tactic| (first | omega | (dsimp only; omega) | (dsimp only at *; omega)))
/-! ## what is the same -/
def Due : Nat → D → Prop
  | 0, d => ∃ i, d = .int i
  | k + 1, d => (∃ i, d = .int i) ∨ ∃ ds, d = .tup ds ∧ ds.length ≤ 300 ∧ ∀ x, x ∈ ds → Due k x
theorem due_int {i : Int} : ∀ k, Due k (.int i)
  | 0 => ⟨i, rfl⟩
  | _ + 1 => .inl ⟨i, rfl⟩
theorem due_dp : ∀ {k d}, Due k d → DP k d
  | 0, _, ⟨_, e⟩ => by subst e; rfl
  | _ + 1, _, .inl ⟨_, e⟩ => by subst e; exact DP.int _
  | _ + 1, _, .inr ⟨_, e, _, h⟩ => by subst e; exact DP.tup fun x hx => due_dp (h x hx)
theorem due_row {l : List Int} (h : l.length ≤ 300) (k) : Due (k + 1) (rowD l) := .inr ⟨_, rfl, by rw [List.length_map]; exact h, fun x hx => by
  obtain ⟨_, _, rfl⟩ := List.mem_map.mp hx
  exact due_int _⟩
theorem due_pair {p : Pr} (h : p.1.length ≤ 7) : Due 2 (pd p) := .inr ⟨_, rfl, by show 2 ≤ 300; omega, fun x hx => by
  simp only [List.mem_cons, List.mem_nil_iff, or_false] at hx
  rcases hx with rfl | rfl
  · exact due_row (by omega) 0
  · exact due_int _⟩
theorem due_level {n l t k} (h : k ≤ 7) : Due 3 (levD (lev n l t k)) := .inr ⟨_, rfl, by
  rw [List.length_map]
  have := lev_len n l t k
  have := pow7 h
  omega, fun x hx => by
  obtain ⟨p, hp, rfl⟩ := List.mem_map.mp hx
  exact due_pair (by have := (lev_mem hp).1; omega)⟩
theorem due_cert {n l t} (h : n ≤ 7) : Due 4 (certD n l t) := .inr ⟨_, rfl, by simp [certDs]; omega, fun x hx => by
  obtain ⟨k, hk, rfl⟩ := List.mem_map.mp hx
  have := List.mem_range.mp hk
  exact due_level (by omega)⟩
def R__law_same (k : Nat) : RF := match k with
  | 0 => fun _ _ => False
  | k + 1 => fun ds Q => ∃ told due, ds = [told, due] ∧ DP k told ∧ Due k due ∧ Q (.fz (.bl (eqb told due)))
def w__law_same (dp : Nat) : WS :=
    (wSeq (wIfS (wTest (wCB (wIsiX xoc .tuple) (wCons (wVar 1) (wCons (wK (.ty "tuple")) wNil))))
    (wSeq (wIfS (wOr (wNot (wTest (wCB (wIsiX xoc .tuple) (wCons (wVar 0) (wCons (wK (.ty "tuple")) wNil))))) (wTest (wBin wNeI (wCB wLen (wCons (wVar 0) wNil)) (wCB wLen (wCons (wVar 1) wNil)))))
    (wRet (wK (.bl false)))
    wNext)
    (wSeq (wFor (wRng1 (wCons (wCB wLen (wCons (wVar 1) wNil)) wNil)) (wgName 2)
    (wIfS (wNot (wTest (wCall (R__law_same dp) (wCons (wBin wIx (wVar 0) (wVar 2)) (wCons (wBin wIx (wVar 1) (wVar 2)) wNil)))))
    (wRet (wK (.bl false)))
    wNext))
    (wRet (wK (.bl true)))))
    wNext)
    (wRet (wAndV (wCB (wIsiX xoc .int) (wCons (wVar 0) (wCons (wK (.ty "int")) wNil))) (wAndV (wNotV (wCB (wIsiX xoc .bool) (wCons (wVar 0) (wCons (wK (.ty "bool")) wNil)))) (wBin (wEq false) (wVar 0) (wVar 1))))))
abbrev N__law_same : List Str := ["told", "due", "k"]
theorem hl__law_same (k ds Q) (h : R__law_same (k + 1) ds Q) : ds.length = 2 := by
  obtain ⟨_, _, rfl, _⟩ := h; rfl
theorem v__law_same (k ds Q) (h : R__law_same (k + 1) ds Q) : w__law_same k (endF Q) (argD N__law_same ds) := by
  obtain ⟨told, due, rfl, hp, hd, h⟩ := h
  by_cases hi : ∃ i, due = .int i
  · obtain ⟨i, rfl⟩ := hi
    refine ⟨rfl, rfl, ift_f rfl ?_⟩
    refine ⟨rfl, hp.px, ?_⟩
    cases told with
    | int j =>
      refine ift_t rfl ⟨rfl, hp.px, ift_t rfl ?_⟩
      refine ⟨_, deq_eqb (α := Int) (by decide) j i, trivial, h⟩
    | bl b =>
      rw [eqb_f (fun z => by cases z)] at h
      exact ift_t rfl ⟨rfl, rfl, ift_f rfl ⟨trivial, h⟩⟩
    | _ => rw [eqb_f (fun z => by cases z)] at h; exact ift_f rfl ⟨trivial, h⟩
  · cases k with
    | zero => exact absurd hd hi
    | succ k =>
      rcases hd with hd | ⟨es, rfl, hl, hd⟩
      · exact absurd hd hi
      · refine ⟨rfl, rfl, ift_t rfl ?_⟩
        refine ⟨rfl, hp.px, ?_⟩
        by_cases hv : ∃ ds, told = .tup ds
        · obtain ⟨ds, rfl⟩ := hv
          refine ift_f rfl ?_
          refine ift_n (fun hn => ⟨trivial, ?_⟩) fun hn => ?_
          · rw [eqb_f (fun e => hn (by rw [D.tup.inj e]))] at h
            exact h
          · have hn : ds.length = es.length := by exact_mod_cast hn
            refine ⟨by omega, by omega, ?_⟩
            rw [rng0, Int.toNat_natCast]
            refine ForP.rangeF (fun i ρ => ρ = [some (.fz (.tup ds)), some (.fz (.tup es)), none] ∧ ∀ j (h1 : j < ds.length) (h2 : j < es.length), j < i → ds[j] = es[j]) ⟨_, by walk_at "wk", rfl, fun j _ _ hj => absurd hj (by omega)⟩ ?_ ?_
            · rintro i ρ' hi ⟨rfl, hj⟩
              have at1 : atI ds (i : Int) = some ds[i] := by
                have := atN (l := ds) (c := id) (i := i) (by omega)
                simpa using this
              have at2 : atI es (i : Int) = some es[i] := by
                have := atN (l := es) (c := id) (i := i) (by omega)
                simpa using this
              refine ⟨_, at1, _, at2, _, _, rfl, hp.el _ (List.getElem_mem _), hd _ (List.getElem_mem _), ?_⟩
              by_cases e : ds[i] = es[i]
              · refine ift_f (by rw [eqb_t e]; rfl) ⟨_, by walk_at "wk", rfl, fun j h1 h2 hji => ?_⟩
                by_cases ej : j = i
                · subst ej; exact e
                · exact hj j h1 h2 (by omega)
              · refine ift_t (by rw [eqb_f e]; rfl) ⟨trivial, ?_⟩
                rw [eqb_f (fun z => e (by
                  have z := D.tup.inj z
                  subst z; rfl))] at h
                exact h
            · rintro ρ' ⟨rfl, hj⟩
              rw [eqb_t (congrArg D.tup (List.ext_getElem hn fun j h1 h2 => hj j h1 h2 h2))] at h
              exact ⟨trivial, h⟩
        · have e : told.isT .tuple = false := by
            cases told <;> first | rfl | exact absurd ⟨_, rfl⟩ hv
          refine ift_t (by rw [e]; rfl) ⟨trivial, ?_⟩
          rw [eqb_f (b := .tup es) (fun e => hv ⟨_, e⟩)] at h; exact h
/-! ## spoilt -/
def Gives (k : Nat) (dv : DV) : Prop := (∃ d, dv = .fz d ∧ DP k d) ∨ ∃ c, dv = .mu true c ∧ DP k c.d
theorem Gives.mine {k dv} (h : Gives k dv) : dv.mine := by
  rcases h with ⟨_, rfl, _⟩ | ⟨_, rfl, _⟩
  · exact trivial
  · exact rfl
theorem Gives.thn {k dv} {P : D → Prop} (h : Gives k dv) (hP : ∀ d, DP k d → P d) : dv.thn P := by
  rcases h with ⟨d, rfl, hd⟩ | ⟨c, rfl, hc⟩
  · exact hP _ hd
  · exact hP _ hc
def R__law_put : RF := fun ds Q => ∃ (row : List D) (i : Nat) (v : D), ds = [.tup row, .int i, v] ∧ i < row.length ∧ row.length ≤ 300 ∧ Q (.fz (.tup (row.take i ++ [v] ++ row.drop (i + 1))))
def w__law_put : WS :=
    (wRet (wBin wCatT (wBin wCatT (wSlT (wVar 0) woNone (woSome (wVar 1))) (wTup (wCons (wVar 2) wNil))) (wSlT (wVar 0) (woSome (wBin wAdd (wVar 1) (wK (.int 1)))) woNone)))
abbrev N__law_put : List Str := ["row", "at", "value"]
theorem succ_c (i : Nat) : (i : Int) + 1 = ((i + 1 : Nat) : Int) := by omega
theorem v__law_put (ds Q) (h : R__law_put ds Q) : w__law_put (endF Q) (argD N__law_put ds) := by
  obtain ⟨row, i, v, rfl, hi, hl, h⟩ := h
  have hsz := sizeLine_eq
  refine ⟨by show (1 : Nat) ≤ sizeLine; omega, ?_⟩
  show (cutD row none (some (i : Int))).length + 1 ≤ sizeLine ∧ (cutD row none (some (i : Int)) ++ [v]).length + (cutD row (some ((i : Int) + 1)) none).length ≤ sizeLine ∧ _ ∧ Q (.fz (.tup (cutD row none (some (i : Int)) ++ [v] ++ cutD row (some ((i : Int) + 1)) none)))
  rw [succ_c, cut_b, cut_a]
  refine ⟨by rw [List.length_take]; omega, by simp; omega, trivial, h⟩
def R__law_like : RB := fun c ds Q => ∃ v, ds = [.int v] ∧ FeedOk c ∧ ∀ dv c', FeedOk c' → (∀ k, Gives k dv) → Q dv c'
def w__law_like : WS :=
    (wSeq (wSetF 2 (wCallL R__law_draw 0 (wCons (wK (.int 4)) wNil)))
    (wSeq (wIfS (wAnd (wTest (wBin wEqI (wVar 2) (wK (.int 0)))) (wTest (wBin wLt (wVar 1) (wK (.int 2)))))
    (wRet (wBin wEqI (wVar 1) (wK (.int 1))))
    wNext)
    (wSeq (wIfS (wTest (wBin wLt (wVar 2) (wK (.int 2))))
    (wRet (wMake "Share" R_Share_init (wCons (wVar 1) (wCons (wK (.int 1)) wNil))))
    wNext)
    (wRet (wBin wIx (wLst (wCons (wBin wAdd (wVar 1) (wK (.int 1))) (wCons (wBin wSub (wVar 1) (wK (.int 1))) wNil))) (wBin wSub (wVar 2) (wK (.int 2))))))))
abbrev N__law_like : List Str := ["feed", "value", "kind"]
theorem v__law_like (c ds Q) (h : R__law_like c ds Q) : w__law_like (endB Q) (argB N__law_like c ds) := by
  obtain ⟨v, rfl, fc, h⟩ := h
  have hsz := sizeLine_eq
  have hno : ∀ {d : D}, PX d → (∀ ds, d ≠ .tup ds) → ∀ k, Gives k (.fz d) := fun hp hn k => .inl ⟨_, rfl, DP.not hp hn k⟩
  refine ⟨trivial, 4, rfl, by decide, by decide, fc, fun kd c' k0 k4 fc => ?_⟩
  have hrest : kd < 2 ∨ ¬ kd < 2 := by omega
  have hcase : ¬ kd < 2 → ∃ w : Int, atI ([v + 1, v - 1].map D.int) (kd - 2) = some (.int w) := fun h2 => by
    rcases (show kd = 2 ∨ kd = 3 by omega) with rfl | rfl
    · exact ⟨_, rfl⟩
    · exact ⟨_, rfl⟩
  have hmid : ift (decide (kd < 2)) (wRet (wMake "Share" R_Share_init (wCons (wVar 1) (wCons (wK (.int 1)) wNil))) (endB Q) [some (.mu false c'), some (.fz (.int v)), some (.fz (.int kd))]) (wRet (wBin wIx (wLst (wCons (wBin wAdd (wVar 1) (wK (.int 1))) (wCons (wBin wSub (wVar 1) (wK (.int 1))) wNil))) (wBin wSub (wVar 2) (wK (.int 2)))) (endB Q) [some (.mu false c'), some (.fz (.int v)), some (.fz (.int kd))]) := by
    refine ift_d (fun h2 => ?_) fun h2 => ?_
    · exact ⟨v, rfl, rfl, fun fs => ⟨rfl, rfl, c', rfl, h _ c' fc fun k => .inr ⟨_, rfl, DP.not rfl (fun _ z => by cases z) k⟩⟩⟩
    · obtain ⟨w, hw⟩ := hcase h2
      exact ⟨by show (2 : Nat) ≤ sizeLine; omega, .int w, hw, trivial, c', rfl, h _ c' fc (hno rfl fun _ z => by cases z)⟩
  refine ift_d (fun hk => ?_) fun hk => ?_
  · refine ift_d (fun hv => ?_) fun hv => ?_
    · exact ⟨trivial, c', rfl, h _ c' fc (hno rfl fun _ z => by cases z)⟩
    · exact hmid
  · exact hmid
end L2.DL.Q

/-! # VU79.lean -/
set_option Elab.async false
set_option linter.all false
set_option maxRecDepth 100000
set_option maxHeartbeats 1000000
namespace L2.DL.Q
open PySem PySem.Spec PyProof.Rows M79
local macro_rules | `(tactic| walk_at "wk") => `(tactic| (repeat' first | exact True.intro | exact rfl | apply And.intro))
local macro_rules | `(tactic| walk_at "om") => `(tactic| (first | omega | (dsimp only; omega) | (dsimp only at *; omega)))
def R__law_pair_spoilt : RB := fun c ds Q => ∃ p : Pr, ds = [pd p] ∧ p.1.length ≤ 7 ∧ FeedOk c ∧ ∀ dv c', FeedOk c' → Gives 2 dv → Q dv c'
def w__law_pair_spoilt : WS :=
    (wSeq (wSetF 2 (wCallL R__law_draw 0 (wCons (wK (.int 7)) wNil)))
    (wSeq (wIfS (wTest (wBin wEqI (wVar 2) (wK (.int 0))))
    (wRet (wCB wListOf (wCons (wVar 1) wNil)))
    wNext)
    (wSeq (wIfS (wTest (wBin wEqI (wVar 2) (wK (.int 1))))
    (wRet (wTup (wCons (wCB wListOf (wCons (wBin wIx (wVar 1) (wK (.int 0))) wNil)) (wCons (wBin wIx (wVar 1) (wK (.int 1))) wNil))))
    wNext)
    (wSeq (wIfS (wTest (wBin wEqI (wVar 2) (wK (.int 2))))
    (wRet (wBin wCatT (wVar 1) (wTup (wCons (wK (.int 0)) wNil))))
    wNext)
    (wSeq (wIfS (wAnd (wTest (wBin wLt (wVar 2) (wK (.int 5)))) (wTest (wBin wGt (wCB wLen (wCons (wBin wIx (wVar 1) (wK (.int 0))) wNil)) (wK (.int 0)))))
    (wSeq (wSetF 3 (wCallL R__law_draw 0 (wCons (wCB wLen (wCons (wBin wIx (wVar 1) (wK (.int 0))) wNil)) wNil)))
    (wRet (wTup (wCons (wCall R__law_put (wCons (wBin wIx (wVar 1) (wK (.int 0))) (wCons (wVar 3) (wCons (wCallL R__law_like 0 (wCons (wBin wIx (wBin wIx (wVar 1) (wK (.int 0))) (wVar 3)) wNil)) wNil)))) (wCons (wBin wIx (wVar 1) (wK (.int 1))) wNil)))))
    wNext)
    (wRet (wTup (wCons (wBin wIx (wVar 1) (wK (.int 0))) (wCons (wCallL R__law_like 0 (wCons (wBin wIx (wVar 1) (wK (.int 1))) wNil)) wNil)))))))))
abbrev N__law_pair_spoilt : List Str := ["feed", "pair", "kind", "at"]
theorem dp_row {l : List Int} (k) : DP (k + 1) (rowD l) := DP.tup fun x hx => by
  obtain ⟨_, _, rfl⟩ := List.mem_map.mp hx
  exact DP.int _
theorem dp_lst {ds : List D} (k) : DP k (.lst ds) := DP.not rfl (fun _ z => by cases z) k
theorem dp_two {a b : D} {k} (ha : DP k a) (hb : DP k b) : DP (k + 1) (.tup [a, b]) := DP.tup fun x hx => by
  simp only [List.mem_cons, List.mem_nil_iff, or_false] at hx
  rcases hx with rfl | rfl <;> assumption
theorem v__law_pair_spoilt (c ds Q) (h : R__law_pair_spoilt c ds Q) : w__law_pair_spoilt (endB Q) (argB N__law_pair_spoilt c ds) := by
  obtain ⟨p, rfl, hp, fc, h⟩ := h
  have hsz := sizeLine_eq
  refine ⟨trivial, 7, rfl, by decide, by decide, fc, fun kd c' k0 k7 fc => ?_⟩
  refine ift_d (fun _ => ⟨rfl, c', rfl, h _ c' fc (.inr ⟨_, rfl, dp_lst _⟩)⟩) fun _ => ?_
  refine ift_d (fun _ => ⟨rowD p.1, rfl, .int p.2, rfl, by show (2 : Nat) ≤ sizeLine; omega, trivial, c', rfl, h _ c' fc (.inl ⟨_, rfl, dp_two (dp_lst _) (DP.int _)⟩)⟩) fun _ => ?_
  refine ift_d (fun _ => ⟨by show (1 : Nat) ≤ sizeLine; omega, by show 2 + 1 ≤ sizeLine; omega, trivial, c', rfl, h _ c' fc (.inl ⟨_, rfl, DP.tup fun x hx => ?_⟩)⟩) fun _ => ?_
  · simp only [List.mem_append, List.mem_cons, List.mem_nil_iff, or_false] at hx
    rcases hx with (rfl | rfl) | rfl
    · exact dp_row _
    · exact DP.int _
    · exact DP.int _
  have hend : wRet (wTup (wCons (wBin wIx (wVar 1) (wK (.int 0))) (wCons (wCallL R__law_like 0 (wCons (wBin wIx (wVar 1) (wK (.int 1))) wNil)) wNil))) (endB Q) [some (.mu false c'), some (.fz (pd p)), some (.fz (.int kd)), none] := by
    refine ⟨rowD p.1, rfl, trivial, .int p.2, rfl, p.2, rfl, fc, fun dv c' fc hg => ?_⟩
    refine (hg 1).thn fun d hd => ⟨by show (2 : Nat) ≤ sizeLine; omega, trivial, c', rfl, h _ c' fc (.inl ⟨_, rfl, dp_two (dp_row _) hd⟩)⟩
  refine ift_d (fun _ => ?_) fun _ => hend
  refine ⟨rowD p.1, rfl, ift_d (fun hl => ?_) fun _ => hend⟩
  rw [List.length_map] at hl
  refine ⟨trivial, rowD p.1, rfl, (p.1.length : Int), by rw [List.length_map], by omega, by omega, fc, fun a c' a0 a1 fc => ?_⟩
  obtain ⟨a, rfl⟩ := toI a0
  refine ⟨rowD p.1, rfl, trivial, rowD p.1, rfl, _, atG (by omega) (by omega), _, rfl, fc, fun dv c' fc hg => ?_⟩
  refine (hg 0).thn fun d hd => ⟨p.1.map .int, a, d, rfl, by rw [List.length_map]; omega, by rw [List.length_map]; omega, .int p.2, rfl, by show (2 : Nat) ≤ sizeLine; omega, trivial, c', rfl, h _ c' fc (.inl ⟨_, rfl, dp_two (DP.tup fun x hx => ?_) (DP.int _)⟩)⟩
  simp only [List.mem_append, List.mem_singleton] at hx
  rcases hx with (hx | rfl) | hx
  · exact (dp_row (l := p.1) 0).el _ (List.mem_of_mem_take hx)
  · exact hd
  · exact (dp_row (l := p.1) 0).el _ (List.mem_of_mem_drop hx)
def R__law_spoilt : RB := fun c ds Q => ∃ (n : Nat) (l : List Int) (t : Int), ds = [certD n l t] ∧ 1 ≤ n ∧ n ≤ 7 ∧ FeedOk c ∧ ∀ dv c', FeedOk c' → Gives 4 dv → Q dv c'
def w__law_spoilt : WS :=
    (wSeq (wSetF 2 (wCallL R__law_draw 0 (wCons (wK (.int 14)) wNil)))
    (wSeq (wSetF 3 (wCallL R__law_draw 0 (wCons (wCB wLen (wCons (wVar 1) wNil)) wNil)))
    (wSeq (wIfS (wTest (wBin wEqI (wVar 2) (wK (.int 0))))
    (wRet (wBin wCatT (wSlT (wVar 1) woNone (woSome (wVar 3))) (wSlT (wVar 1) (woSome (wBin wAdd (wVar 3) (wK (.int 1)))) woNone)))
    wNext)
    (wSeq (wIfS (wTest (wBin wEqI (wVar 2) (wK (.int 1))))
    (wRet (wCB wListOf (wCons (wVar 1) wNil)))
    wNext)
    (wSeq (wIfS (wTest (wBin wEqI (wVar 2) (wK (.int 2))))
    (wRet (wBin wCatT (wVar 1) (wTup (wCons (wTup wNil) wNil))))
    wNext)
    (wSeq (wIfS (wTest (wBin wEqI (wVar 2) (wK (.int 3))))
    (wRet (wCall R__law_put (wCons (wVar 1) (wCons (wVar 3) (wCons (wCB wListOf (wCons (wBin wIx (wVar 1) (wVar 3)) wNil)) wNil)))))
    wNext)
    (wSeq (wIfS (wTest (wBin wEqI (wVar 2) (wK (.int 4))))
    (wRet (wBin wIx (wLst (wCons (wK .non) (wCons (wTup wNil) (wCons (wK (.int 0)) (wCons wDictNew (wCons (wK (.str (PySem.Str.ofString "levels"))) wNil)))))) (wCallL R__law_draw 0 (wCons (wK (.int 5)) wNil))))
    wNext)
    (wSeq (wIfS (wTest (wBin wEqI (wCB wLen (wCons (wBin wIx (wVar 1) (wVar 3)) wNil)) (wK (.int 0))))
    (wSetF 3 (wCallL R__law_draw 0 (wCons (wK (.int 2)) wNil)))
    wNext)
    (wSeq (wSetF 4 (wBin wIx (wVar 1) (wVar 3)))
    (wSeq (wIfS (wOr (wTest (wBin wEqI (wCB wLen (wCons (wVar 4) wNil)) (wK (.int 0)))) (wTest (wBin wEqI (wVar 2) (wK (.int 5)))))
    (wRet (wCall R__law_put (wCons (wVar 1) (wCons (wVar 3) (wCons (wSlT (wVar 4) woNone (woSome (wNeg (wK (.int 1))))) wNil)))))
    wNext)
    (wSeq (wIfS (wTest (wBin wEqI (wVar 2) (wK (.int 6))))
    (wRet (wCall R__law_put (wCons (wVar 1) (wCons (wVar 3) (wCons (wBin wCatT (wSlT (wVar 4) (woSome (wK (.int 1))) woNone) (wSlT (wVar 4) woNone (woSome (wK (.int 1))))) wNil)))))
    wNext)
    (wSeq (wSetF 5 (wCallL R__law_draw 0 (wCons (wCB wLen (wCons (wVar 4) wNil)) wNil)))
    (wRet (wCall R__law_put (wCons (wVar 1) (wCons (wVar 3) (wCons (wCall R__law_put (wCons (wVar 4) (wCons (wVar 5) (wCons (wCallL R__law_pair_spoilt 0 (wCons (wBin wIx (wVar 4) (wVar 5)) wNil)) wNil)))) wNil)))))))))))))))))
abbrev N__law_spoilt : List Str := ["feed", "levels", "kind", "at", "level", "i"]
def t__law_spoilt_8 : WS := (wSeq (wSetF 4 (wBin wIx (wVar 1) (wVar 3)))
    (wSeq (wIfS (wOr (wTest (wBin wEqI (wCB wLen (wCons (wVar 4) wNil)) (wK (.int 0)))) (wTest (wBin wEqI (wVar 2) (wK (.int 5)))))
    (wRet (wCall R__law_put (wCons (wVar 1) (wCons (wVar 3) (wCons (wSlT (wVar 4) woNone (woSome (wNeg (wK (.int 1))))) wNil)))))
    wNext)
    (wSeq (wIfS (wTest (wBin wEqI (wVar 2) (wK (.int 6))))
    (wRet (wCall R__law_put (wCons (wVar 1) (wCons (wVar 3) (wCons (wBin wCatT (wSlT (wVar 4) (woSome (wK (.int 1))) woNone) (wSlT (wVar 4) woNone (woSome (wK (.int 1))))) wNil)))))
    wNext)
    (wSeq (wSetF 5 (wCallL R__law_draw 0 (wCons (wCB wLen (wCons (wVar 4) wNil)) wNil)))
    (wRet (wCall R__law_put (wCons (wVar 1) (wCons (wVar 3) (wCons (wCall R__law_put (wCons (wVar 4) (wCons (wVar 5) (wCons (wCallL R__law_pair_spoilt 0 (wCons (wBin wIx (wVar 4) (wVar 5)) wNil)) wNil)))) wNil)))))))))
theorem put_dp {k : Nat} {row : List D} {i : Nat} {v : D} (h : ∀ x, x ∈ row → DP k x) (hv : DP k v) : DP (k + 1) (.tup (row.take i ++ [v] ++ row.drop (i + 1))) := DP.tup fun x hx => by
  simp only [List.mem_append, List.mem_singleton] at hx
  rcases hx with (hx | rfl) | hx
  · exact h _ (List.mem_of_mem_take hx)
  · exact hv
  · exact h _ (List.mem_of_mem_drop hx)
theorem v__law_spoilt (c ds Q) (h : R__law_spoilt c ds Q) : w__law_spoilt (endB Q) (argB N__law_spoilt c ds) := by
  obtain ⟨n, l, t, rfl, h1, h7, fc, h⟩ := h
  have hsz := sizeLine_eq
  have hlen : (certDs n l t (n + 1)).length = n + 1 := by simp [certDs]
  have hlm : ∀ x, x ∈ certDs n l t (n + 1) → DP 3 x := (due_dp (due_cert (n := n) (l := l) (t := t) h7)).el
  have hat : ∀ i : Nat, i < n + 1 → atI (certDs n l t (n + 1)) (i : Int) = some (levD (lev n l t i)) := fun i hi => by
    unfold certDs
    rw [atN (by rw [List.length_range]; exact hi), List.getElem_range]
  refine ⟨trivial, 14, rfl, by decide, by decide, fc, fun kd c' k0 k7 fc => ?_⟩
  refine ⟨trivial, ((n + 1 : Nat) : Int), by rw [hlen], by omega, by omega, fc, fun a c' a0 a1 fc => ?_⟩
  obtain ⟨a, rfl⟩ := toI a0
  refine ift_d (fun _ => ?_) fun _ => ?_
  · show (cutD (certDs n l t (n + 1)) none (some (a : Int))).length + (cutD (certDs n l t (n + 1)) (some ((a : Int) + 1)) none).length ≤ sizeLine ∧ _ ∧ ∃ c, _ ∧ Q (.fz (.tup (cutD (certDs n l t (n + 1)) none (some (a : Int)) ++ cutD (certDs n l t (n + 1)) (some ((a : Int) + 1)) none))) c
    rw [succ_c, cut_b, cut_a]
    refine ⟨by rw [List.length_take, List.length_drop]; omega, trivial, c', rfl, h _ c' fc (.inl ⟨_, rfl, DP.tup fun x hx => ?_⟩)⟩
    rcases List.mem_append.mp hx with hx | hx
    · exact hlm _ (List.mem_of_mem_take hx)
    · exact hlm _ (List.mem_of_mem_drop hx)
  refine ift_d (fun _ => ⟨rfl, c', rfl, h _ c' fc (.inr ⟨_, rfl, dp_lst _⟩)⟩) fun _ => ?_
  refine ift_d (fun _ => ⟨by show (0 : Nat) ≤ sizeLine; omega, by show (1 : Nat) ≤ sizeLine; omega, by rw [hlen]; show n + 1 + 1 ≤ _; omega, trivial, c', rfl, h _ c' fc (.inl ⟨_, rfl, DP.tup fun x hx => ?_⟩)⟩) fun _ => ?_
  · rcases List.mem_append.mp hx with hx | hx
    · exact hlm _ hx
    · rw [List.mem_singleton.mp hx]; exact DP.tup fun x hx => absurd hx (by simp)
  refine ift_d (fun _ => ⟨_, hat a (by omega), certDs n l t (n + 1), a, _, rfl, by omega, by omega, trivial, c', rfl, h _ c' fc (.inl ⟨_, rfl, put_dp hlm (dp_lst _)⟩)⟩) fun _ => ?_
  refine ift_d (fun _ => ?_) fun _ => ?_
  · refine ⟨by show (0 : Nat) ≤ sizeLine; omega, by show (5 : Nat) ≤ sizeLine; omega, trivial, 5, rfl, by decide, by decide, fc, fun r c' r0 r5 fc => ?_⟩
    have hr : ∃ d, atI [.non, .tup [], .int 0, .dk [] [], .str (PySem.Str.ofString "levels")] r = some d ∧ DP 4 d := by
      rcases (show r = 0 ∨ r = 1 ∨ r = 2 ∨ r = 3 ∨ r = 4 by omega) with rfl | rfl | rfl | rfl | rfl
      · exact ⟨_, rfl, DP.not rfl (fun _ z => by cases z) _⟩
      · exact ⟨_, rfl, DP.tup fun x hx => absurd hx (by simp)⟩
      · exact ⟨_, rfl, DP.int _⟩
      · exact ⟨_, rfl, DP.not rfl (fun _ z => by cases z) _⟩
      · exact ⟨_, rfl, DP.not rfl (fun _ z => by cases z) _⟩
    obtain ⟨d, hd, hdp⟩ := hr
    exact ⟨d, hd, trivial, c', rfl, h _ c' fc (.inl ⟨_, rfl, hdp⟩)⟩
  have hmain : ∀ (a : Nat) (c' : Mc), FeedOk c' → a < n + 1 → t__law_spoilt_8 (endB Q) [some (.mu false c'), some (.fz (certD n l t)), some (.fz (.int kd)), some (.fz (.int a)), none, none] := by
    intro a c' fc ha
    have hll := lev_len n l t a
    have hpw := pow7 (show a ≤ 7 by omega)
    have hld : DP 3 (levD (lev n l t a)) := due_dp (due_level (by omega))
    refine ⟨_, hat a ha, ?_⟩
    have hcut : ∀ m : Nat, DP 3 (.tup (((lev n l t a).map pd).take m)) := fun m => DP.tup fun x hx => hld.el x (List.mem_of_mem_take hx)
    have h5 : wRet (wCall R__law_put (wCons (wVar 1) (wCons (wVar 3) (wCons (wSlT (wVar 4) woNone (woSome (wNeg (wK (.int 1))))) wNil)))) (endB Q) [some (.mu false c'), some (.fz (certD n l t)), some (.fz (.int kd)), some (.fz (.int a)), some (.fz (levD (lev n l t a))), none] := by
      refine ⟨certDs n l t (n + 1), a, _, rfl, by omega, by omega, trivial, c', rfl, h _ c' fc (.inl ⟨_, rfl, put_dp hlm ?_⟩)⟩
      show DP 3 (.tup (cutD ((lev n l t a).map pd) none (some (-1))))
      rw [cut_m1, List.dropLast_eq_take]
      exact hcut _
    refine ift_d (fun _ => h5) fun hne => ?_
    rw [List.length_map] at hne
    refine ift_d (fun _ => h5) fun _ => ?_
    refine ift_d (fun _ => ?_) fun _ => ?_
    · show (cutD ((lev n l t a).map pd) (some ((1 : Nat) : Int)) none).length + (cutD ((lev n l t a).map pd) none (some ((1 : Nat) : Int))).length ≤ sizeLine ∧ _
      refine ⟨by rw [cut_a, cut_b, List.length_take, List.length_drop, List.length_map]; omega, ?_⟩
      refine ⟨certDs n l t (n + 1), a, _, rfl, by omega, by omega, trivial, c', rfl, h _ c' fc (.inl ⟨_, rfl, put_dp hlm ?_⟩)⟩
      show DP 3 (.tup (cutD ((lev n l t a).map pd) (some ((1 : Nat) : Int)) none ++ cutD ((lev n l t a).map pd) none (some ((1 : Nat) : Int))))
      rw [cut_a, cut_b]
      refine DP.tup fun x hx => ?_
      rcases List.mem_append.mp hx with hx | hx
      · exact hld.el x (List.mem_of_mem_drop hx)
      · exact hld.el x (List.mem_of_mem_take hx)
    · refine ⟨trivial, ((lev n l t a).length : Int), by rw [List.length_map], by omega, by omega, fc, fun i c' i0 i1 fc => ?_⟩
      obtain ⟨i, rfl⟩ := toI i0
      have hi : i < (lev n l t a).length := by omega
      have hpl := lev_mem (List.getElem_mem hi)
      refine ⟨trivial, _, atN hi, _, rfl, by omega, fc, fun dv c' fc hg => ?_⟩
      refine hg.thn fun d hd => ?_
      refine ⟨(lev n l t a).map pd, i, d, rfl, by rw [List.length_map]; omega, by rw [List.length_map]; omega, ?_⟩
      exact ⟨certDs n l t (n + 1), a, _, rfl, by omega, by omega, trivial, c', rfl, h _ c' fc (.inl ⟨_, rfl, put_dp hlm (put_dp hld.el hd)⟩)⟩
  refine ⟨_, hat a (by omega), ?_⟩
  refine ift_d (fun _ => ?_) fun _ => hmain a c' fc (by omega)
  refine ⟨trivial, 2, rfl, by decide, by decide, fc, fun b c' b0 b2 fc => ?_⟩
  obtain ⟨b, rfl⟩ := toI b0
  exact hmain b c' fc (by omega)
end L2.DL.Q

/-! # VT79.lean -/
set_option Elab.async false
set_option linter.all false
set_option maxRecDepth 100000
set_option maxHeartbeats 1000000
namespace L2.DL.Q
open PySem PySem.Spec PyProof.Rows M79
local macro_rules | `(tactic| walk_at "wk") => `(tactic| (repeat' first | exact True.intro | exact rfl | apply And.intro))
local macro_rules | `(tactic| walk_at "om") => `(tactic| (first | omega | (dsimp only; omega) | (dsimp only at *; omega)))
def R__law_refused : RF := fun ds Q => ∃ (what z : Int) (fd : D), ds = [.int what, .int z, fd] ∧ ¬ (1 ≤ z ∧ z ≤ 7) ∧ Q (.fz (.bl true))
def w__law_refused : WS :=
    (wSeq (wTry (tab3 xtab) [("InvalidNumber", some 3, fun a C d => (wRet (wBin (wEq false) (wXf a C d "InvalidNumber" "value" (wVar 3)) (wVar 1)))),
    ("NinthError", none, fun a C d => (wRet (wK (.bl false))))]
    (wIfS (wTest (wBin wEqI (wVar 0) (wK (.int 0))))
    (wExpr (wCallX R_signs (wCons (wVar 1) (wCons (wVar 2) wNil))))
    (wIfS (wTest (wBin wEqI (wVar 0) (wK (.int 1))))
    (wExpr (wCallX R_broken_bits (wCons (wVar 1) (wCons (wVar 2) wNil))))
    (wIfS (wTest (wBin wEqI (wVar 0) (wK (.int 2))))
    (wExpr (wCallX R_best_linear (wCons (wVar 1) (wCons (wVar 2) wNil))))
    (wIfS (wTest (wBin wEqI (wVar 0) (wK (.int 3))))
    (wExpr (wCallX R_weight (wCons (wVar 1) (wCons (wVar 2) (wCons (wTup wNil) wNil)))))
    (wIfS (wTest (wBin wEqI (wVar 0) (wK (.int 4))))
    (wExpr (wCallX R_near_linear (wCons (wVar 1) (wCons (wVar 2) (wCons (wK (.int 1)) wNil)))))
    (wIfS (wTest (wBin wEqI (wVar 0) (wK (.int 5))))
    (wExpr (wCallX R_near_certificate (wCons (wVar 1) (wCons (wVar 2) (wCons (wK (.int 1)) wNil)))))
    (wExpr (wCallX R_near_certificate_holds (wCons (wVar 1) (wCons (wVar 2) (wCons (wK (.int 1)) (wCons (wTup wNil) wNil)))))))))))))
    (wRet (wK (.bl false))))
abbrev N__law_refused : List Str := ["what", "n", "f", "e"]
theorem v__law_refused (ds Q) (h : R__law_refused ds Q) : w__law_refused (endF Q) (argD N__law_refused ds) := by
  obtain ⟨what, z, fd, rfl, hz, h⟩ := h
  have hsz := sizeLine_eq
  have key : ∀ ρ : DEnv, ρ = [some (.fz (.int what)), some (.fz (.int z)), some (.fz fd), none] → wHd (tab3 xtab) { (endF Q) with nx := fun ρ => wRet (wK (.bl false)) (endF Q) ρ } [("InvalidNumber", some 3, fun a C d => (wRet (wBin (wEq false) (wXf a C d "InvalidNumber" "value" (wVar 3)) (wVar 1)))), ("NinthError", none, fun a C d => (wRet (wK (.bl false))))] "InvalidNumber" [("value", .int z)] ρ := by
    rintro ρ rfl
    refine ⟨true, by decide, fun _ a dd => ?_, fun z => by cases z⟩
    refine ⟨rfl, rfl, rfl, _, rfl, _, deq_int z z, trivial, ?_⟩
    rw [decide_eq_true rfl]; exact h
  refine ift_d (fun _ => .inr ⟨hz, key _ rfl⟩) fun _ => ?_
  refine ift_d (fun _ => .inr ⟨hz, key _ rfl⟩) fun _ => ?_
  refine ift_d (fun _ => .inr ⟨hz, key _ rfl⟩) fun _ => ?_
  refine ift_d (fun _ => ⟨by show (0 : Nat) ≤ sizeLine; omega, .inr ⟨hz, key _ rfl⟩⟩) fun _ => ?_
  refine ift_d (fun _ => .inr ⟨hz, key _ rfl⟩) fun _ => ?_
  refine ift_d (fun _ => .inr ⟨hz, key _ rfl⟩) fun _ => ?_
  exact ⟨by show (0 : Nat) ≤ sizeLine; omega, .inr ⟨hz, key _ rfl⟩⟩
def R__law_level : RB := fun c ds Q => ∃ (n : Nat) (l : List Int) (what : Int), ds = [.int n, rowL l, .int what] ∧ Fd n l ∧ 1 ≤ n ∧ (∀ x, x ∈ l → -(l.length : Int) ≤ x ∧ x ≤ l.length) ∧ FeedOk c ∧ ∀ (t : Int) c', 1 ≤ t → t ≤ l.length → FeedOk c' → Q (.fz (.int t)) c'
def w__law_level : WS :=
    (wSeq (wSetF 4 (wCB wLen (wCons (wVar 2) wNil)))
    (wSeq (wIfS (wTest (wBin wGt (wVar 3) (wK (.int 4))))
    (wRet (wBin wAdd (wBin wAdd (wBin wDiv (wBin wMul (wVar 4) (wK (.int 3))) (wK (.int 7))) (wK (.int 1))) (wCallL R__law_draw 0 (wCons (wBin wSub (wVar 4) (wBin wDiv (wBin wMul (wVar 4) (wK (.int 3))) (wK (.int 7)))) wNil))))
    wNext)
    (wSeq (wSetF 5 (wCallL R__law_draw 0 (wCons (wK (.int 3)) wNil)))
    (wSeq (wIfS (wTest (wBin wEqI (wVar 5) (wK (.int 0))))
    (wRet (wCB wMaxI (wCons (wK (.int 1)) (wCons (wCB wMaxL (wCons (wVar 2) wNil)) wNil))))
    wNext)
    (wSeq (wIfS (wTest (wBin wEqI (wVar 5) (wK (.int 1))))
    (wRet (wCB wMaxI (wCons (wK (.int 1)) (wCons (wCB wMinI (wCons (wVar 4) (wCons (wBin wAdd (wBin wIx (wVar 2) (wCallL R__law_draw 0 (wCons (wVar 4) wNil))) (wCallL R__law_draw 0 (wCons (wK (.int 2)) wNil))) wNil))) wNil))))
    wNext)
    (wRet (wBin wAdd (wK (.int 1)) (wCallL R__law_draw 0 (wCons (wVar 4) wNil)))))))))
abbrev N__law_level : List Str := ["feed", "n", "told", "what", "size", "kind"]
theorem v__law_level (c ds Q) (h : R__law_level c ds Q) : w__law_level (endB Q) (argB N__law_level c ds) := by
  obtain ⟨n, l, what, rfl, F, h1, hb, fc, h⟩ := h
  have hp := F.p
  have hl2 : 2 ≤ l.length := by
    rw [F.len]
    have := Nat.pow_le_pow_right (n := 2) (by omega) h1
    omega
  have el : ((l.map D.int).length : Int) = l.length := by rw [List.length_map]
  show ift _ _ _
  refine ift_d (fun hw => ?_) fun hw => ?_
  · refine ⟨cmulR (by decide) (by decide), ⟨by decide, by decide⟩, trivial, cmulR (by decide) (by decide), ⟨by decide, by decide⟩, _, rfl, by rw [el]; omega, by rw [el]; omega, fc, fun r c' r0 r1 fc => ?_⟩
    rw [el] at r1
    refine ⟨trivial, c', rfl, ?_⟩
    rw [el]
    exact h _ c' (by omega) (by omega) fc
  refine ⟨trivial, 3, rfl, by decide, by decide, fc, fun kd c' k0 k3 fc => ?_⟩
  refine ift_d (fun _ => ?_) fun _ => ?_
  · refine ⟨l, ints_map l, by omega, fun m m1 m2 => ⟨trivial, c', rfl, ?_⟩⟩
    have := hb m m1
    refine h _ c' ?_ ?_ fc <;> (split <;> omega)
  refine ift_d (fun _ => ?_) fun _ => ?_
  · refine ⟨trivial, _, rfl, by rw [el]; omega, by rw [el]; omega, fc, fun a c' a0 a1 fc => ?_⟩
    rw [el] at a1
    refine ⟨_, atG a0 (by omega), trivial, 2, rfl, by decide, by decide, fc, fun b c' b0 b2 fc => ⟨trivial, c', rfl, ?_⟩⟩
    rw [el]
    refine h _ c' ?_ ?_ fc <;> (repeat' split) <;> omega
  · refine ⟨trivial, _, rfl, by rw [el]; omega, by rw [el]; omega, fc, fun a c' a0 a1 fc => ⟨trivial, c', rfl, ?_⟩⟩
    rw [el] at a1
    exact h _ c' (by omega) (by omega) fc
def R__law_judged : RB := fun c ds Q => ∃ (n : Nat) (f : List Int) (t : Int), ds = [.int n, rowD f, .int t, certD n (sgs n f) t] ∧ Tab n f ∧ 1 ≤ t ∧ t ≤ f.length ∧ FeedOk c ∧ ∀ c', FeedOk c' → Q (.fz (.bl true)) c'
def w__law_judged : WS :=
    (wSeq (wIfS (wTest (wBin (wIsB true) (wCallN R_near_certificate_holds (wCons (wVar 1) (wCons (wVar 2) (wCons (wVar 3) (wCons (wVar 4) wNil))))) (wK (.bl true))))
    (wRet (wK (.bl false)))
    wNext)
    (wSeq (wSetF 5 (wCallL R__law_spoilt 0 (wCons (wVar 4) wNil)))
    (wSeq (wSetF 6 (wCallN R_near_certificate_holds (wCons (wVar 1) (wCons (wVar 2) (wCons (wVar 3) (wCons (wVar 5) wNil))))))
    (wRet (wAndV (wCB (wIsiX xoc .bool) (wCons (wVar 6) (wCons (wK (.ty "bool")) wNil))) (wBin (wEq false) (wVar 6) (wCall (R__law_same 5) (wCons (wVar 5) (wCons (wVar 4) wNil)))))))))
abbrev N__law_judged : List Str := ["feed", "n", "f", "t", "levels", "made", "held"]
theorem v__law_judged (c ds Q) (h : R__law_judged c ds Q) : w__law_judged (endB Q) (argB N__law_judged c ds) := by
  obtain ⟨n, f, t, rfl, T, t1, t2, fc, h⟩ := h
  have hd := due_cert (n := n) (l := sgs n f) (t := t) T.n7
  refine .inl ⟨n, f, ⟨rfl, rfl, T⟩, t1, t2, due_dp hd, ?_⟩
  rw [eqb_t rfl]
  refine ⟨trivial, n, sgs n f, t, rfl, T.n1, T.n7, fc, fun dv c' fc hg => hg.thn fun d hd1 => ?_⟩
  refine .inl ⟨n, f, ⟨rfl, rfl, T⟩, t1, t2, hd1, ?_⟩
  refine ⟨rfl, rfl, ift_t rfl ?_⟩
  refine ⟨_, _, rfl, hd1, hd, _, deq_bl _ _, trivial, c', rfl, ?_⟩
  rw [decide_eq_true rfl]
  exact h c' fc
def R__law_right : RB := fun c ds Q => ∃ (what : Int) (n : Nat) (f : List Int), ds = [.int what, .int n, rowD f] ∧ Tab n f ∧ FeedOk c ∧ ∀ c', FeedOk c' → Q (.fz (.bl true)) c'
def w__law_right : WS :=
    (wSeq (wSetF 4 (wCall R__law_signs (wCons (wVar 2) (wCons (wVar 3) wNil))))
    (wSeq (wSetF 5 (wCallL R__law_level 0 (wCons (wVar 2) (wCons (wVar 4) (wCons (wVar 1) wNil)))))
    (wSeq (wIfS (wTest (wBin wEqI (wVar 1) (wK (.int 0))))
    (wRet (wCall (R__law_same 5) (wCons (wCallN R_signs (wCons (wVar 2) (wCons (wVar 3) wNil))) (wCons (wCB wTupleOf (wCons (wVar 4) wNil)) wNil))))
    wNext)
    (wSeq (wIfS (wTest (wBin wEqI (wVar 1) (wK (.int 1))))
    (wRet (wCall (R__law_same 5) (wCons (wCallN R_broken_bits (wCons (wVar 2) (wCons (wVar 3) wNil))) (wCons (wCall R__law_broken (wCons (wVar 3) wNil)) wNil))))
    wNext)
    (wSeq (wIfS (wTest (wBin wEqI (wVar 1) (wK (.int 2))))
    (wRet (wCall (R__law_same 5) (wCons (wCallN R_best_linear (wCons (wVar 2) (wCons (wVar 3) wNil))) (wCons (wLIx (wVar 4) (wCB wMaxL (wCons (wVar 4) wNil))) wNil))))
    wNext)
    (wSeq (wIfS (wTest (wBin wEqI (wVar 1) (wK (.int 3))))
    (wSeq (wSetF 6 (wCB wTupleOf (wCons (wSlL (wCall R__law_bits (wCons (wVar 2) (wCons (wCallL R__law_draw 0 (wCons (wCB wLen (wCons (wVar 4) wNil)) wNil)) wNil))) woNone (woSome (wCallL R__law_draw 0 (wCons (wBin wAdd (wVar 2) (wK (.int 1))) wNil)))) wNil)))
    (wRet (wCall (R__law_same 5) (wCons (wCallN R_weight (wCons (wVar 2) (wCons (wVar 3) (wCons (wVar 6) wNil)))) (wCons (wCall R__law_weight (wCons (wVar 2) (wCons (wVar 4) (wCons (wVar 6) wNil)))) wNil)))))
    wNext)
    (wSeq (wIfS (wTest (wBin wEqI (wVar 1) (wK (.int 4))))
    (wRet (wCall (R__law_same 5) (wCons (wCallN R_near_linear (wCons (wVar 2) (wCons (wVar 3) (wCons (wVar 5) wNil)))) (wCons (wCB wTupleOf (wCons (wLc (wRng1 (wCons (wCB wLen (wCons (wVar 4) wNil)) wNil)) (wgName 8) (wTest (wBin wGe (wBin wIx (wVar 4) (wVar 8)) (wVar 5))) (wVar 8) [8]) wNil)) wNil))))
    wNext)
    (wSeq (wSetF 7 (wCall R__law_levels (wCons (wVar 2) (wCons (wVar 4) (wCons (wVar 5) wNil)))))
    (wSeq (wIfS (wTest (wBin wEqI (wVar 1) (wK (.int 5))))
    (wRet (wCall (R__law_same 5) (wCons (wCallN R_near_certificate (wCons (wVar 2) (wCons (wVar 3) (wCons (wVar 5) wNil)))) (wCons (wVar 7) wNil))))
    wNext)
    (wRet (wCallL R__law_judged 0 (wCons (wVar 2) (wCons (wVar 3) (wCons (wVar 5) (wCons (wVar 7) wNil)))))))))))))))
abbrev N__law_right : List Str := ["feed", "what", "n", "f", "told", "t", "bits", "levels", "a"]
theorem v__law_right (c ds Q) (h : R__law_right c ds Q) : w__law_right (endB Q) (argB N__law_right c ds) := by
  obtain ⟨what, n, f, rfl, T, fc, h⟩ := h
  have hp := T.p
  have h7 := T.n7
  have F := fd_of T
  have hsl : (sgs n f).length = f.length := sgs_len n f
  have hbd := T.bd
  refine ⟨n, f, rfl, T, ?_⟩
  have el : (((sgs n f).map D.int).length : Int) = f.length := by rw [List.length_map, hsl]
  refine ⟨trivial, n, sgs n f, what, rfl, F, T.n1, by rw [hsl]; exact hbd, fc, fun t c' t1 t2 fc => ?_⟩
  rw [hsl] at t2
  have good : ∀ (d : D) (c' : Mc), FeedOk c' → Due 4 d → ∃ told due, [d, d] = [told, due] ∧ DP 4 told ∧ Due 4 due ∧ ((DV.fz (.bl (eqb told due))).mine ∧ ∃ c, (some (some (DV.mu false c')) = some (some (DV.mu false c)) ∧ Q (.fz (.bl (eqb told due))) c)) := fun d c' fc hd => ⟨d, d, rfl, due_dp hd, hd, trivial, c', rfl, by rw [eqb_t rfl]; exact h c' fc⟩
  refine ift_d (fun _ => ?_) fun _ => ?_
  · refine .inl ⟨n, f, ⟨rfl, rfl, T⟩, ?_⟩
    exact good _ c' fc (due_row (by omega) 3)
  refine ift_d (fun _ => ?_) fun _ => ?_
  · refine .inl ⟨n, f, ⟨rfl, rfl, T⟩, ?_⟩
    refine ⟨n, f, rfl, T, ?_⟩
    exact good _ c' fc (due_int _)
  refine ift_d (fun _ => ?_) fun _ => ?_
  · refine .inl ⟨n, f, ⟨rfl, rfl, T⟩, fun m j m1 m2 ej hj => ?_⟩
    refine ⟨_, ints_map _, by omega, fun m' m1' m2' => ⟨_, j, ints_map _, ?_, ?_, ?_⟩⟩
    · rw [max_uni m1 m2 m1' m2']; exact ej
    · rw [max_uni m1 m2 m1' m2']; exact hj
    · exact good _ c' fc (due_int _)
  refine ift_d (fun _ => ?_) fun _ => ?_
  · refine ⟨trivial, _, rfl, by rw [el]; omega, by rw [el]; omega, fc, fun x c' _ _ fc => ?_⟩
    refine ⟨n, x, rfl, h7, fun bits bl bb => ?_⟩
    refine ⟨trivial, _, rfl, by omega, by omega, fc, fun m c' m0 m1 fc => ?_⟩
    obtain ⟨m, rfl⟩ := toI m0
    have ec : cutD (bits.map D.int) none (some (m : Int)) = (bits.take m).map .int := by rw [cut_b, List.map_take]
    have hb1 : (bits.take m).length ≤ n := by rw [List.length_take]; omega
    have hb2 : Bits (bits.take m) := fun y hy => bb y (List.mem_of_mem_take hy)
    refine .inl ⟨n, f, bits.take m, ⟨rfl, rfl, T⟩, congrArg D.tup ec, hb1, hb2, ?_⟩
    refine ⟨n, sgs n f, bits.take m, ?_, F, hb1, hb2, ?_⟩
    · show [_, _, D.tup (cutD (bits.map D.int) none (some (m : Int)))] = _
      rw [ec]
    · exact good _ c' fc (due_int _)
  refine ift_d (fun _ => ?_) fun _ => ?_
  · refine .inl ⟨n, f, ⟨rfl, rfl, T⟩, t1, t2, ?_⟩
    refine ⟨by omega, by rw [el]; omega, ?_⟩
    rw [el, rng0, Int.toNat_natCast]
    refine LcP.filtL (ρw := [some (.mu false c'), some (.fz (.int what)), some (.fz (.int n)), some (.fz (rowD f)), some (.fz (rowL (sgs n f))), some (.fz (.int t)), none, none, none]) (fun i => decide (t ≤ (sgs n f).getD i 0)) (fun i => .int i) (by rw [List.length_range, line]; omega) (by walk_at "wk") (fun i hi TT S h1 h2 => ?_) ?_
    · have hi := List.mem_range.mp hi
      refine ⟨_, atG (by omega) (by omega), ?_⟩
      rw [Int.toNat_natCast]
      refine ift_of (fun e => ?_) fun e => ?_
      · exact h1 e _ (by walk_at "wk")
      · exact h2 e _ (by walk_at "wk")
    · have e : (nears (sgs n f) t).map (fun i : Nat => D.int i) = ((nears (sgs n f) t).map fun i : Nat => (i : Int)).map D.int := by rw [List.map_map]; rfl
      have hnl : (nears (sgs n f) t).length ≤ 300 := by
        unfold nears
        have := List.length_filter_le (fun i => decide (t ≤ (sgs n f).getD i 0)) (List.range (sgs n f).length)
        rw [List.length_range] at this
        omega
      have e2 : (List.range f.length).filter (fun i => decide (t ≤ (sgs n f).getD i 0)) = nears (sgs n f) t := by unfold nears; rw [hsl]
      rw [e2]
      refine good (.tup ((nears (sgs n f) t).map fun i : Nat => D.int i)) c' fc ?_
      rw [e]
      exact due_row (by rw [List.length_map]; exact hnl) 3
  refine ⟨n, sgs n f, t, rfl, F, t1, by omega, ?_⟩
  refine ift_d (fun _ => ?_) fun _ => ?_
  · refine .inl ⟨n, f, ⟨rfl, rfl, T⟩, t1, t2, ?_⟩
    exact good _ c' fc (due_cert h7)
  · exact ⟨trivial, n, f, t, rfl, T, t1, t2, fc, fun c' fc => ⟨trivial, c', rfl, h c' fc⟩⟩
end L2.DL.Q

/-! # VR79.lean -/
set_option Elab.async false
set_option linter.all false
set_option maxRecDepth 100000
set_option maxHeartbeats 1000000
namespace L2.DL.Q
open PySem PySem.Spec PyProof.Rows M79
def R_law : RF := fun ds Q => ∃ ns : List Int, ds = [.scr (ns.map .int)] ∧ ns.length ≤ 63 ∧ Q (.fz (.bl true))
def w_law : WS :=
    (wSeq (wSet 1 (wCall R__law_feed (wCons (wVar 0) wNil)))
    (wSeq (wSetF 2 (wK (.int 7)))
    (wSeq (wIfS (wTest (wBin wEqI (wCallL R__law_draw 1 (wCons (wK (.int 4)) wNil)) (wK (.int 0))))
    (wSetF 2 (wBin wAdd (wK (.int 1)) (wCallL R__law_draw 1 (wCons (wK (.int 6)) wNil))))
    wNext)
    (wSeq (wSetF 3 (wCallL R__law_draw 1 (wCons (wK (.int 7)) wNil)))
    (wSeq (wIfS (wTest (wBin wEqI (wCallL R__law_draw 1 (wCons (wK (.int 16)) wNil)) (wK (.int 0))))
    (wSeq (wIfS (wTest (wBin wEqI (wCallL R__law_draw 1 (wCons (wK (.int 2)) wNil)) (wK (.int 0))))
    (wRet (wCall R__law_refused (wCons (wVar 3) (wCons (wK (.int 8)) (wCons (wCB wTupleOf (wCons (wBin wCatL (wCallL R__law_table 1 (wCons (wK (.int 7)) wNil)) (wCallL R__law_table 1 (wCons (wK (.int 7)) wNil))) wNil)) wNil)))))
    wNext)
    (wRet (wCall R__law_refused (wCons (wVar 3) (wCons (wK (.int 0)) (wCons (wTup (wCons (wCallL R__law_draw 1 (wCons (wK (.int 2)) wNil)) wNil)) wNil))))))
    wNext)
    (wSeq (wSetF 4 (wCB wTupleOf (wCons (wCallL R__law_table 1 (wCons (wVar 2) wNil)) wNil)))
    (wRet (wCallL R__law_right 1 (wCons (wVar 3) (wCons (wVar 2) (wCons (wVar 4) wNil)))))))))))
abbrev N_law : List Str := ["script", "feed", "n", "what", "f"]
def t_law_3 : WS := (wSeq (wSetF 3 (wCallL R__law_draw 1 (wCons (wK (.int 7)) wNil)))
    (wSeq (wIfS (wTest (wBin wEqI (wCallL R__law_draw 1 (wCons (wK (.int 16)) wNil)) (wK (.int 0))))
    (wSeq (wIfS (wTest (wBin wEqI (wCallL R__law_draw 1 (wCons (wK (.int 2)) wNil)) (wK (.int 0))))
    (wRet (wCall R__law_refused (wCons (wVar 3) (wCons (wK (.int 8)) (wCons (wCB wTupleOf (wCons (wBin wCatL (wCallL R__law_table 1 (wCons (wK (.int 7)) wNil)) (wCallL R__law_table 1 (wCons (wK (.int 7)) wNil))) wNil)) wNil)))))
    wNext)
    (wRet (wCall R__law_refused (wCons (wVar 3) (wCons (wK (.int 0)) (wCons (wTup (wCons (wCallL R__law_draw 1 (wCons (wK (.int 2)) wNil)) wNil)) wNil))))))
    wNext)
    (wSeq (wSetF 4 (wCB wTupleOf (wCons (wCallL R__law_table 1 (wCons (wVar 2) wNil)) wNil)))
    (wRet (wCallL R__law_right 1 (wCons (wVar 3) (wCons (wVar 2) (wCons (wVar 4) wNil))))))))
theorem law_tail {n : Nat} {s : DV} {c : Mc} {Q : DV → Prop} (h1 : 1 ≤ n) (h7 : n ≤ 7) (fc : FeedOk c) (h : Q (.fz (.bl true))) : t_law_3 (endF Q) [some s, some (.mu true c), some (.fz (.int n)), none, none] := by
  have hsz := sizeLine_eq
  refine ⟨trivial, 7, rfl, by decide, by decide, fc, fun what c' w0 w7 fc => ?_⟩
  refine ⟨trivial, 16, rfl, by decide, by decide, fc, fun kd c' k0 k7 fc => ?_⟩
  refine ift_d (fun _ => ?_) fun _ => ?_
  · refine ⟨trivial, 2, rfl, by decide, by decide, fc, fun kd c' k0 k7 fc => ?_⟩
    refine ift_d (fun _ => ?_) fun _ => ?_
    · refine ⟨trivial, 7, rfl, by decide, by decide, fc, fun row c' rl rb fc => ?_⟩
      refine ⟨trivial, 7, rfl, by decide, by decide, fc, fun row2 c' rl2 rb2 fc => ?_⟩
      refine ⟨by show (row.map D.int).length + (row2.map D.int).length ≤ _; rw [List.length_map, List.length_map, rl, rl2]; omega, ?_⟩
      exact ⟨what, 8, _, rfl, by omega, trivial, h⟩
    · refine ⟨trivial, 2, rfl, by decide, by decide, fc, fun b c' b0 b2 fc => ?_⟩
      exact ⟨by show (1 : Nat) ≤ sizeLine; omega, what, 0, _, rfl, by omega, trivial, h⟩
  · refine ⟨trivial, n, rfl, h1, h7, fc, fun row c' rl rb fc => ?_⟩
    exact ⟨trivial, what, n, row, rfl, ⟨h1, h7, rl, rb⟩, fc, fun c' fc => ⟨trivial, h⟩⟩
theorem v_law (ds Q) (h : R_law ds Q) : w_law (endF Q) (argD N_law ds) := by
  obtain ⟨ns, rfl, hl, h⟩ := h
  refine ⟨ns, rfl, hl, fun c fc => ?_⟩
  refine ⟨trivial, 4, rfl, by decide, by decide, fc, fun kd c' k0 k4 fc => ?_⟩
  refine ift_d (fun _ => ?_) fun _ => ?_
  · refine ⟨trivial, 6, rfl, by decide, by decide, fc, fun r c' r0 r6 fc => ?_⟩
    obtain ⟨r, rfl⟩ := toI r0
    have e : (1 : Int) + (r : Int) = ((1 + r : Nat) : Int) := by omega
    show t_law_3 (endF Q) [_, some (.mu true c'), some (.fz (.int ((1 : Int) + (r : Int)))), none, none]
    rw [e]
    exact law_tail (by omega) (by omega) fc h
  · exact law_tail (n := 7) (by omega) (by omega) fc h
end L2.DL.Q

/-! # J79.lean -/
set_option Elab.async false
set_option linter.all false
set_option maxRecDepth 100000
set_option maxHeartbeats 4000000
namespace L2.DL.Q
open PySem PySem.Spec PyProof.Rows
def top (i : Nat) : Stmt := PySem.Challenge.pw_nearrealm_k79_seven_bits.main.body.getD i (.Pass ⟨0, 0, 0, 0⟩)
def inCls (st : Stmt) (j : Nat) : Stmt := match st with
  | .ClassDef _ _ _ body _ _ _ _ _ _ _ => body.getD j (.Pass ⟨0, 0, 0, 0⟩)
  | _ => st
abbrev s_i_InvalidNumber : Stmt := inCls (top 4) 0
abbrev s_i_InvalidSubset : Stmt := inCls (top 5) 0
abbrev s_i_InvalidMap : Stmt := inCls (top 6) 0
abbrev s_is_integer : Stmt := top 8
abbrev s_is_number : Stmt := top 9
abbrev s_is_below : Stmt := top 10
abbrev s_row_below : Stmt := top 11
abbrev s_check_bits : Stmt := top 14
abbrev s_signs : Stmt := top 15
abbrev s_broken_bits : Stmt := top 16
abbrev s_best_linear : Stmt := top 17
abbrev s_is_beginning : Stmt := top 19
abbrev s_weight_of : Stmt := top 20
abbrev s_weight : Stmt := top 21
abbrev s_check_near : Stmt := top 22
abbrev s_near_linear : Stmt := top 23
abbrev s_near_certificate : Stmt := top 24
abbrev s_is_level : Stmt := top 25
abbrev s_near_certificate_holds : Stmt := top 26
abbrev s_Share_init : Stmt := inCls (top 29) 0
abbrev s__law_feed : Stmt := top 31
abbrev s__law_draw : Stmt := top 32
abbrev s__law_size : Stmt := top 33
abbrev s__law_bits : Stmt := top 34
abbrev s__law_linear : Stmt := top 35
abbrev s__law_table : Stmt := top 36
abbrev s__law_signs : Stmt := top 37
abbrev s__law_broken : Stmt := top 38
abbrev s__law_weight : Stmt := top 39
abbrev s__law_levels : Stmt := top 40
abbrev s__law_same : Stmt := top 41
abbrev s__law_put : Stmt := top 42
abbrev s__law_like : Stmt := top 43
abbrev s__law_pair_spoilt : Stmt := top 44
abbrev s__law_spoilt : Stmt := top 45
abbrev s__law_refused : Stmt := top 46
abbrev s__law_level : Stmt := top 47
abbrev s__law_judged : Stmt := top 48
abbrev s__law_right : Stmt := top 49
abbrev s_law : Stmt := top 50
structure Ad where
  a_is_integer : Addr
  d_is_integer : FuncData
  a_is_number : Addr
  d_is_number : FuncData
  a_is_below : Addr
  d_is_below : FuncData
  a_row_below : Addr
  d_row_below : FuncData
  a_check_bits : Addr
  d_check_bits : FuncData
  a_signs : Addr
  d_signs : FuncData
  a_broken_bits : Addr
  d_broken_bits : FuncData
  a_best_linear : Addr
  d_best_linear : FuncData
  a_is_beginning : Addr
  d_is_beginning : FuncData
  a_weight_of : Addr
  d_weight_of : FuncData
  a_weight : Addr
  d_weight : FuncData
  a_check_near : Addr
  d_check_near : FuncData
  a_near_linear : Addr
  d_near_linear : FuncData
  a_near_certificate : Addr
  d_near_certificate : FuncData
  a_is_level : Addr
  d_is_level : FuncData
  a_near_certificate_holds : Addr
  d_near_certificate_holds : FuncData
  d_Share_init : FuncData
  a__law_feed : Addr
  d__law_feed : FuncData
  a__law_draw : Addr
  d__law_draw : FuncData
  a__law_size : Addr
  d__law_size : FuncData
  a__law_bits : Addr
  d__law_bits : FuncData
  a__law_linear : Addr
  d__law_linear : FuncData
  a__law_table : Addr
  d__law_table : FuncData
  a__law_signs : Addr
  d__law_signs : FuncData
  a__law_broken : Addr
  d__law_broken : FuncData
  a__law_weight : Addr
  d__law_weight : FuncData
  a__law_levels : Addr
  d__law_levels : FuncData
  a__law_same : Addr
  d__law_same : FuncData
  a__law_put : Addr
  d__law_put : FuncData
  a__law_like : Addr
  d__law_like : FuncData
  a__law_pair_spoilt : Addr
  d__law_pair_spoilt : FuncData
  a__law_spoilt : Addr
  d__law_spoilt : FuncData
  a__law_refused : Addr
  d__law_refused : FuncData
  a__law_level : Addr
  d__law_level : FuncData
  a__law_judged : Addr
  d__law_judged : FuncData
  a__law_right : Addr
  d__law_right : FuncData
  a_law : Addr
  d_law : FuncData
  d_i_InvalidNumber : FuncData
  d_i_InvalidSubset : FuncData
  d_i_InvalidMap : FuncData
structure Txt (K : PySem.W.Frag) (mg : Str → Option Value) (A : Ad) : Prop where
  gx_NinthError : mg "NinthError" = some (.ref (He.ga K "NinthError"))
  gx_InvalidNumber : mg "InvalidNumber" = some (.ref (He.ga K "InvalidNumber"))
  gx_InvalidSubset : mg "InvalidSubset" = some (.ref (He.ga K "InvalidSubset"))
  gx_InvalidMap : mg "InvalidMap" = some (.ref (He.ga K "InvalidMap"))
  x_InvalidNumber : XCls K "InvalidNumber" ["value"]
  fi_InvalidNumber : Fun K "__init__" "InvalidNumber.__init__" s_i_InvalidNumber (He.ma K (He.ga K "InvalidNumber") "__init__") A.d_i_InvalidNumber
  ni_InvalidNumber : Binds K A.d_i_InvalidNumber ["self", "value"] []
  x_InvalidSubset : XCls K "InvalidSubset" ["value"]
  fi_InvalidSubset : Fun K "__init__" "InvalidSubset.__init__" s_i_InvalidSubset (He.ma K (He.ga K "InvalidSubset") "__init__") A.d_i_InvalidSubset
  ni_InvalidSubset : Binds K A.d_i_InvalidSubset ["self", "value"] []
  x_InvalidMap : XCls K "InvalidMap" ["value"]
  fi_InvalidMap : Fun K "__init__" "InvalidMap.__init__" s_i_InvalidMap (He.ma K (He.ga K "InvalidMap") "__init__") A.d_i_InvalidMap
  ni_InvalidMap : Binds K A.d_i_InvalidMap ["self", "value"] []
  xtC : ∀ C c b, tab3 xtab C c = some b → ExcC K (He.ga K C)
  exm : ∀ C c b, tab3 xtab C c = some b → PySem.W.exmOne K (.ref (He.ga K C)) (.ref (He.ga K c)) = some b
  kit : ∀ C c b, tab3 xtab C c = some b → PySem.W.kitOne K (.ref (He.ga K C)) (.ref (He.ga K c)) = some b
  oc : ∀ C, C ∈ xoc → InsT K C
  cl_Share : Cls K (He.ga K "Share")
  gc_Share : mg "Share" = some (.ref (He.ga K "Share"))
  no_Share_top : NoAttr K (He.ga K "Share") "top"
  no_Share_bottom : NoAttr K (He.ga K "Share") "bottom"
  mk_Share : Mk K (He.ga K "Share") (He.ma K (He.ga K "Share") "__init__")
  bf_gcd : mg "gcd" = some (.builtin "math.gcd")
  b_int : mg "int" = none
  b_isinstance : mg "isinstance" = none
  b_bool : mg "bool" = none
  b_tuple : mg "tuple" = none
  b_len : mg "len" = none
  b_range : mg "range" = none
  b_enumerate : mg "enumerate" = none
  b_max : mg "max" = none
  b_sum : mg "sum" = none
  b_all : mg "all" = none
  b_abs : mg "abs" = none
  b_list : mg "list" = none
  b_min : mg "min" = none
  c_MOST_BITS : ∃ t, mg "MOST_BITS" = some (.int 7 t)
  g_is_integer : mg "is_integer" = some (.ref A.a_is_integer)
  k_is_integer : PySem.W.keepIn K (.ref A.a_is_integer) = true
  f_is_integer : Fun K "is_integer" "is_integer" s_is_integer A.a_is_integer A.d_is_integer
  n_is_integer : Binds K A.d_is_integer ["value"] []
  g_is_number : mg "is_number" = some (.ref A.a_is_number)
  k_is_number : PySem.W.keepIn K (.ref A.a_is_number) = true
  f_is_number : Fun K "is_number" "is_number" s_is_number A.a_is_number A.d_is_number
  n_is_number : Binds K A.d_is_number ["value"] []
  g_is_below : mg "is_below" = some (.ref A.a_is_below)
  k_is_below : PySem.W.keepIn K (.ref A.a_is_below) = true
  f_is_below : Fun K "is_below" "is_below" s_is_below A.a_is_below A.d_is_below
  n_is_below : Binds K A.d_is_below ["value", "bound"] []
  g_row_below : mg "row_below" = some (.ref A.a_row_below)
  k_row_below : PySem.W.keepIn K (.ref A.a_row_below) = true
  f_row_below : Fun K "row_below" "row_below" s_row_below A.a_row_below A.d_row_below
  n_row_below : Binds K A.d_row_below ["value", "length", "bound"] []
  g_check_bits : mg "check_bits" = some (.ref A.a_check_bits)
  k_check_bits : PySem.W.keepIn K (.ref A.a_check_bits) = true
  f_check_bits : Fun K "check_bits" "check_bits" s_check_bits A.a_check_bits A.d_check_bits
  n_check_bits : Binds K A.d_check_bits ["n", "f"] []
  g_signs : mg "signs" = some (.ref A.a_signs)
  k_signs : PySem.W.keepIn K (.ref A.a_signs) = true
  f_signs : Fun K "signs" "signs" s_signs A.a_signs A.d_signs
  n_signs : Binds K A.d_signs ["n", "f"] []
  g_broken_bits : mg "broken_bits" = some (.ref A.a_broken_bits)
  k_broken_bits : PySem.W.keepIn K (.ref A.a_broken_bits) = true
  f_broken_bits : Fun K "broken_bits" "broken_bits" s_broken_bits A.a_broken_bits A.d_broken_bits
  n_broken_bits : Binds K A.d_broken_bits ["n", "f"] []
  g_best_linear : mg "best_linear" = some (.ref A.a_best_linear)
  k_best_linear : PySem.W.keepIn K (.ref A.a_best_linear) = true
  f_best_linear : Fun K "best_linear" "best_linear" s_best_linear A.a_best_linear A.d_best_linear
  n_best_linear : Binds K A.d_best_linear ["n", "f"] []
  g_is_beginning : mg "is_beginning" = some (.ref A.a_is_beginning)
  k_is_beginning : PySem.W.keepIn K (.ref A.a_is_beginning) = true
  f_is_beginning : Fun K "is_beginning" "is_beginning" s_is_beginning A.a_is_beginning A.d_is_beginning
  n_is_beginning : Binds K A.d_is_beginning ["n", "value"] []
  g_weight_of : mg "weight_of" = some (.ref A.a_weight_of)
  k_weight_of : PySem.W.keepIn K (.ref A.a_weight_of) = true
  f_weight_of : Fun K "weight_of" "weight_of" s_weight_of A.a_weight_of A.d_weight_of
  n_weight_of : Binds K A.d_weight_of ["n", "found", "beginning"] []
  g_weight : mg "weight" = some (.ref A.a_weight)
  k_weight : PySem.W.keepIn K (.ref A.a_weight) = true
  f_weight : Fun K "weight" "weight" s_weight A.a_weight A.d_weight
  n_weight : Binds K A.d_weight ["n", "f", "beginning"] []
  g_check_near : mg "check_near" = some (.ref A.a_check_near)
  k_check_near : PySem.W.keepIn K (.ref A.a_check_near) = true
  f_check_near : Fun K "check_near" "check_near" s_check_near A.a_check_near A.d_check_near
  n_check_near : Binds K A.d_check_near ["n", "f", "t"] []
  g_near_linear : mg "near_linear" = some (.ref A.a_near_linear)
  k_near_linear : PySem.W.keepIn K (.ref A.a_near_linear) = true
  f_near_linear : Fun K "near_linear" "near_linear" s_near_linear A.a_near_linear A.d_near_linear
  n_near_linear : Binds K A.d_near_linear ["n", "f", "t"] []
  g_near_certificate : mg "near_certificate" = some (.ref A.a_near_certificate)
  k_near_certificate : PySem.W.keepIn K (.ref A.a_near_certificate) = true
  f_near_certificate : Fun K "near_certificate" "near_certificate" s_near_certificate A.a_near_certificate A.d_near_certificate
  n_near_certificate : Binds K A.d_near_certificate ["n", "f", "t"] []
  g_is_level : mg "is_level" = some (.ref A.a_is_level)
  k_is_level : PySem.W.keepIn K (.ref A.a_is_level) = true
  f_is_level : Fun K "is_level" "is_level" s_is_level A.a_is_level A.d_is_level
  n_is_level : Binds K A.d_is_level ["value", "length"] []
  g_near_certificate_holds : mg "near_certificate_holds" = some (.ref A.a_near_certificate_holds)
  k_near_certificate_holds : PySem.W.keepIn K (.ref A.a_near_certificate_holds) = true
  f_near_certificate_holds : Fun K "near_certificate_holds" "near_certificate_holds" s_near_certificate_holds A.a_near_certificate_holds A.d_near_certificate_holds
  n_near_certificate_holds : Binds K A.d_near_certificate_holds ["n", "f", "t", "certificate"] []
  f_Share_init : Fun K "__init__" "Share.__init__" s_Share_init (He.ma K (He.ga K "Share") "__init__") A.d_Share_init
  n_Share_init : Binds K A.d_Share_init ["self", "top", "bottom"] []
  g__law_feed : mg "_law_feed" = some (.ref A.a__law_feed)
  k__law_feed : PySem.W.keepIn K (.ref A.a__law_feed) = true
  f__law_feed : Fun K "_law_feed" "_law_feed" s__law_feed A.a__law_feed A.d__law_feed
  n__law_feed : Binds K A.d__law_feed ["script"] []
  g__law_draw : mg "_law_draw" = some (.ref A.a__law_draw)
  k__law_draw : PySem.W.keepIn K (.ref A.a__law_draw) = true
  f__law_draw : Fun K "_law_draw" "_law_draw" s__law_draw A.a__law_draw A.d__law_draw
  n__law_draw : Binds K A.d__law_draw ["feed", "many"] []
  g__law_size : mg "_law_size" = some (.ref A.a__law_size)
  k__law_size : PySem.W.keepIn K (.ref A.a__law_size) = true
  f__law_size : Fun K "_law_size" "_law_size" s__law_size A.a__law_size A.d__law_size
  n__law_size : Binds K A.d__law_size ["n"] []
  g__law_bits : mg "_law_bits" = some (.ref A.a__law_bits)
  k__law_bits : PySem.W.keepIn K (.ref A.a__law_bits) = true
  f__law_bits : Fun K "_law_bits" "_law_bits" s__law_bits A.a__law_bits A.d__law_bits
  n__law_bits : Binds K A.d__law_bits ["n", "x"] []
  g__law_linear : mg "_law_linear" = some (.ref A.a__law_linear)
  k__law_linear : PySem.W.keepIn K (.ref A.a__law_linear) = true
  f__law_linear : Fun K "_law_linear" "_law_linear" s__law_linear A.a__law_linear A.d__law_linear
  n__law_linear : Binds K A.d__law_linear ["n", "a"] []
  g__law_table : mg "_law_table" = some (.ref A.a__law_table)
  k__law_table : PySem.W.keepIn K (.ref A.a__law_table) = true
  f__law_table : Fun K "_law_table" "_law_table" s__law_table A.a__law_table A.d__law_table
  n__law_table : Binds K A.d__law_table ["feed", "n"] []
  g__law_signs : mg "_law_signs" = some (.ref A.a__law_signs)
  k__law_signs : PySem.W.keepIn K (.ref A.a__law_signs) = true
  f__law_signs : Fun K "_law_signs" "_law_signs" s__law_signs A.a__law_signs A.d__law_signs
  n__law_signs : Binds K A.d__law_signs ["n", "f"] []
  g__law_broken : mg "_law_broken" = some (.ref A.a__law_broken)
  k__law_broken : PySem.W.keepIn K (.ref A.a__law_broken) = true
  f__law_broken : Fun K "_law_broken" "_law_broken" s__law_broken A.a__law_broken A.d__law_broken
  n__law_broken : Binds K A.d__law_broken ["f"] []
  g__law_weight : mg "_law_weight" = some (.ref A.a__law_weight)
  k__law_weight : PySem.W.keepIn K (.ref A.a__law_weight) = true
  f__law_weight : Fun K "_law_weight" "_law_weight" s__law_weight A.a__law_weight A.d__law_weight
  n__law_weight : Binds K A.d__law_weight ["n", "told", "bits"] []
  g__law_levels : mg "_law_levels" = some (.ref A.a__law_levels)
  k__law_levels : PySem.W.keepIn K (.ref A.a__law_levels) = true
  f__law_levels : Fun K "_law_levels" "_law_levels" s__law_levels A.a__law_levels A.d__law_levels
  n__law_levels : Binds K A.d__law_levels ["n", "told", "t"] []
  g__law_same : mg "_law_same" = some (.ref A.a__law_same)
  k__law_same : PySem.W.keepIn K (.ref A.a__law_same) = true
  f__law_same : Fun K "_law_same" "_law_same" s__law_same A.a__law_same A.d__law_same
  n__law_same : Binds K A.d__law_same ["told", "due"] []
  g__law_put : mg "_law_put" = some (.ref A.a__law_put)
  k__law_put : PySem.W.keepIn K (.ref A.a__law_put) = true
  f__law_put : Fun K "_law_put" "_law_put" s__law_put A.a__law_put A.d__law_put
  n__law_put : Binds K A.d__law_put ["row", "at", "value"] []
  g__law_like : mg "_law_like" = some (.ref A.a__law_like)
  k__law_like : PySem.W.keepIn K (.ref A.a__law_like) = true
  f__law_like : Fun K "_law_like" "_law_like" s__law_like A.a__law_like A.d__law_like
  n__law_like : Binds K A.d__law_like ["feed", "value"] []
  g__law_pair_spoilt : mg "_law_pair_spoilt" = some (.ref A.a__law_pair_spoilt)
  k__law_pair_spoilt : PySem.W.keepIn K (.ref A.a__law_pair_spoilt) = true
  f__law_pair_spoilt : Fun K "_law_pair_spoilt" "_law_pair_spoilt" s__law_pair_spoilt A.a__law_pair_spoilt A.d__law_pair_spoilt
  n__law_pair_spoilt : Binds K A.d__law_pair_spoilt ["feed", "pair"] []
  g__law_spoilt : mg "_law_spoilt" = some (.ref A.a__law_spoilt)
  k__law_spoilt : PySem.W.keepIn K (.ref A.a__law_spoilt) = true
  f__law_spoilt : Fun K "_law_spoilt" "_law_spoilt" s__law_spoilt A.a__law_spoilt A.d__law_spoilt
  n__law_spoilt : Binds K A.d__law_spoilt ["feed", "levels"] []
  g__law_refused : mg "_law_refused" = some (.ref A.a__law_refused)
  k__law_refused : PySem.W.keepIn K (.ref A.a__law_refused) = true
  f__law_refused : Fun K "_law_refused" "_law_refused" s__law_refused A.a__law_refused A.d__law_refused
  n__law_refused : Binds K A.d__law_refused ["what", "n", "f"] []
  g__law_level : mg "_law_level" = some (.ref A.a__law_level)
  k__law_level : PySem.W.keepIn K (.ref A.a__law_level) = true
  f__law_level : Fun K "_law_level" "_law_level" s__law_level A.a__law_level A.d__law_level
  n__law_level : Binds K A.d__law_level ["feed", "n", "told", "what"] []
  g__law_judged : mg "_law_judged" = some (.ref A.a__law_judged)
  k__law_judged : PySem.W.keepIn K (.ref A.a__law_judged) = true
  f__law_judged : Fun K "_law_judged" "_law_judged" s__law_judged A.a__law_judged A.d__law_judged
  n__law_judged : Binds K A.d__law_judged ["feed", "n", "f", "t", "levels"] []
  g__law_right : mg "_law_right" = some (.ref A.a__law_right)
  k__law_right : PySem.W.keepIn K (.ref A.a__law_right) = true
  f__law_right : Fun K "_law_right" "_law_right" s__law_right A.a__law_right A.d__law_right
  n__law_right : Binds K A.d__law_right ["feed", "what", "n", "f"] []
  g_law : mg "law" = some (.ref A.a_law)
  k_law : PySem.W.keepIn K (.ref A.a_law) = true
  f_law : Fun K "law" "law" s_law A.a_law A.d_law
  n_law : Binds K A.d_law ["script"] []
theorem sc_is_integer : FnScope N_is_integer ["value"] (defScope s_is_integer) := ⟨rfl, rfl, rfl, by decide +kernel, rfl, by decide +kernel, by decide +kernel⟩
theorem j_is_integer {P : Program} {w : World} {K : PySem.W.Frag} {mg : Str → Option Value} {base : Heap} {A : Ad} (T : Txt K mg A) {f : Addr} {cdv : Value} {Ar : Around} {outer : List Env} {s : Shared} {H : Hp} {E : XK} (hr : Room 0 (Ar.deeper (envOfC "is_integer" (defScope s_is_integer) s.heap.objs.size f cdv))) :
    JSs (cxOf CX0 P w K mg base N_is_integer "is_integer" (defScope s_is_integer) f cdv Ar outer s H E).nox NW (defBody s_is_integer) w_is_integer := by
  have nd : N_is_integer.Nodup := sc_is_integer.nd
  exact (jss_one (js_ret (je_and (je_callB call_isi (cr_isiX T.oc) (by rfl) T.b_isinstance (by decide +kernel) (ja_cons (je_var (pv 0)) (ja_cons (je_ty (by rfl) T.b_int (by decide +kernel)) ja_nil))) (je_one (je_not (je_callB call_isi (cr_isiX T.oc) (by rfl) T.b_isinstance (by decide +kernel) (ja_cons (je_var (pv 0)) (ja_cons (je_ty (by rfl) T.b_bool (by decide +kernel)) ja_nil))))))))
theorem sc_is_number : FnScope N_is_number ["value"] (defScope s_is_number) := ⟨rfl, rfl, rfl, by decide +kernel, rfl, by decide +kernel, by decide +kernel⟩
theorem j_is_number {P : Program} {w : World} {K : PySem.W.Frag} {mg : Str → Option Value} {base : Heap} {A : Ad} (T : Txt K mg A) (G_is_integer : FnOk P w K mg base CX0 1 A.a_is_integer A.d_is_integer ["value"] (spF K R_is_integer)) {f : Addr} {cdv : Value} {Ar : Around} {outer : List Env} {s : Shared} {H : Hp} {E : XK} (hr : Room 1 (Ar.deeper (envOfC "is_number" (defScope s_is_number) s.heap.objs.size f cdv))) :
    JSs (cxOf CX0 P w K mg base N_is_number "is_number" (defScope s_is_number) f cdv Ar outer s H E).nox NW (defBody s_is_number) w_is_number := by
  have nd : N_is_number.Nodup := sc_is_number.nd
  have hr1 : Room 1 _ := hr.mono (by decide)
  exact (jss_one (js_ret (je_and (je_call (G_is_integer) hr1 (by rfl) T.g_is_integer T.k_is_integer T.n_is_integer (ja_cons (je_var (pv 0)) ja_nil)) (je_one (je_cmp op_ge br_ge (je_var (pv 0)) je_int (nomark _))))))
theorem sc_is_below : FnScope N_is_below ["value", "bound"] (defScope s_is_below) := ⟨rfl, rfl, rfl, by decide +kernel, rfl, by decide +kernel, by decide +kernel⟩
theorem j_is_below {P : Program} {w : World} {K : PySem.W.Frag} {mg : Str → Option Value} {base : Heap} {A : Ad} (T : Txt K mg A) (G_is_integer : FnOk P w K mg base CX0 1 A.a_is_integer A.d_is_integer ["value"] (spF K R_is_integer)) {f : Addr} {cdv : Value} {Ar : Around} {outer : List Env} {s : Shared} {H : Hp} {E : XK} (hr : Room 1 (Ar.deeper (envOfC "is_below" (defScope s_is_below) s.heap.objs.size f cdv))) :
    JSs (cxOf CX0 P w K mg base N_is_below "is_below" (defScope s_is_below) f cdv Ar outer s H E).nox NW (defBody s_is_below) w_is_below := by
  have nd : N_is_below.Nodup := sc_is_below.nd
  have hr1 : Room 1 _ := hr.mono (by decide)
  exact (jss_one (js_ret (je_and (je_call (G_is_integer) hr1 (by rfl) T.g_is_integer T.k_is_integer T.n_is_integer (ja_cons (je_var (pv 0)) ja_nil)) (je_one (je_chain op_le op_lt br_le br_lt je_int (je_var (pv 0)) (je_var (pv 1)))))))
theorem sc_row_below : FnScope N_row_below ["value", "length", "bound"] (defScope s_row_below) := ⟨rfl, rfl, rfl, by decide +kernel, rfl, by decide +kernel, by decide +kernel⟩
theorem j_row_below {P : Program} {w : World} {K : PySem.W.Frag} {mg : Str → Option Value} {base : Heap} {A : Ad} (T : Txt K mg A) (G_is_below : FnOk P w K mg base CX0 2 A.a_is_below A.d_is_below ["value", "bound"] (spF K R_is_below)) {f : Addr} {cdv : Value} {Ar : Around} {outer : List Env} {s : Shared} {H : Hp} {E : XK} (hr : Room 2 (Ar.deeper (envOfC "row_below" (defScope s_row_below) s.heap.objs.size f cdv))) :
    JSs (cxOf CX0 P w K mg base N_row_below "row_below" (defScope s_row_below) f cdv Ar outer s H E).nox NW (defBody s_row_below) w_row_below := by
  have nd : N_row_below.Nodup := sc_row_below.nd
  have hr2 : Room 2 _ := hr.mono (by decide)
  have hp := @PassesOwn.never
  exact (jss_cons (js_if (jt_w (jw_or (jt_not (jt_val (je_callB call_isi (cr_isiX T.oc) (by rfl) T.b_isinstance (by decide +kernel) (ja_cons (je_var (pv 0)) (ja_cons (je_ty (by rfl) T.b_tuple (by decide +kernel)) ja_nil))))) (jw_or1 (jt_cmp op_neI br_neI (je_callB call_len cr_len (by rfl) T.b_len (by decide +kernel) (ja_cons (je_var (pv 0)) ja_nil)) (je_var (pv 1)) (nomark _)))))
    (jss_one (js_ret je_bl))
    jss_nil)
    (jss_cons (js_for (vs := [3]) hp rfl (ji_tup (je_var (pv 0))) (jg_name (i := 3) (by decide) (pg_name (i := 3) nd rfl (by first | exact Or.inl rfl | exact Or.inr rfl)))
    (jss_one (js_if (jt_not (jt_val (je_call (G_is_below) hr2 (by rfl) T.g_is_below T.k_is_below T.n_is_below (ja_cons (je_var (pv 3)) (ja_cons (je_var (pv 2)) ja_nil)))))
    (jss_one (js_ret je_bl))
    jss_nil)))
    (jss_one (js_ret je_bl))))
theorem sc_check_bits : FnScope N_check_bits ["n", "f"] (defScope s_check_bits) := ⟨rfl, rfl, rfl, by decide +kernel, rfl, by decide +kernel, by decide +kernel⟩
theorem j_check_bits {P : Program} {w : World} {K : PySem.W.Frag} {mg : Str → Option Value} {base : Heap} {A : Ad} (T : Txt K mg A) (G_is_number : FnOk P w K mg base CX0 2 A.a_is_number A.d_is_number ["value"] (spF K R_is_number)) (G_row_below : FnOk P w K mg base CX0 3 A.a_row_below A.d_row_below ["value", "length", "bound"] (spF K R_row_below)) (G_i_InvalidNumber : FnOk P w K mg base CX0 1 (He.ma K (He.ga K "InvalidNumber") "__init__") A.d_i_InvalidNumber ["self", "value"] (spI (He.ga K "InvalidNumber") ["value"])) (G_i_InvalidMap : FnOk P w K mg base CX0 1 (He.ma K (He.ga K "InvalidMap") "__init__") A.d_i_InvalidMap ["self", "value"] (spI (He.ga K "InvalidMap") ["value"])) {f : Addr} {cdv : Value} {Ar : Around} {outer : List Env} {s : Shared} {H : Hp} {E : XK} (hr : Room 3 (Ar.deeper (envOfC "check_bits" (defScope s_check_bits) s.heap.objs.size f cdv))) :
    JSs (cxOf (L2.CX P w) P w K mg base N_check_bits "check_bits" (defScope s_check_bits) f cdv Ar outer s H E) (fun cls d _ H' => E cls d H') (defBody s_check_bits) w_check_bits := by
  have nd : N_check_bits.Nodup := sc_check_bits.nd
  have hr2 : Room 2 _ := hr.mono (by decide)
  have hr3 : Room 3 _ := hr.mono (by decide)
  have hrX : Room 2 _ := hr.mono (by decide)
  have tk := takes_of (X := cxOf (L2.CX P w) P w K mg base N_check_bits "check_bits" (defScope s_check_bits) f cdv Ar outer s H E) (E := E) rfl rfl rfl rfl
  exact (jss_cons (js_if (jt_w (jw_or (jt_not (jt_val (je_call (G_is_number) hr2 (by rfl) T.g_is_number T.k_is_number T.n_is_number (ja_cons (je_var (pv 0)) ja_nil)))) (jw_or1 (jt_not (jt_chain op_le op_le br_le br_le je_int (je_var (pv 0)) (je_gintE (by rfl) T.c_MOST_BITS))))))
    (jss_one (js_raise (fl := ["value"]) rfl rfl tk T.x_InvalidNumber.oe T.x_InvalidNumber.ini T.x_InvalidNumber.tI G_i_InvalidNumber hrX T.ni_InvalidNumber (by decide) (by rfl) T.gx_InvalidNumber (ja_cons (je_var (pv 0)) ja_nil)))
    jss_nil)
    (jss_one (js_if (jt_not (jt_val (je_call (G_row_below) hr3 (by rfl) T.g_row_below T.k_row_below T.n_row_below (ja_cons (je_var (pv 1)) (ja_cons (je_op op_shl br_shl je_int (je_var (pv 0))) (ja_cons je_int ja_nil))))))
    (jss_one (js_raise (fl := ["value"]) rfl rfl tk T.x_InvalidMap.oe T.x_InvalidMap.ini T.x_InvalidMap.tI G_i_InvalidMap hrX T.ni_InvalidMap (by decide) (by rfl) T.gx_InvalidMap (ja_cons (je_var (pv 1)) ja_nil)))
    jss_nil)))
theorem sc_signs : FnScope N_signs ["n", "f"] (defScope s_signs) := ⟨rfl, rfl, rfl, by decide +kernel, rfl, by decide +kernel, by decide +kernel⟩
theorem j_signs {P : Program} {w : World} {K : PySem.W.Frag} {mg : Str → Option Value} {base : Heap} {A : Ad} (T : Txt K mg A) (G_check_bits : FnOk P w K mg base (L2.CX P w) 4 A.a_check_bits A.d_check_bits ["n", "f"] (spX K R_check_bits)) {f : Addr} {cdv : Value} {Ar : Around} {outer : List Env} {s : Shared} {H : Hp} {E : XK} (hr : Room 4 (Ar.deeper (envOfC "signs" (defScope s_signs) s.heap.objs.size f cdv))) :
    JSs (cxOf (L2.CX P w) P w K mg base N_signs "signs" (defScope s_signs) f cdv Ar outer s H E) (fun cls d _ H' => E cls d H') (defBody s_signs) w_signs := by
  have nd : N_signs.Nodup := sc_signs.nd
  have hr4 : Room 4 _ := hr.mono (by decide)
  have tk := takes_of (X := cxOf (L2.CX P w) P w K mg base N_signs "signs" (defScope s_signs) f cdv Ar outer s H E) (E := E) rfl rfl rfl rfl
  have hp := passes_of (X := cxOf (L2.CX P w) P w K mg base N_signs "signs" (defScope s_signs) f cdv Ar outer s H E) rfl
  exact (jss_cons (js_expr (je_callX G_check_bits hr4 tk (by rfl) T.g_check_bits T.k_check_bits T.n_check_bits (ja_cons (je_var (pv 0)) (ja_cons (je_var (pv 1)) ja_nil))))
    (jss_cons (js_setLcF (i := 2) (own := [("bit", 8)]) rfl nd rfl rfl (sw_true rfl rfl rfl (by decide +kernel)) (ji_tup (je_var (pv 1))) (blkOk_by (own := [("bit", 8)]) (N := N_signs) (sc := defScope s_signs) (by decide +kernel)) (fun _ _ _ _ _ => (jg_name (i := 8) (by decide) (pg_name (i := 8) nd rfl (by first | exact Or.inl rfl | exact Or.inr rfl)))) (fun _ _ _ _ _ => jts_nil) (fun _ _ _ _ _ => (je_op op_sub br_sub je_int (je_op op_mul br_mul je_int (je_var (pv 8))))))
    (jss_cons (js_setF (i := 3) nd rfl (Or.inl rfl) je_int)
    (jss_cons (js_for (vs := [4]) hp rfl (ji_range1 (by rfl) T.b_range (ja_cons (je_var (pv 0)) ja_nil)) (jg_name (i := 4) (by decide) (pg_name (i := 4) nd rfl (by first | exact Or.inl rfl | exact Or.inr rfl)))
    (jss_cons (js_set (i := 5) nd rfl (Or.inl rfl) (je_lst ja_nil))
    (jss_cons (js_for (vs := [6, 7]) hp rfl (ji_enum (by rfl) T.b_enumerate (ja_cons (je_var (pv 2)) ja_nil)) (jg_tup rfl (jgs_cons (jg_name (i := 6) (by decide) (pg_name (i := 6) nd rfl (by first | exact Or.inl rfl | exact Or.inr rfl))) (jgs_cons (jg_name (i := 7) (by decide) (pg_name (i := 7) nd rfl (by first | exact Or.inl rfl | exact Or.inr rfl))) jgs_nil)))
    (jss_one (js_if (jt_cmp op_eqI br_eqI (je_op op_mod br_mod (je_op op_fdiv br_div (je_var (pv 6)) (je_var (pv 3))) je_int) je_int (nomark _))
    (jss_one (js_app (ps_expr (pe_bm PySem.F.plainAttrs_list PySem.F.slot_list_append PySem.F.type_list_append mt_append (pv 5) (pa_cons (je_op op_add br_add (je_var (pv 7)) (je_ix ix_seq br_ix (je_var (pv 2)) (je_op op_add br_add (je_var (pv 6)) (je_var (pv 3))) (fun _ _ => rfl))) pa_nil)))))
    (jss_one (js_app (ps_expr (pe_bm PySem.F.plainAttrs_list PySem.F.slot_list_append PySem.F.type_list_append mt_append (pv 5) (pa_cons (je_op op_sub br_sub (je_ix ix_seq br_ix (je_var (pv 2)) (je_op op_sub br_sub (je_var (pv 6)) (je_var (pv 3))) (fun _ _ => rfl)) (je_var (pv 7))) pa_nil))))))))
    (jss_cons (js_setF (i := 2) nd rfl (Or.inl rfl) (je_frz (pv 5)))
    (jss_one (js_setF (i := 3) nd rfl (Or.inl rfl) (je_op op_mul br_mul je_int (je_var (pv 3)))))))))
    (jss_one (js_ret (je_callTy call_tuple_of cr_tupleOf (by rfl) T.b_tuple (by decide +kernel) (ja_cons (je_var (pv 2)) ja_nil))))))))
theorem sc_broken_bits : FnScope N_broken_bits ["n", "f"] (defScope s_broken_bits) := ⟨rfl, rfl, rfl, by decide +kernel, rfl, by decide +kernel, by decide +kernel⟩
theorem j_broken_bits {P : Program} {w : World} {K : PySem.W.Frag} {mg : Str → Option Value} {base : Heap} {A : Ad} (T : Txt K mg A) (G_check_bits : FnOk P w K mg base (L2.CX P w) 4 A.a_check_bits A.d_check_bits ["n", "f"] (spX K R_check_bits)) {f : Addr} {cdv : Value} {Ar : Around} {outer : List Env} {s : Shared} {H : Hp} {E : XK} (hr : Room 4 (Ar.deeper (envOfC "broken_bits" (defScope s_broken_bits) s.heap.objs.size f cdv))) :
    JSs (cxOf (L2.CX P w) P w K mg base N_broken_bits "broken_bits" (defScope s_broken_bits) f cdv Ar outer s H E) (fun cls d _ H' => E cls d H') (defBody s_broken_bits) w_broken_bits := by
  have nd : N_broken_bits.Nodup := sc_broken_bits.nd
  have hr4 : Room 4 _ := hr.mono (by decide)
  have tk := takes_of (X := cxOf (L2.CX P w) P w K mg base N_broken_bits "broken_bits" (defScope s_broken_bits) f cdv Ar outer s H E) (E := E) rfl rfl rfl rfl
  have hp := passes_of (X := cxOf (L2.CX P w) P w K mg base N_broken_bits "broken_bits" (defScope s_broken_bits) f cdv Ar outer s H E) rfl
  have hu64 := hr.units
  exact (jss_cons (js_expr (je_callX G_check_bits hr4 tk (by rfl) T.g_check_bits T.k_check_bits T.n_check_bits (ja_cons (je_var (pv 0)) (ja_cons (je_var (pv 1)) ja_nil))))
    (jss_cons (js_setF (i := 2) nd rfl (Or.inl rfl) je_int)
    (jss_cons (js_for (vs := [3]) hp rfl (ji_range1 (by rfl) T.b_range (ja_cons (je_callB call_len cr_len (by rfl) T.b_len (by decide +kernel) (ja_cons (je_var (pv 1)) ja_nil)) ja_nil)) (jg_name (i := 3) (by decide) (pg_name (i := 3) nd rfl (by first | exact Or.inl rfl | exact Or.inr rfl)))
    (jss_one (js_for (vs := [4]) hp rfl (ji_range1 (by rfl) T.b_range (ja_cons (je_callB call_len cr_len (by rfl) T.b_len (by decide +kernel) (ja_cons (je_var (pv 1)) ja_nil)) ja_nil)) (jg_name (i := 4) (by decide) (pg_name (i := 4) nd rfl (by first | exact Or.inl rfl | exact Or.inr rfl)))
    (jss_one (js_if (jt_cmp (op_neD hu64) br_ne (je_op op_xor br_bxor (je_ix ix_seq br_ix (je_var (pv 1)) (je_var (pv 3)) (fun _ _ => rfl)) (je_ix ix_seq br_ix (je_var (pv 1)) (je_var (pv 4)) (fun _ _ => rfl))) (je_ix ix_seq br_ix (je_var (pv 1)) (je_op op_xor br_bxor (je_var (pv 3)) (je_var (pv 4))) (fun _ _ => rfl)) (nomark _))
    (jss_one (js_aug (i := 2) nd rfl (Or.inl rfl) iop_add br_add je_int))
    jss_nil)))))
    (jss_one (js_ret (je_var (pv 2)))))))
theorem sc_best_linear : FnScope N_best_linear ["n", "f"] (defScope s_best_linear) := ⟨rfl, rfl, rfl, by decide +kernel, rfl, by decide +kernel, by decide +kernel⟩
theorem j_best_linear {P : Program} {w : World} {K : PySem.W.Frag} {mg : Str → Option Value} {base : Heap} {A : Ad} (T : Txt K mg A) (G_signs : FnOk P w K mg base (L2.CX P w) 5 A.a_signs A.d_signs ["n", "f"] (spX K R_signs)) {f : Addr} {cdv : Value} {Ar : Around} {outer : List Env} {s : Shared} {H : Hp} {E : XK} (hr : Room 5 (Ar.deeper (envOfC "best_linear" (defScope s_best_linear) s.heap.objs.size f cdv))) :
    JSs (cxOf (L2.CX P w) P w K mg base N_best_linear "best_linear" (defScope s_best_linear) f cdv Ar outer s H E) (fun cls d _ H' => E cls d H') (defBody s_best_linear) w_best_linear := by
  have nd : N_best_linear.Nodup := sc_best_linear.nd
  have hr5 : Room 5 _ := hr.mono (by decide)
  have tk := takes_of (X := cxOf (L2.CX P w) P w K mg base N_best_linear "best_linear" (defScope s_best_linear) f cdv Ar outer s H E) (E := E) rfl rfl rfl rfl
  exact (jss_cons (js_setF (i := 2) nd rfl (Or.inr rfl) (je_callX G_signs hr5 tk (by rfl) T.g_signs T.k_signs T.n_signs (ja_cons (je_var (pv 0)) (ja_cons (je_var (pv 1)) ja_nil))))
    (jss_one (js_ret (je_ix ix_seq br_ix (je_lc (own := [("a", 3), ("sign", 4)]) rfl nd (ji_enumT (by rfl) T.b_enumerate (ja_cons (je_var (pv 2)) ja_nil)) (blkOk_by (own := [("a", 3), ("sign", 4)]) (N := N_best_linear) (sc := defScope s_best_linear) (by decide +kernel)) (fun _ _ _ _ _ => (jg_tup rfl (jgs_cons (jg_name (i := 3) (by decide) (pg_name (i := 3) nd rfl (by first | exact Or.inl rfl | exact Or.inr rfl))) (jgs_cons (jg_name (i := 4) (by decide) (pg_name (i := 4) nd rfl (by first | exact Or.inl rfl | exact Or.inr rfl))) jgs_nil)))) (fun _ _ _ _ _ => (jts_one (jt_cmp op_eqI br_eqI (je_var (pv 4)) (je_callB (call_maxTu rfl) cr_maxTuD (by rfl) T.b_max (by decide +kernel) (ja_cons (je_var (pv 2)) ja_nil)) (nomark _)))) (fun _ _ _ _ _ => (je_var (pv 3)))) je_int (fun _ _ => rfl)))))
theorem sc_is_beginning : FnScope N_is_beginning ["n", "value"] (defScope s_is_beginning) := ⟨rfl, rfl, rfl, by decide +kernel, rfl, by decide +kernel, by decide +kernel⟩
theorem j_is_beginning {P : Program} {w : World} {K : PySem.W.Frag} {mg : Str → Option Value} {base : Heap} {A : Ad} (T : Txt K mg A) (G_row_below : FnOk P w K mg base CX0 3 A.a_row_below A.d_row_below ["value", "length", "bound"] (spF K R_row_below)) {f : Addr} {cdv : Value} {Ar : Around} {outer : List Env} {s : Shared} {H : Hp} {E : XK} (hr : Room 3 (Ar.deeper (envOfC "is_beginning" (defScope s_is_beginning) s.heap.objs.size f cdv))) :
    JSs (cxOf CX0 P w K mg base N_is_beginning "is_beginning" (defScope s_is_beginning) f cdv Ar outer s H E).nox NW (defBody s_is_beginning) w_is_beginning := by
  have nd : N_is_beginning.Nodup := sc_is_beginning.nd
  have hr3 : Room 3 _ := hr.mono (by decide)
  exact (jss_one (js_ret (je_and (je_callB call_isi (cr_isiX T.oc) (by rfl) T.b_isinstance (by decide +kernel) (ja_cons (je_var (pv 1)) (ja_cons (je_ty (by rfl) T.b_tuple (by decide +kernel)) ja_nil))) (je_and (je_cmp op_le br_le (je_callB call_len cr_len (by rfl) T.b_len (by decide +kernel) (ja_cons (je_var (pv 1)) ja_nil)) (je_var (pv 0)) (nomark _)) (je_one (je_call (G_row_below) hr3 (by rfl) T.g_row_below T.k_row_below T.n_row_below (ja_cons (je_var (pv 1)) (ja_cons (je_callB call_len cr_len (by rfl) T.b_len (by decide +kernel) (ja_cons (je_var (pv 1)) ja_nil)) (ja_cons je_int ja_nil)))))))))
theorem sc_weight_of : FnScope N_weight_of ["n", "found", "beginning"] (defScope s_weight_of) := ⟨rfl, rfl, rfl, by decide +kernel, rfl, by decide +kernel, by decide +kernel⟩
theorem j_weight_of {P : Program} {w : World} {K : PySem.W.Frag} {mg : Str → Option Value} {base : Heap} {A : Ad} (T : Txt K mg A) {f : Addr} {cdv : Value} {Ar : Around} {outer : List Env} {s : Shared} {H : Hp} {E : XK} (hr : Room 0 (Ar.deeper (envOfC "weight_of" (defScope s_weight_of) s.heap.objs.size f cdv))) :
    JSs (cxOf CX0 P w K mg base N_weight_of "weight_of" (defScope s_weight_of) f cdv Ar outer s H E).nox NW (defBody s_weight_of) w_weight_of := by
  have nd : N_weight_of.Nodup := sc_weight_of.nd
  have hp := @PassesOwn.never
  exact (jss_cons (js_setF (i := 3) nd rfl (Or.inl rfl) je_int)
    (jss_cons (js_for (vs := [4]) hp rfl (ji_tup (je_var (pv 2))) (jg_name (i := 4) (by decide) (pg_name (i := 4) nd rfl (by first | exact Or.inl rfl | exact Or.inr rfl)))
    (jss_one (js_setF (i := 3) nd rfl (Or.inl rfl) (je_op op_add br_add (je_op op_mul br_mul je_int (je_var (pv 3))) (je_var (pv 4))))))
    (jss_cons (js_setF (i := 5) nd rfl (Or.inl rfl) (je_op op_shl br_shl je_int (je_op op_sub br_sub (je_var (pv 0)) (je_callB call_len cr_len (by rfl) T.b_len (by decide +kernel) (ja_cons (je_var (pv 2)) ja_nil)))))
    (jss_one (js_ret (je_callB (cr_sum rfl) cr_sumD (by rfl) T.b_sum (by decide +kernel) (ja_cons (je_lc (own := [("sign", 6)]) rfl nd (ji_tup (je_slT (je_var (pv 1)) (jo_some (je_op op_mul br_mul (je_var (pv 3)) (je_var (pv 5)))) (jo_some (je_op op_mul br_mul (je_op op_add br_add (je_var (pv 3)) je_int) (je_var (pv 5)))))) (blkOk_by (own := [("sign", 6)]) (N := N_weight_of) (sc := defScope s_weight_of) (by decide +kernel)) (fun _ _ _ _ _ => (jg_name (i := 6) (by decide) (pg_name (i := 6) nd rfl (by first | exact Or.inl rfl | exact Or.inr rfl)))) (fun _ _ _ _ _ => jts_nil) (fun _ _ _ _ _ => (je_op op_mul br_mul (je_var (pv 6)) (je_var (pv 6))))) ja_nil)))))))
theorem sc_weight : FnScope N_weight ["n", "f", "beginning"] (defScope s_weight) := ⟨rfl, rfl, rfl, by decide +kernel, rfl, by decide +kernel, by decide +kernel⟩
theorem j_weight {P : Program} {w : World} {K : PySem.W.Frag} {mg : Str → Option Value} {base : Heap} {A : Ad} (T : Txt K mg A) (G_check_bits : FnOk P w K mg base (L2.CX P w) 4 A.a_check_bits A.d_check_bits ["n", "f"] (spX K R_check_bits)) (G_is_beginning : FnOk P w K mg base CX0 4 A.a_is_beginning A.d_is_beginning ["n", "value"] (spF K R_is_beginning)) (G_weight_of : FnOk P w K mg base CX0 1 A.a_weight_of A.d_weight_of ["n", "found", "beginning"] (spF K R_weight_of)) (G_signs : FnOk P w K mg base (L2.CX P w) 5 A.a_signs A.d_signs ["n", "f"] (spX K R_signs)) (G_i_InvalidSubset : FnOk P w K mg base CX0 1 (He.ma K (He.ga K "InvalidSubset") "__init__") A.d_i_InvalidSubset ["self", "value"] (spI (He.ga K "InvalidSubset") ["value"])) {f : Addr} {cdv : Value} {Ar : Around} {outer : List Env} {s : Shared} {H : Hp} {E : XK} (hr : Room 5 (Ar.deeper (envOfC "weight" (defScope s_weight) s.heap.objs.size f cdv))) :
    JSs (cxOf (L2.CX P w) P w K mg base N_weight "weight" (defScope s_weight) f cdv Ar outer s H E) (fun cls d _ H' => E cls d H') (defBody s_weight) w_weight := by
  have nd : N_weight.Nodup := sc_weight.nd
  have hr1 : Room 1 _ := hr.mono (by decide)
  have hr4 : Room 4 _ := hr.mono (by decide)
  have hr5 : Room 5 _ := hr.mono (by decide)
  have hrX : Room 2 _ := hr.mono (by decide)
  have tk := takes_of (X := cxOf (L2.CX P w) P w K mg base N_weight "weight" (defScope s_weight) f cdv Ar outer s H E) (E := E) rfl rfl rfl rfl
  exact (jss_cons (js_expr (je_callX G_check_bits hr4 tk (by rfl) T.g_check_bits T.k_check_bits T.n_check_bits (ja_cons (je_var (pv 0)) (ja_cons (je_var (pv 1)) ja_nil))))
    (jss_cons (js_if (jt_not (jt_val (je_call (G_is_beginning) hr4 (by rfl) T.g_is_beginning T.k_is_beginning T.n_is_beginning (ja_cons (je_var (pv 0)) (ja_cons (je_var (pv 2)) ja_nil)))))
    (jss_one (js_raise (fl := ["value"]) rfl rfl tk T.x_InvalidSubset.oe T.x_InvalidSubset.ini T.x_InvalidSubset.tI G_i_InvalidSubset hrX T.ni_InvalidSubset (by decide) (by rfl) T.gx_InvalidSubset (ja_cons (je_var (pv 2)) ja_nil)))
    jss_nil)
    (jss_one (js_ret (je_call (G_weight_of) hr1 (by rfl) T.g_weight_of T.k_weight_of T.n_weight_of (ja_cons (je_var (pv 0)) (ja_cons (je_callX G_signs hr5 tk (by rfl) T.g_signs T.k_signs T.n_signs (ja_cons (je_var (pv 0)) (ja_cons (je_var (pv 1)) ja_nil))) (ja_cons (je_var (pv 2)) ja_nil))))))))
theorem sc_check_near : FnScope N_check_near ["n", "f", "t"] (defScope s_check_near) := ⟨rfl, rfl, rfl, by decide +kernel, rfl, by decide +kernel, by decide +kernel⟩
theorem j_check_near {P : Program} {w : World} {K : PySem.W.Frag} {mg : Str → Option Value} {base : Heap} {A : Ad} (T : Txt K mg A) (G_check_bits : FnOk P w K mg base (L2.CX P w) 4 A.a_check_bits A.d_check_bits ["n", "f"] (spX K R_check_bits)) (G_is_number : FnOk P w K mg base CX0 2 A.a_is_number A.d_is_number ["value"] (spF K R_is_number)) (G_i_InvalidNumber : FnOk P w K mg base CX0 1 (He.ma K (He.ga K "InvalidNumber") "__init__") A.d_i_InvalidNumber ["self", "value"] (spI (He.ga K "InvalidNumber") ["value"])) {f : Addr} {cdv : Value} {Ar : Around} {outer : List Env} {s : Shared} {H : Hp} {E : XK} (hr : Room 4 (Ar.deeper (envOfC "check_near" (defScope s_check_near) s.heap.objs.size f cdv))) :
    JSs (cxOf (L2.CX P w) P w K mg base N_check_near "check_near" (defScope s_check_near) f cdv Ar outer s H E) (fun cls d _ H' => E cls d H') (defBody s_check_near) w_check_near := by
  have nd : N_check_near.Nodup := sc_check_near.nd
  have hr2 : Room 2 _ := hr.mono (by decide)
  have hr4 : Room 4 _ := hr.mono (by decide)
  have hrX : Room 2 _ := hr.mono (by decide)
  have tk := takes_of (X := cxOf (L2.CX P w) P w K mg base N_check_near "check_near" (defScope s_check_near) f cdv Ar outer s H E) (E := E) rfl rfl rfl rfl
  exact (jss_cons (js_expr (je_callX G_check_bits hr4 tk (by rfl) T.g_check_bits T.k_check_bits T.n_check_bits (ja_cons (je_var (pv 0)) (ja_cons (je_var (pv 1)) ja_nil))))
    (jss_one (js_if (jt_w (jw_or (jt_not (jt_val (je_call (G_is_number) hr2 (by rfl) T.g_is_number T.k_is_number T.n_is_number (ja_cons (je_var (pv 2)) ja_nil)))) (jw_or1 (jt_not (jt_chain op_le op_le br_le br_le je_int (je_var (pv 2)) (je_callB call_len cr_len (by rfl) T.b_len (by decide +kernel) (ja_cons (je_var (pv 1)) ja_nil)))))))
    (jss_one (js_raise (fl := ["value"]) rfl rfl tk T.x_InvalidNumber.oe T.x_InvalidNumber.ini T.x_InvalidNumber.tI G_i_InvalidNumber hrX T.ni_InvalidNumber (by decide) (by rfl) T.gx_InvalidNumber (ja_cons (je_var (pv 2)) ja_nil)))
    jss_nil)))
theorem sc_near_linear : FnScope N_near_linear ["n", "f", "t"] (defScope s_near_linear) := ⟨rfl, rfl, rfl, by decide +kernel, rfl, by decide +kernel, by decide +kernel⟩
theorem j_near_linear {P : Program} {w : World} {K : PySem.W.Frag} {mg : Str → Option Value} {base : Heap} {A : Ad} (T : Txt K mg A) (G_check_near : FnOk P w K mg base (L2.CX P w) 5 A.a_check_near A.d_check_near ["n", "f", "t"] (spX K R_check_near)) (G_signs : FnOk P w K mg base (L2.CX P w) 5 A.a_signs A.d_signs ["n", "f"] (spX K R_signs)) {f : Addr} {cdv : Value} {Ar : Around} {outer : List Env} {s : Shared} {H : Hp} {E : XK} (hr : Room 5 (Ar.deeper (envOfC "near_linear" (defScope s_near_linear) s.heap.objs.size f cdv))) :
    JSs (cxOf (L2.CX P w) P w K mg base N_near_linear "near_linear" (defScope s_near_linear) f cdv Ar outer s H E) (fun cls d _ H' => E cls d H') (defBody s_near_linear) w_near_linear := by
  have nd : N_near_linear.Nodup := sc_near_linear.nd
  have hr5 : Room 5 _ := hr.mono (by decide)
  have tk := takes_of (X := cxOf (L2.CX P w) P w K mg base N_near_linear "near_linear" (defScope s_near_linear) f cdv Ar outer s H E) (E := E) rfl rfl rfl rfl
  exact (jss_cons (js_expr (je_callX G_check_near hr5 tk (by rfl) T.g_check_near T.k_check_near T.n_check_near (ja_cons (je_var (pv 0)) (ja_cons (je_var (pv 1)) (ja_cons (je_var (pv 2)) ja_nil)))))
    (jss_one (js_ret (je_callTy call_tuple_of cr_tupleOf (by rfl) T.b_tuple (by decide +kernel) (ja_cons (je_lc (own := [("a", 3), ("sign", 4)]) rfl nd (ji_enumT (by rfl) T.b_enumerate (ja_cons (je_callX G_signs hr5 tk (by rfl) T.g_signs T.k_signs T.n_signs (ja_cons (je_var (pv 0)) (ja_cons (je_var (pv 1)) ja_nil))) ja_nil)) (blkOk_by (own := [("a", 3), ("sign", 4)]) (N := N_near_linear) (sc := defScope s_near_linear) (by decide +kernel)) (fun _ _ _ _ _ => (jg_tup rfl (jgs_cons (jg_name (i := 3) (by decide) (pg_name (i := 3) nd rfl (by first | exact Or.inl rfl | exact Or.inr rfl))) (jgs_cons (jg_name (i := 4) (by decide) (pg_name (i := 4) nd rfl (by first | exact Or.inl rfl | exact Or.inr rfl))) jgs_nil)))) (fun _ _ _ _ _ => (jts_one (jt_cmp op_ge br_ge (je_var (pv 4)) (je_var (pv 2)) (nomark _)))) (fun _ _ _ _ _ => (je_var (pv 3)))) ja_nil)))))
theorem sc_near_certificate : FnScope N_near_certificate ["n", "f", "t"] (defScope s_near_certificate) := ⟨rfl, rfl, rfl, by decide +kernel, rfl, by decide +kernel, by decide +kernel⟩
theorem j_near_certificate {P : Program} {w : World} {K : PySem.W.Frag} {mg : Str → Option Value} {base : Heap} {A : Ad} (T : Txt K mg A) (G_check_near : FnOk P w K mg base (L2.CX P w) 5 A.a_check_near A.d_check_near ["n", "f", "t"] (spX K R_check_near)) (G_signs : FnOk P w K mg base (L2.CX P w) 5 A.a_signs A.d_signs ["n", "f"] (spX K R_signs)) (G_weight_of : FnOk P w K mg base CX0 1 A.a_weight_of A.d_weight_of ["n", "found", "beginning"] (spF K R_weight_of)) {f : Addr} {cdv : Value} {Ar : Around} {outer : List Env} {s : Shared} {H : Hp} {E : XK} (hr : Room 5 (Ar.deeper (envOfC "near_certificate" (defScope s_near_certificate) s.heap.objs.size f cdv))) :
    JSs (cxOf (L2.CX P w) P w K mg base N_near_certificate "near_certificate" (defScope s_near_certificate) f cdv Ar outer s H E) (fun cls d _ H' => E cls d H') (defBody s_near_certificate) w_near_certificate := by
  have nd : N_near_certificate.Nodup := sc_near_certificate.nd
  have hr1 : Room 1 _ := hr.mono (by decide)
  have hr5 : Room 5 _ := hr.mono (by decide)
  have tk := takes_of (X := cxOf (L2.CX P w) P w K mg base N_near_certificate "near_certificate" (defScope s_near_certificate) f cdv Ar outer s H E) (E := E) rfl rfl rfl rfl
  have hp := passes_of (X := cxOf (L2.CX P w) P w K mg base N_near_certificate "near_certificate" (defScope s_near_certificate) f cdv Ar outer s H E) rfl
  exact (jss_cons (js_expr (je_callX G_check_near hr5 tk (by rfl) T.g_check_near T.k_check_near T.n_check_near (ja_cons (je_var (pv 0)) (ja_cons (je_var (pv 1)) (ja_cons (je_var (pv 2)) ja_nil)))))
    (jss_cons (js_setF (i := 3) nd rfl (Or.inr rfl) (je_callX G_signs hr5 tk (by rfl) T.g_signs T.k_signs T.n_signs (ja_cons (je_var (pv 0)) (ja_cons (je_var (pv 1)) ja_nil))))
    (jss_cons (js_set (i := 4) nd rfl (Or.inl rfl) (je_lst (ja_cons (je_tup (ja_cons (je_tup (ja_cons (je_tup ja_nil) (ja_cons (je_call (G_weight_of) hr1 (by rfl) T.g_weight_of T.k_weight_of T.n_weight_of (ja_cons (je_var (pv 0)) (ja_cons (je_var (pv 3)) (ja_cons (je_tup ja_nil) ja_nil)))) ja_nil))) ja_nil)) ja_nil)))
    (jss_cons (js_for (vs := [5]) hp rfl (ji_range1 (by rfl) T.b_range (ja_cons (je_var (pv 0)) ja_nil)) (jg_name (i := 5) (by decide) (pg_name (i := 5) nd rfl (by first | exact Or.inl rfl | exact Or.inr rfl)))
    (jss_cons (js_set (i := 6) nd rfl (Or.inl rfl) (je_lst ja_nil))
    (jss_cons (js_for (vs := [7, 8]) hp rfl (ji_tup (je_ixM (pv 4) (je_neg je_int) (fun _ _ => rfl))) (jg_tup rfl (jgs_cons (jg_name (i := 7) (by decide) (pg_name (i := 7) nd rfl (by first | exact Or.inl rfl | exact Or.inr rfl))) (jgs_cons (jg_name (i := 8) (by decide) (pg_name (i := 8) nd rfl (by first | exact Or.inl rfl | exact Or.inr rfl))) jgs_nil)))
    (jss_one (js_if (jt_cmp op_ge br_ge (je_var (pv 8)) (je_op op_mul br_mul (je_var (pv 2)) (je_var (pv 2))) (nomark _))
    (jss_one (js_extL (ps_expr (pe_bm PySem.F.plainAttrs_list PySem.F.slot_list_extend PySem.F.type_list_extend mt_extend (pv 6) (pa_cons (je_lc (own := [("bit", 9)]) rfl nd (ji_tup (je_tup (ja_cons je_int (ja_cons je_int ja_nil)))) (blkOk_by (own := [("bit", 9)]) (N := N_near_certificate) (sc := defScope s_near_certificate) (by decide +kernel)) (fun _ _ _ _ _ => (jg_name (i := 9) (by decide) (pg_name (i := 9) nd rfl (by first | exact Or.inl rfl | exact Or.inr rfl)))) (fun _ _ _ _ _ => jts_nil) (fun _ _ _ _ _ => (je_tup (ja_cons (je_op op_catA br_catT (je_var (pv 7)) (je_tup (ja_cons (je_var (pv 9)) ja_nil))) (ja_cons (je_call (G_weight_of) hr1 (by rfl) T.g_weight_of T.k_weight_of T.n_weight_of (ja_cons (je_var (pv 0)) (ja_cons (je_var (pv 3)) (ja_cons (je_op op_catA br_catT (je_var (pv 7)) (je_tup (ja_cons (je_var (pv 9)) ja_nil))) ja_nil)))) ja_nil))))) pa_nil)))))
    jss_nil)))
    (jss_one (js_app (ps_expr (pe_bm PySem.F.plainAttrs_list PySem.F.slot_list_append PySem.F.type_list_append mt_append (pv 4) (pa_cons (je_callTy call_tuple_of cr_tupleOf (by rfl) T.b_tuple (by decide +kernel) (ja_cons (je_frz (pv 6)) ja_nil)) pa_nil))))))))
    (jss_one (js_ret (je_callTy call_tuple_of cr_tupleOf (by rfl) T.b_tuple (by decide +kernel) (ja_cons (je_frz (pv 4)) ja_nil))))))))
theorem sc_is_level : FnScope N_is_level ["value", "length"] (defScope s_is_level) := ⟨rfl, rfl, rfl, by decide +kernel, rfl, by decide +kernel, by decide +kernel⟩
theorem j_is_level {P : Program} {w : World} {K : PySem.W.Frag} {mg : Str → Option Value} {base : Heap} {A : Ad} (T : Txt K mg A) (G_is_integer : FnOk P w K mg base CX0 1 A.a_is_integer A.d_is_integer ["value"] (spF K R_is_integer)) (G_row_below : FnOk P w K mg base CX0 3 A.a_row_below A.d_row_below ["value", "length", "bound"] (spF K R_row_below)) {f : Addr} {cdv : Value} {Ar : Around} {outer : List Env} {s : Shared} {H : Hp} {E : XK} (hr : Room 3 (Ar.deeper (envOfC "is_level" (defScope s_is_level) s.heap.objs.size f cdv))) :
    JSs (cxOf CX0 P w K mg base N_is_level "is_level" (defScope s_is_level) f cdv Ar outer s H E).nox NW (defBody s_is_level) w_is_level := by
  have nd : N_is_level.Nodup := sc_is_level.nd
  have hr1 : Room 1 _ := hr.mono (by decide)
  have hr3 : Room 3 _ := hr.mono (by decide)
  have hp := @PassesOwn.never
  exact (jss_cons (js_if (jt_not (jt_val (je_callB call_isi (cr_isiX T.oc) (by rfl) T.b_isinstance (by decide +kernel) (ja_cons (je_var (pv 0)) (ja_cons (je_ty (by rfl) T.b_tuple (by decide +kernel)) ja_nil)))))
    (jss_one (js_ret je_bl))
    jss_nil)
    (jss_cons (js_for (vs := [2]) hp rfl (ji_tup (je_var (pv 0))) (jg_name (i := 2) (by decide) (pg_name (i := 2) nd rfl (by first | exact Or.inl rfl | exact Or.inr rfl)))
    (jss_cons (js_if (jt_w (jw_or (jt_not (jt_val (je_callB call_isi (cr_isiX T.oc) (by rfl) T.b_isinstance (by decide +kernel) (ja_cons (je_var (pv 2)) (ja_cons (je_ty (by rfl) T.b_tuple (by decide +kernel)) ja_nil))))) (jw_or (jt_cmp op_neI br_neI (je_callB call_len cr_len (by rfl) T.b_len (by decide +kernel) (ja_cons (je_var (pv 2)) ja_nil)) je_int (nomark _)) (jw_or1 (jt_not (jt_val (je_call (G_is_integer) hr1 (by rfl) T.g_is_integer T.k_is_integer T.n_is_integer (ja_cons (je_ix ix_seq br_ix (je_var (pv 2)) je_int (fun _ _ => rfl)) ja_nil))))))))
    (jss_one (js_ret je_bl))
    jss_nil)
    (jss_one (js_if (jt_not (jt_val (je_call (G_row_below) hr3 (by rfl) T.g_row_below T.k_row_below T.n_row_below (ja_cons (je_ix ix_seq br_ix (je_var (pv 2)) je_int (fun _ _ => rfl)) (ja_cons (je_var (pv 1)) (ja_cons je_int ja_nil))))))
    (jss_one (js_ret je_bl))
    jss_nil))))
    (jss_one (js_ret je_bl))))
theorem sc_near_certificate_holds : FnScope N_near_certificate_holds ["n", "f", "t", "certificate"] (defScope s_near_certificate_holds) := ⟨rfl, rfl, rfl, by decide +kernel, rfl, by decide +kernel, by decide +kernel⟩
theorem j_near_certificate_holds {P : Program} {w : World} {K : PySem.W.Frag} {mg : Str → Option Value} {base : Heap} {A : Ad} (T : Txt K mg A) (G_near_certificate : FnOk P w K mg base (L2.CX P w) 6 A.a_near_certificate A.d_near_certificate ["n", "f", "t"] (spX K R_near_certificate)) (G_is_level : FnOk P w K mg base CX0 4 A.a_is_level A.d_is_level ["value", "length"] (spF K R_is_level)) {f : Addr} {cdv : Value} {Ar : Around} {outer : List Env} {s : Shared} {H : Hp} {E : XK} (hr : Room 6 (Ar.deeper (envOfC "near_certificate_holds" (defScope s_near_certificate_holds) s.heap.objs.size f cdv))) :
    JSs (cxOf (L2.CX P w) P w K mg base N_near_certificate_holds "near_certificate_holds" (defScope s_near_certificate_holds) f cdv Ar outer s H E) (fun cls d _ H' => E cls d H') (defBody s_near_certificate_holds) w_near_certificate_holds := by
  have nd : N_near_certificate_holds.Nodup := sc_near_certificate_holds.nd
  have hr4 : Room 4 _ := hr.mono (by decide)
  have hr6 : Room 6 _ := hr.mono (by decide)
  have tk := takes_of (X := cxOf (L2.CX P w) P w K mg base N_near_certificate_holds "near_certificate_holds" (defScope s_near_certificate_holds) f cdv Ar outer s H E) (E := E) rfl rfl rfl rfl
  have hu64 := hr.units
  exact (jss_cons (js_setF (i := 4) nd rfl (Or.inl rfl) (je_callX G_near_certificate hr6 tk (by rfl) T.g_near_certificate T.k_near_certificate T.n_near_certificate (ja_cons (je_var (pv 0)) (ja_cons (je_var (pv 1)) (ja_cons (je_var (pv 2)) ja_nil)))))
    (jss_cons (js_if (jt_w (jw_or (jt_not (jt_val (je_callB call_isi (cr_isiX T.oc) (by rfl) T.b_isinstance (by decide +kernel) (ja_cons (je_var (pv 3)) (ja_cons (je_ty (by rfl) T.b_tuple (by decide +kernel)) ja_nil))))) (jw_or1 (jt_cmp op_neI br_neI (je_callB call_len cr_len (by rfl) T.b_len (by decide +kernel) (ja_cons (je_var (pv 3)) ja_nil)) (je_callB call_len cr_len (by rfl) T.b_len (by decide +kernel) (ja_cons (je_var (pv 4)) ja_nil)) (nomark _)))))
    (jss_one (js_ret je_bl))
    jss_nil)
    (jss_one (js_ret (je_and (je_callB (cr_all rfl) cr_allD (by rfl) T.b_all (by decide +kernel) (ja_cons (je_lc (own := [("length", 5), ("level", 6)]) rfl nd (ji_enumT (by rfl) T.b_enumerate (ja_cons (je_var (pv 3)) ja_nil)) (blkOk_by (own := [("length", 5), ("level", 6)]) (N := N_near_certificate_holds) (sc := defScope s_near_certificate_holds) (by decide +kernel)) (fun _ _ _ _ _ => (jg_tup rfl (jgs_cons (jg_name (i := 5) (by decide) (pg_name (i := 5) nd rfl (by first | exact Or.inl rfl | exact Or.inr rfl))) (jgs_cons (jg_name (i := 6) (by decide) (pg_name (i := 6) nd rfl (by first | exact Or.inl rfl | exact Or.inr rfl))) jgs_nil)))) (fun _ _ _ _ _ => jts_nil) (fun _ _ _ _ _ => (je_call (G_is_level) hr4 (by rfl) T.g_is_level T.k_is_level T.n_is_level (ja_cons (je_var (pv 6)) (ja_cons (je_var (pv 5)) ja_nil))))) ja_nil)) (je_one (je_cmp (op_eqD hu64) br_eq (je_var (pv 3)) (je_var (pv 4)) (nomark _))))))))
theorem sc_Share_init : FnScope N_Share_init ["self", "top", "bottom"] (defScope s_Share_init) := ⟨rfl, rfl, rfl, by decide +kernel, rfl, by decide +kernel, by decide +kernel⟩
theorem j_Share_init {P : Program} {w : World} {K : PySem.W.Frag} {mg : Str → Option Value} {base : Heap} {A : Ad} (T : Txt K mg A) (G_is_integer : FnOk P w K mg base CX0 1 A.a_is_integer A.d_is_integer ["value"] (spF K R_is_integer)) {f : Addr} {cdv : Value} {Ar : Around} {outer : List Env} {s : Shared} {H : Hp} {E : XK} (hr : Room 1 (Ar.deeper (envOfC "Share.__init__" (defScope s_Share_init) s.heap.objs.size f cdv))) :
    JSs (cxOf CX0 P w K mg base N_Share_init "Share.__init__" (defScope s_Share_init) f cdv Ar outer s H E).nox NW (defBody s_Share_init) w_Share_init := by
  have nd : N_Share_init.Nodup := sc_Share_init.nd
  have hr1 : Room 1 _ := hr.mono (by decide)
  exact (jss_cons (js_if (jt_not (jt_val (je_call (G_is_integer) hr1 (by rfl) T.g_is_integer T.k_is_integer T.n_is_integer (ja_cons (je_var (pv 1)) ja_nil))))
    (jss_one js_never)
    jss_nil)
    (jss_cons (js_if (jt_w (jw_or (jt_not (jt_val (je_call (G_is_integer) hr1 (by rfl) T.g_is_integer T.k_is_integer T.n_is_integer (ja_cons (je_var (pv 2)) ja_nil)))) (jw_or1 (jt_cmp op_lt br_lt (je_var (pv 2)) je_int (nomark _)))))
    (jss_one js_never)
    jss_nil)
    (jss_cons (js_setF (i := 3) nd rfl (Or.inl rfl) (je_callBf cr_gcd cr_gcdD (by rfl) T.bf_gcd (ja_cons (je_var (pv 1)) (ja_cons (je_var (pv 2)) ja_nil))))
    (jss_cons (js_fldS T.cl_Share T.no_Share_top (pv 0) (je_op op_fdiv br_div (je_var (pv 1)) (je_var (pv 3))))
    (jss_one (js_fldS T.cl_Share T.no_Share_bottom (pv 0) (je_op op_fdiv br_div (je_var (pv 2)) (je_var (pv 3)))))))))
theorem sc__law_feed : FnScope N__law_feed ["script"] (defScope s__law_feed) := ⟨rfl, rfl, rfl, by decide +kernel, rfl, by decide +kernel, by decide +kernel⟩
theorem j__law_feed {P : Program} {w : World} {K : PySem.W.Frag} {mg : Str → Option Value} {base : Heap} {A : Ad} (T : Txt K mg A) {f : Addr} {cdv : Value} {Ar : Around} {outer : List Env} {s : Shared} {H : Hp} {E : XK} (hr : Room 0 (Ar.deeper (envOfC "_law_feed" (defScope s__law_feed) s.heap.objs.size f cdv))) :
    JSs (cxOf CX0 P w K mg base N__law_feed "_law_feed" (defScope s__law_feed) f cdv Ar outer s H E).nox NW (defBody s__law_feed) w__law_feed := by
  have nd : N__law_feed.Nodup := sc__law_feed.nd
  have hp := @PassesOwn.never
  exact (jss_cons (js_setLcF (i := 1) (own := [("cell", 3)]) rfl nd rfl rfl (sw_true rfl rfl rfl (by decide +kernel)) (ji_list (je_slL (je_var (pv 0)) jo_none (jo_some je_int))) (blkOk_by (own := [("cell", 3)]) (N := N__law_feed) (sc := defScope s__law_feed) (by decide +kernel)) (fun _ _ _ _ _ => (jg_name (i := 3) (by decide) (pg_name (i := 3) nd rfl (by first | exact Or.inl rfl | exact Or.inr rfl)))) (fun _ _ _ _ _ => jts_nil) (fun _ _ _ _ _ => (je_callB call_abs cr_absI (by rfl) T.b_abs (by decide +kernel) (ja_cons (je_callTy call_int1 cr_int1D (by rfl) T.b_int (by decide +kernel) (ja_cons (je_var (pv 3)) ja_nil)) ja_nil))))
    (jss_cons (js_setF (i := 2) nd rfl (Or.inl rfl) je_int)
    (jss_cons (js_for (vs := [3]) hp rfl (ji_list (je_var (pv 1))) (jg_name (i := 3) (by decide) (pg_name (i := 3) nd rfl (by first | exact Or.inl rfl | exact Or.inr rfl)))
    (jss_one (js_setF (i := 2) nd rfl (Or.inl rfl) (je_op op_mod br_mod (je_callTy call_int1 cr_int1D (by rfl) T.b_int (by decide +kernel) (ja_cons (je_op op_add br_add (je_op op_add br_add (je_op op_mul br_mul (je_var (pv 2)) je_int) (je_var (pv 3))) je_int) ja_nil)) je_int))))
    (jss_one (js_ret (je_lst (ja_cons (je_var (pv 1)) (ja_cons je_int (ja_cons je_int (ja_cons (je_var (pv 2)) ja_nil))))))))))
theorem sc__law_draw : FnScope N__law_draw ["feed", "many"] (defScope s__law_draw) := ⟨rfl, rfl, rfl, by decide +kernel, rfl, by decide +kernel, by decide +kernel⟩
theorem j__law_draw {P : Program} {w : World} {K : PySem.W.Frag} {mg : Str → Option Value} {base : Heap} {A : Ad} (T : Txt K mg A) {f : Addr} {cdv : Value} {Ar : Around} {outer : List Env} {s : Shared} {H : Hp} {E : XK} (hr : Room 0 (Ar.deeper (envOfC "_law_draw" (defScope s__law_draw) s.heap.objs.size f cdv))) :
    JSs (cxOf CX0 P w K mg base N__law_draw "_law_draw" (defScope s__law_draw) f cdv Ar outer s H E).nox NW (defBody s__law_draw) w__law_draw := by
  have nd : N__law_draw.Nodup := sc__law_draw.nd
  exact (jss_cons (js_if (jt_cmp op_gt br_gt (je_ixM (pv 0) je_int (fun _ _ => rfl)) je_int (nomark _))
    (jss_cons (js_setF (i := 2) nd rfl (Or.inl rfl) (je_ixM (pv 0) je_int (fun _ _ => rfl)))
    (jss_cons (js_setIx (ps_asg (je_op op_fdiv br_div (je_var (pv 2)) (je_var (pv 1))) (pg_sub (pv 0) je_int set_list)))
    (jss_one (js_ret (je_op op_mod br_mod (je_callTy call_int1 cr_int1D (by rfl) T.b_int (by decide +kernel) (ja_cons (je_var (pv 2)) ja_nil)) (je_var (pv 1)))))))
    jss_nil)
    (jss_cons (js_if (jt_cmp op_lt br_lt (je_ixM (pv 0) je_int (fun _ _ => rfl)) (je_callB call_len cr_len (by rfl) T.b_len (by decide +kernel) (ja_cons (je_ixM (pv 0) je_int (fun _ _ => rfl)) ja_nil)) (nomark _))
    (jss_cons (js_setF (i := 3) nd rfl (Or.inl rfl) (je_ix ix_seq br_ix (je_ixM (pv 0) je_int (fun _ _ => rfl)) (je_ixM (pv 0) je_int (fun _ _ => rfl)) (fun _ _ => rfl)))
    (jss_cons (js_setIx (ps_asg (je_op op_add br_add (je_ixM (pv 0) je_int (fun _ _ => rfl)) je_int) (pg_sub (pv 0) je_int set_list)))
    (jss_cons (js_if (jt_cmp op_ge br_ge (je_var (pv 3)) (je_op op_pow br_pow je_int je_int) (nomark _))
    (jss_cons (js_setIx (ps_asg (je_op op_fdiv br_div (je_var (pv 3)) (je_var (pv 1))) (pg_sub (pv 0) je_int set_list)))
    (jss_one (js_ret (je_op op_mod br_mod (je_callTy call_int1 cr_int1D (by rfl) T.b_int (by decide +kernel) (ja_cons (je_var (pv 3)) ja_nil)) (je_var (pv 1))))))
    jss_nil)
    (jss_cons (js_setF (i := 4) nd rfl (Or.inl rfl) (je_op op_mod br_mod (je_callTy call_int1 cr_int1D (by rfl) T.b_int (by decide +kernel) (ja_cons (je_op op_add br_add (je_op op_add br_add (je_op op_mul br_mul (je_var (pv 3)) je_int) (je_op op_mul br_mul (je_ixM (pv 0) je_int (fun _ _ => rfl)) je_int)) je_int) ja_nil)) je_int))
    (jss_cons (js_setF (i := 4) nd rfl (Or.inl rfl) (je_op op_mod br_mod (je_callTy call_int1 cr_int1D (by rfl) T.b_int (by decide +kernel) (ja_cons (je_op op_add br_add (je_op op_mul br_mul (je_var (pv 4)) je_int) (je_var (pv 3))) ja_nil)) je_int))
    (jss_one (js_ret (je_op op_mod br_mod (je_callTy call_int1 cr_int1D (by rfl) T.b_int (by decide +kernel) (ja_cons (je_op op_fdiv br_div (je_var (pv 4)) je_int) ja_nil)) (je_var (pv 1))))))))))
    jss_nil)
    (jss_cons (js_setIx (ps_asg (je_op op_mod br_mod (je_callTy call_int1 cr_int1D (by rfl) T.b_int (by decide +kernel) (ja_cons (je_op op_add br_add (je_op op_mul br_mul (je_ixM (pv 0) je_int (fun _ _ => rfl)) je_int) je_int) ja_nil)) je_int) (pg_sub (pv 0) je_int set_list)))
    (jss_one (js_ret (je_op op_mod br_mod (je_callTy call_int1 cr_int1D (by rfl) T.b_int (by decide +kernel) (ja_cons (je_op op_fdiv br_div (je_ixM (pv 0) je_int (fun _ _ => rfl)) je_int) ja_nil)) (je_var (pv 1))))))))
theorem sc__law_size : FnScope N__law_size ["n"] (defScope s__law_size) := ⟨rfl, rfl, rfl, by decide +kernel, rfl, by decide +kernel, by decide +kernel⟩
theorem j__law_size {P : Program} {w : World} {K : PySem.W.Frag} {mg : Str → Option Value} {base : Heap} {A : Ad} (T : Txt K mg A) {f : Addr} {cdv : Value} {Ar : Around} {outer : List Env} {s : Shared} {H : Hp} {E : XK} (hr : Room 0 (Ar.deeper (envOfC "_law_size" (defScope s__law_size) s.heap.objs.size f cdv))) :
    JSs (cxOf CX0 P w K mg base N__law_size "_law_size" (defScope s__law_size) f cdv Ar outer s H E).nox NW (defBody s__law_size) w__law_size := by
  have nd : N__law_size.Nodup := sc__law_size.nd
  have hp := @PassesOwn.never
  exact (jss_cons (js_setF (i := 1) nd rfl (Or.inl rfl) je_int)
    (jss_cons (js_for (vs := [2]) hp rfl (ji_range1 (by rfl) T.b_range (ja_cons (je_var (pv 0)) ja_nil)) (jg_name (i := 2) (by decide) (pg_name (i := 2) nd rfl (by first | exact Or.inl rfl | exact Or.inr rfl)))
    (jss_one (js_setF (i := 1) nd rfl (Or.inl rfl) (je_op op_mul br_mul je_int (je_var (pv 1))))))
    (jss_one (js_ret (je_var (pv 1))))))
theorem sc__law_bits : FnScope N__law_bits ["n", "x"] (defScope s__law_bits) := ⟨rfl, rfl, rfl, by decide +kernel, rfl, by decide +kernel, by decide +kernel⟩
theorem j__law_bits {P : Program} {w : World} {K : PySem.W.Frag} {mg : Str → Option Value} {base : Heap} {A : Ad} (T : Txt K mg A) {f : Addr} {cdv : Value} {Ar : Around} {outer : List Env} {s : Shared} {H : Hp} {E : XK} (hr : Room 0 (Ar.deeper (envOfC "_law_bits" (defScope s__law_bits) s.heap.objs.size f cdv))) :
    JSs (cxOf CX0 P w K mg base N__law_bits "_law_bits" (defScope s__law_bits) f cdv Ar outer s H E).nox NW (defBody s__law_bits) w__law_bits := by
  have nd : N__law_bits.Nodup := sc__law_bits.nd
  have hp := @PassesOwn.never
  exact (jss_cons (js_set (i := 2) nd rfl (Or.inl rfl) (je_lst ja_nil))
    (jss_cons (js_for (vs := [3]) hp rfl (ji_range1 (by rfl) T.b_range (ja_cons (je_var (pv 0)) ja_nil)) (jg_name (i := 3) (by decide) (pg_name (i := 3) nd rfl (by first | exact Or.inl rfl | exact Or.inr rfl)))
    (jss_cons (js_app (ps_expr (pe_bm PySem.F.plainAttrs_list PySem.F.slot_list_append PySem.F.type_list_append mt_append (pv 2) (pa_cons (je_op op_mod br_mod (je_callTy call_int1 cr_int1D (by rfl) T.b_int (by decide +kernel) (ja_cons (je_var (pv 1)) ja_nil)) je_int) pa_nil))))
    (jss_one (js_setF (i := 1) nd rfl (Or.inl rfl) (je_op op_fdiv br_div (je_var (pv 1)) je_int)))))
    (jss_cons (js_revS (ps_expr (pe_bm0 PySem.F.plainAttrs_list PySem.F.slot_list_reverse PySem.F.type_list_reverse mt_reverse (pv 2))))
    (jss_one (js_ret (je_mov (pv 2)))))))
theorem sc__law_linear : FnScope N__law_linear ["n", "a"] (defScope s__law_linear) := ⟨rfl, rfl, rfl, by decide +kernel, rfl, by decide +kernel, by decide +kernel⟩
theorem j__law_linear {P : Program} {w : World} {K : PySem.W.Frag} {mg : Str → Option Value} {base : Heap} {A : Ad} (T : Txt K mg A) (G__law_bits : FnOk P w K mg base CX0 1 A.a__law_bits A.d__law_bits ["n", "x"] (spF K R__law_bits)) (G__law_size : FnOk P w K mg base CX0 1 A.a__law_size A.d__law_size ["n"] (spF K R__law_size)) {f : Addr} {cdv : Value} {Ar : Around} {outer : List Env} {s : Shared} {H : Hp} {E : XK} (hr : Room 1 (Ar.deeper (envOfC "_law_linear" (defScope s__law_linear) s.heap.objs.size f cdv))) :
    JSs (cxOf CX0 P w K mg base N__law_linear "_law_linear" (defScope s__law_linear) f cdv Ar outer s H E).nox NW (defBody s__law_linear) w__law_linear := by
  have nd : N__law_linear.Nodup := sc__law_linear.nd
  have hr1 : Room 1 _ := hr.mono (by decide)
  have hp := @PassesOwn.never
  exact (jss_cons (js_setF (i := 2) nd rfl (Or.inr rfl) (je_call (G__law_bits) hr1 (by rfl) T.g__law_bits T.k__law_bits T.n__law_bits (ja_cons (je_var (pv 0)) (ja_cons (je_var (pv 1)) ja_nil))))
    (jss_cons (js_set (i := 3) nd rfl (Or.inl rfl) (je_lst ja_nil))
    (jss_cons (js_for (vs := [4]) hp rfl (ji_range1 (by rfl) T.b_range (ja_cons (je_call (G__law_size) hr1 (by rfl) T.g__law_size T.k__law_size T.n__law_size (ja_cons (je_var (pv 0)) ja_nil)) ja_nil)) (jg_name (i := 4) (by decide) (pg_name (i := 4) nd rfl (by first | exact Or.inl rfl | exact Or.inr rfl)))
    (jss_cons (js_setF (i := 5) nd rfl (Or.inr rfl) (je_call (G__law_bits) hr1 (by rfl) T.g__law_bits T.k__law_bits T.n__law_bits (ja_cons (je_var (pv 0)) (ja_cons (je_var (pv 4)) ja_nil))))
    (jss_one (js_app (ps_expr (pe_bm PySem.F.plainAttrs_list PySem.F.slot_list_append PySem.F.type_list_append mt_append (pv 3) (pa_cons (je_op op_mod br_mod (je_callTy call_int1 cr_int1D (by rfl) T.b_int (by decide +kernel) (ja_cons (je_callB (cr_sum rfl) cr_sumD (by rfl) T.b_sum (by decide +kernel) (ja_cons (je_lc (own := [("k", 6)]) rfl nd (ji_range1 (by rfl) T.b_range (ja_cons (je_var (pv 0)) ja_nil)) (blkOk_by (own := [("k", 6)]) (N := N__law_linear) (sc := defScope s__law_linear) (by decide +kernel)) (fun _ _ _ _ _ => (jg_name (i := 6) (by decide) (pg_name (i := 6) nd rfl (by first | exact Or.inl rfl | exact Or.inr rfl)))) (fun _ _ _ _ _ => jts_nil) (fun _ _ _ _ _ => (je_op op_mul br_mul (je_ix ix_seq br_ix (je_var (pv 2)) (je_var (pv 6)) (fun _ _ => rfl)) (je_ix ix_seq br_ix (je_var (pv 5)) (je_var (pv 6)) (fun _ _ => rfl))))) ja_nil)) ja_nil)) je_int) pa_nil)))))))
    (jss_one (js_ret (je_mov (pv 3)))))))
theorem sc__law_table : FnScope N__law_table ["feed", "n"] (defScope s__law_table) := ⟨rfl, rfl, rfl, by decide +kernel, rfl, by decide +kernel, by decide +kernel⟩
theorem j__law_table {P : Program} {w : World} {K : PySem.W.Frag} {mg : Str → Option Value} {base : Heap} {A : Ad} (T : Txt K mg A) (G__law_size : FnOk P w K mg base CX0 1 A.a__law_size A.d__law_size ["n"] (spF K R__law_size)) (G__law_draw : FnOk P w K mg base CX0 1 A.a__law_draw A.d__law_draw ["feed", "many"] (spB K R__law_draw)) (G__law_linear : FnOk P w K mg base CX0 2 A.a__law_linear A.d__law_linear ["n", "a"] (spF K R__law_linear)) (G__law_bits : FnOk P w K mg base CX0 1 A.a__law_bits A.d__law_bits ["n", "x"] (spF K R__law_bits)) {f : Addr} {cdv : Value} {Ar : Around} {outer : List Env} {s : Shared} {H : Hp} {E : XK} (hr : Room 2 (Ar.deeper (envOfC "_law_table" (defScope s__law_table) s.heap.objs.size f cdv))) :
    JSs (cxOf CX0 P w K mg base N__law_table "_law_table" (defScope s__law_table) f cdv Ar outer s H E).nox NW (defBody s__law_table) w__law_table := by
  have nd : N__law_table.Nodup := sc__law_table.nd
  have hr1 : Room 1 _ := hr.mono (by decide)
  have hr2 : Room 2 _ := hr.mono (by decide)
  have hp := @PassesOwn.never
  exact (jss_cons (js_setF (i := 2) nd rfl (Or.inl rfl) (je_call (G__law_size) hr1 (by rfl) T.g__law_size T.k__law_size T.n__law_size (ja_cons (je_var (pv 1)) ja_nil)))
    (jss_cons (js_setF (i := 3) nd rfl (Or.inl rfl) (je_callL (G__law_draw) hr1 (by rfl) T.g__law_draw T.k__law_draw T.n__law_draw (pv 0) (ja_cons je_int ja_nil)))
    (jss_cons (js_if (jt_cmp op_eqI br_eqI (je_var (pv 3)) je_int (nomark _))
    (jss_one (js_ret (je_lc (own := [("x", 6)]) rfl nd (ji_range1 (by rfl) T.b_range (ja_cons (je_var (pv 2)) ja_nil)) (blkOk_by (own := [("x", 6)]) (N := N__law_table) (sc := defScope s__law_table) (by decide +kernel)) (fun _ _ _ _ _ => (jg_name (i := 6) (by decide) (pg_name (i := 6) nd rfl (by first | exact Or.inl rfl | exact Or.inr rfl)))) (fun _ _ _ _ _ => jts_nil) (fun _ _ _ _ _ => (je_callL (G__law_draw) hr1 (by rfl) T.g__law_draw T.k__law_draw T.n__law_draw (pv 0) (ja_cons je_int ja_nil))))))
    jss_nil)
    (jss_cons (js_if (jt_cmp op_eqI br_eqI (je_var (pv 3)) je_int (nomark _))
    (jss_cons (js_setF (i := 4) nd rfl (Or.inr rfl) (je_callL (G__law_draw) hr1 (by rfl) T.g__law_draw T.k__law_draw T.n__law_draw (pv 0) (ja_cons je_int ja_nil)))
    (jss_one (js_ret (je_lc (own := [("x", 6)]) rfl nd (ji_range1 (by rfl) T.b_range (ja_cons (je_var (pv 2)) ja_nil)) (blkOk_by (own := [("x", 6)]) (N := N__law_table) (sc := defScope s__law_table) (by decide +kernel)) (fun _ _ _ _ _ => (jg_name (i := 6) (by decide) (pg_name (i := 6) nd rfl (by first | exact Or.inl rfl | exact Or.inr rfl)))) (fun _ _ _ _ _ => jts_nil) (fun _ _ _ _ _ => (je_var (pv 4)))))))
    jss_nil)
    (jss_cons (js_set (i := 5) nd rfl (Or.inl rfl) (je_call (G__law_linear) hr2 (by rfl) T.g__law_linear T.k__law_linear T.n__law_linear (ja_cons (je_var (pv 1)) (ja_cons (je_callL (G__law_draw) hr1 (by rfl) T.g__law_draw T.k__law_draw T.n__law_draw (pv 0) (ja_cons (je_var (pv 2)) ja_nil)) ja_nil))))
    (jss_cons (js_if (jt_cmp op_eqI br_eqI (je_var (pv 3)) je_int (nomark _))
    (jss_cons (js_for (vs := [6]) hp rfl (ji_range1 (by rfl) T.b_range (ja_cons (je_var (pv 2)) ja_nil)) (jg_name (i := 6) (by decide) (pg_name (i := 6) nd rfl (by first | exact Or.inl rfl | exact Or.inr rfl)))
    (jss_cons (js_setF (i := 7) nd rfl (Or.inr rfl) (je_call (G__law_bits) hr1 (by rfl) T.g__law_bits T.k__law_bits T.n__law_bits (ja_cons (je_var (pv 1)) (ja_cons (je_var (pv 6)) ja_nil))))
    (jss_one (js_setIx (ps_asg (je_op op_mod br_mod (je_callTy call_int1 cr_int1D (by rfl) T.b_int (by decide +kernel) (ja_cons (je_op op_add br_add (je_ixM (pv 5) (je_var (pv 6)) (fun _ _ => rfl)) (je_callB (cr_sum rfl) cr_sumD (by rfl) T.b_sum (by decide +kernel) (ja_cons (je_lc (own := [("k", 8)]) rfl nd (ji_range3 (by rfl) T.b_range (ja_cons je_int (ja_cons (je_op op_sub br_sub (je_var (pv 1)) je_int) (ja_cons je_int ja_nil)))) (blkOk_by (own := [("k", 8)]) (N := N__law_table) (sc := defScope s__law_table) (by decide +kernel)) (fun _ _ _ _ _ => (jg_name (i := 8) (by decide) (pg_name (i := 8) nd rfl (by first | exact Or.inl rfl | exact Or.inr rfl)))) (fun _ _ _ _ _ => jts_nil) (fun _ _ _ _ _ => (je_op op_mul br_mul (je_ix ix_seq br_ix (je_var (pv 7)) (je_var (pv 8)) (fun _ _ => rfl)) (je_ix ix_seq br_ix (je_var (pv 7)) (je_op op_add br_add (je_var (pv 8)) je_int) (fun _ _ => rfl))))) ja_nil))) ja_nil)) je_int) (pg_sub (pv 5) (je_var (pv 6)) set_list))))))
    (jss_one (js_ret (je_mov (pv 5)))))
    jss_nil)
    (jss_cons (js_for (vs := [8]) hp rfl (ji_range1 (by rfl) T.b_range (ja_cons (je_callL (G__law_draw) hr1 (by rfl) T.g__law_draw T.k__law_draw T.n__law_draw (pv 0) (ja_cons (je_ix ix_seq br_ix (je_lst (ja_cons je_int (ja_cons je_int (ja_cons je_int ja_nil)))) (je_op op_sub br_sub (je_var (pv 3)) je_int) (fun _ _ => rfl)) ja_nil)) ja_nil)) (jg_name (i := 8) (by decide) (pg_name (i := 8) nd rfl (by first | exact Or.inl rfl | exact Or.inr rfl)))
    (jss_cons (js_setF (i := 6) nd rfl (Or.inl rfl) (je_callL (G__law_draw) hr1 (by rfl) T.g__law_draw T.k__law_draw T.n__law_draw (pv 0) (ja_cons (je_var (pv 2)) ja_nil)))
    (jss_one (js_setIx (ps_asg (je_op op_sub br_sub je_int (je_ixM (pv 5) (je_var (pv 6)) (fun _ _ => rfl))) (pg_sub (pv 5) (je_var (pv 6)) set_list))))))
    (jss_one (js_ret (je_mov (pv 5)))))))))))
theorem sc__law_signs : FnScope N__law_signs ["n", "f"] (defScope s__law_signs) := ⟨rfl, rfl, rfl, by decide +kernel, rfl, by decide +kernel, by decide +kernel⟩
theorem j__law_signs {P : Program} {w : World} {K : PySem.W.Frag} {mg : Str → Option Value} {base : Heap} {A : Ad} (T : Txt K mg A) {f : Addr} {cdv : Value} {Ar : Around} {outer : List Env} {s : Shared} {H : Hp} {E : XK} (hr : Room 0 (Ar.deeper (envOfC "_law_signs" (defScope s__law_signs) s.heap.objs.size f cdv))) :
    JSs (cxOf CX0 P w K mg base N__law_signs "_law_signs" (defScope s__law_signs) f cdv Ar outer s H E).nox NW (defBody s__law_signs) w__law_signs := by
  have nd : N__law_signs.Nodup := sc__law_signs.nd
  have hp := @PassesOwn.never
  exact (jss_cons (js_setLcF (i := 2) (own := [("bit", 7)]) rfl nd rfl rfl (sw_true rfl rfl rfl (by decide +kernel)) (ji_tup (je_var (pv 1))) (blkOk_by (own := [("bit", 7)]) (N := N__law_signs) (sc := defScope s__law_signs) (by decide +kernel)) (fun _ _ _ _ _ => (jg_name (i := 7) (by decide) (pg_name (i := 7) nd rfl (by first | exact Or.inl rfl | exact Or.inr rfl)))) (fun _ _ _ _ _ => jts_nil) (fun _ _ _ _ _ => (je_op op_sub br_sub je_int (je_op op_mul br_mul je_int (je_var (pv 7))))))
    (jss_cons (js_setF (i := 3) nd rfl (Or.inl rfl) je_int)
    (jss_cons (js_for (vs := [4]) hp rfl (ji_range1 (by rfl) T.b_range (ja_cons (je_var (pv 0)) ja_nil)) (jg_name (i := 4) (by decide) (pg_name (i := 4) nd rfl (by first | exact Or.inl rfl | exact Or.inr rfl)))
    (jss_cons (js_set (i := 5) nd rfl (Or.inl rfl) (je_lst ja_nil))
    (jss_cons (js_for (vs := [6]) hp rfl (ji_range1 (by rfl) T.b_range (ja_cons (je_callB call_len cr_len (by rfl) T.b_len (by decide +kernel) (ja_cons (je_var (pv 2)) ja_nil)) ja_nil)) (jg_name (i := 6) (by decide) (pg_name (i := 6) nd rfl (by first | exact Or.inl rfl | exact Or.inr rfl)))
    (jss_one (js_if (jt_cmp op_eqI br_eqI (je_op op_mod br_mod (je_callTy call_int1 cr_int1D (by rfl) T.b_int (by decide +kernel) (ja_cons (je_op op_fdiv br_div (je_var (pv 6)) (je_var (pv 3))) ja_nil)) je_int) je_int (nomark _))
    (jss_one (js_app (ps_expr (pe_bm PySem.F.plainAttrs_list PySem.F.slot_list_append PySem.F.type_list_append mt_append (pv 5) (pa_cons (je_op op_add br_add (je_ix ix_seq br_ix (je_var (pv 2)) (je_var (pv 6)) (fun _ _ => rfl)) (je_ix ix_seq br_ix (je_var (pv 2)) (je_op op_add br_add (je_var (pv 6)) (je_var (pv 3))) (fun _ _ => rfl))) pa_nil)))))
    (jss_one (js_app (ps_expr (pe_bm PySem.F.plainAttrs_list PySem.F.slot_list_append PySem.F.type_list_append mt_append (pv 5) (pa_cons (je_op op_sub br_sub (je_ix ix_seq br_ix (je_var (pv 2)) (je_op op_sub br_sub (je_var (pv 6)) (je_var (pv 3))) (fun _ _ => rfl)) (je_ix ix_seq br_ix (je_var (pv 2)) (je_var (pv 6)) (fun _ _ => rfl))) pa_nil))))))))
    (jss_cons (js_setF (i := 2) nd rfl (Or.inl rfl) (je_frz (pv 5)))
    (jss_one (js_setF (i := 3) nd rfl (Or.inl rfl) (je_op op_mul br_mul je_int (je_var (pv 3)))))))))
    (jss_one (js_ret (je_var (pv 2)))))))
theorem sc__law_broken : FnScope N__law_broken ["f"] (defScope s__law_broken) := ⟨rfl, rfl, rfl, by decide +kernel, rfl, by decide +kernel, by decide +kernel⟩
theorem j__law_broken {P : Program} {w : World} {K : PySem.W.Frag} {mg : Str → Option Value} {base : Heap} {A : Ad} (T : Txt K mg A) {f : Addr} {cdv : Value} {Ar : Around} {outer : List Env} {s : Shared} {H : Hp} {E : XK} (hr : Room 0 (Ar.deeper (envOfC "_law_broken" (defScope s__law_broken) s.heap.objs.size f cdv))) :
    JSs (cxOf CX0 P w K mg base N__law_broken "_law_broken" (defScope s__law_broken) f cdv Ar outer s H E).nox NW (defBody s__law_broken) w__law_broken := by
  have nd : N__law_broken.Nodup := sc__law_broken.nd
  have hp := @PassesOwn.never
  have hu64 := hr.units
  exact (jss_cons (js_setF (i := 1) nd rfl (Or.inl rfl) je_int)
    (jss_cons (js_for (vs := [2]) hp rfl (ji_range1 (by rfl) T.b_range (ja_cons (je_callB call_len cr_len (by rfl) T.b_len (by decide +kernel) (ja_cons (je_var (pv 0)) ja_nil)) ja_nil)) (jg_name (i := 2) (by decide) (pg_name (i := 2) nd rfl (by first | exact Or.inl rfl | exact Or.inr rfl)))
    (jss_one (js_setF (i := 1) nd rfl (Or.inl rfl) (je_op op_add br_add (je_var (pv 1)) (je_callB call_len cr_len (by rfl) T.b_len (by decide +kernel) (ja_cons (je_lc (own := [("y", 3)]) rfl nd (ji_range1 (by rfl) T.b_range (ja_cons (je_callB call_len cr_len (by rfl) T.b_len (by decide +kernel) (ja_cons (je_var (pv 0)) ja_nil)) ja_nil)) (blkOk_by (own := [("y", 3)]) (N := N__law_broken) (sc := defScope s__law_broken) (by decide +kernel)) (fun _ _ _ _ _ => (jg_name (i := 3) (by decide) (pg_name (i := 3) nd rfl (by first | exact Or.inl rfl | exact Or.inr rfl)))) (fun _ _ _ _ _ => (jts_one (jt_cmp (op_neD hu64) br_ne (je_ix ix_seq br_ix (je_var (pv 0)) (je_op op_xor br_bxor (je_var (pv 2)) (je_var (pv 3))) (fun _ _ => rfl)) (je_op op_xor br_bxor (je_ix ix_seq br_ix (je_var (pv 0)) (je_var (pv 2)) (fun _ _ => rfl)) (je_ix ix_seq br_ix (je_var (pv 0)) (je_var (pv 3)) (fun _ _ => rfl))) (nomark _)))) (fun _ _ _ _ _ => (je_var (pv 3)))) ja_nil))))))
    (jss_one (js_ret (je_var (pv 1))))))
theorem sc__law_weight : FnScope N__law_weight ["n", "told", "bits"] (defScope s__law_weight) := ⟨rfl, rfl, rfl, by decide +kernel, rfl, by decide +kernel, by decide +kernel⟩
theorem j__law_weight {P : Program} {w : World} {K : PySem.W.Frag} {mg : Str → Option Value} {base : Heap} {A : Ad} (T : Txt K mg A) {f : Addr} {cdv : Value} {Ar : Around} {outer : List Env} {s : Shared} {H : Hp} {E : XK} (hr : Room 0 (Ar.deeper (envOfC "_law_weight" (defScope s__law_weight) s.heap.objs.size f cdv))) :
    JSs (cxOf CX0 P w K mg base N__law_weight "_law_weight" (defScope s__law_weight) f cdv Ar outer s H E).nox NW (defBody s__law_weight) w__law_weight := by
  have nd : N__law_weight.Nodup := sc__law_weight.nd
  have hp := @PassesOwn.never
  exact (jss_cons (js_setF (i := 3) nd rfl (Or.inl rfl) (je_callB call_len cr_len (by rfl) T.b_len (by decide +kernel) (ja_cons (je_var (pv 1)) ja_nil)))
    (jss_cons (js_setF (i := 4) nd rfl (Or.inl rfl) je_int)
    (jss_cons (js_for (vs := [5]) hp rfl (ji_tup (je_var (pv 2))) (jg_name (i := 5) (by decide) (pg_name (i := 5) nd rfl (by first | exact Or.inl rfl | exact Or.inr rfl)))
    (jss_cons (js_setF (i := 3) nd rfl (Or.inl rfl) (je_op op_fdiv br_div (je_var (pv 3)) je_int))
    (jss_one (js_setF (i := 4) nd rfl (Or.inl rfl) (je_op op_add br_add (je_var (pv 4)) (je_op op_mul br_mul (je_var (pv 5)) (je_var (pv 3))))))))
    (jss_one (js_ret (je_callB (cr_sum rfl) cr_sumD (by rfl) T.b_sum (by decide +kernel) (ja_cons (je_lc (own := [("value", 6)]) rfl nd (ji_list (je_slL (je_var (pv 1)) (jo_some (je_var (pv 4))) (jo_some (je_op op_add br_add (je_var (pv 4)) (je_var (pv 3)))))) (blkOk_by (own := [("value", 6)]) (N := N__law_weight) (sc := defScope s__law_weight) (by decide +kernel)) (fun _ _ _ _ _ => (jg_name (i := 6) (by decide) (pg_name (i := 6) nd rfl (by first | exact Or.inl rfl | exact Or.inr rfl)))) (fun _ _ _ _ _ => jts_nil) (fun _ _ _ _ _ => (je_op op_mul br_mul (je_var (pv 6)) (je_var (pv 6))))) ja_nil)))))))
theorem sc__law_levels : FnScope N__law_levels ["n", "told", "t"] (defScope s__law_levels) := ⟨rfl, rfl, rfl, by decide +kernel, rfl, by decide +kernel, by decide +kernel⟩
theorem j__law_levels {P : Program} {w : World} {K : PySem.W.Frag} {mg : Str → Option Value} {base : Heap} {A : Ad} (T : Txt K mg A) (G__law_weight : FnOk P w K mg base CX0 1 A.a__law_weight A.d__law_weight ["n", "told", "bits"] (spF K R__law_weight)) {f : Addr} {cdv : Value} {Ar : Around} {outer : List Env} {s : Shared} {H : Hp} {E : XK} (hr : Room 1 (Ar.deeper (envOfC "_law_levels" (defScope s__law_levels) s.heap.objs.size f cdv))) :
    JSs (cxOf CX0 P w K mg base N__law_levels "_law_levels" (defScope s__law_levels) f cdv Ar outer s H E).nox NW (defBody s__law_levels) w__law_levels := by
  have nd : N__law_levels.Nodup := sc__law_levels.nd
  have hr1 : Room 1 _ := hr.mono (by decide)
  have hp := @PassesOwn.never
  exact (jss_cons (js_setF (i := 3) nd rfl (Or.inl rfl) (je_lst (ja_cons (je_tup (ja_cons (je_tup ja_nil) (ja_cons (je_call (G__law_weight) hr1 (by rfl) T.g__law_weight T.k__law_weight T.n__law_weight (ja_cons (je_var (pv 0)) (ja_cons (je_var (pv 1)) (ja_cons (je_tup ja_nil) ja_nil)))) ja_nil))) ja_nil)))
    (jss_cons (js_set (i := 4) nd rfl (Or.inl rfl) (je_lst (ja_cons (je_callTy call_tuple_of cr_tupleOf (by rfl) T.b_tuple (by decide +kernel) (ja_cons (je_var (pv 3)) ja_nil)) ja_nil)))
    (jss_cons (js_for (vs := [5]) hp rfl (ji_range1 (by rfl) T.b_range (ja_cons (je_var (pv 0)) ja_nil)) (jg_name (i := 5) (by decide) (pg_name (i := 5) nd rfl (by first | exact Or.inl rfl | exact Or.inr rfl)))
    (jss_cons (js_set (i := 6) nd rfl (Or.inl rfl) (je_lst ja_nil))
    (jss_cons (js_for (vs := [7]) hp rfl (ji_list (je_var (pv 3))) (jg_name (i := 7) (by decide) (pg_name (i := 7) nd rfl (by first | exact Or.inl rfl | exact Or.inr rfl)))
    (jss_one (js_if (jt_cmp op_ge br_ge (je_ix ix_seq br_ix (je_var (pv 7)) je_int (fun _ _ => rfl)) (je_op op_mul br_mul (je_var (pv 2)) (je_var (pv 2))) (nomark _))
    (jss_cons (js_app (ps_expr (pe_bm PySem.F.plainAttrs_list PySem.F.slot_list_append PySem.F.type_list_append mt_append (pv 6) (pa_cons (je_tup (ja_cons (je_op op_catA br_catT (je_ix ix_seq br_ix (je_var (pv 7)) je_int (fun _ _ => rfl)) (je_tup (ja_cons je_int ja_nil))) (ja_cons (je_call (G__law_weight) hr1 (by rfl) T.g__law_weight T.k__law_weight T.n__law_weight (ja_cons (je_var (pv 0)) (ja_cons (je_var (pv 1)) (ja_cons (je_op op_catA br_catT (je_ix ix_seq br_ix (je_var (pv 7)) je_int (fun _ _ => rfl)) (je_tup (ja_cons je_int ja_nil))) ja_nil)))) ja_nil))) pa_nil))))
    (jss_one (js_app (ps_expr (pe_bm PySem.F.plainAttrs_list PySem.F.slot_list_append PySem.F.type_list_append mt_append (pv 6) (pa_cons (je_tup (ja_cons (je_op op_catA br_catT (je_ix ix_seq br_ix (je_var (pv 7)) je_int (fun _ _ => rfl)) (je_tup (ja_cons je_int ja_nil))) (ja_cons (je_call (G__law_weight) hr1 (by rfl) T.g__law_weight T.k__law_weight T.n__law_weight (ja_cons (je_var (pv 0)) (ja_cons (je_var (pv 1)) (ja_cons (je_op op_catA br_catT (je_ix ix_seq br_ix (je_var (pv 7)) je_int (fun _ _ => rfl)) (je_tup (ja_cons je_int ja_nil))) ja_nil)))) ja_nil))) pa_nil))))))
    jss_nil)))
    (jss_cons (js_setF (i := 3) nd rfl (Or.inl rfl) (je_frz (pv 6)))
    (jss_one (js_app (ps_expr (pe_bm PySem.F.plainAttrs_list PySem.F.slot_list_append PySem.F.type_list_append mt_append (pv 4) (pa_cons (je_callTy call_tuple_of cr_tupleOf (by rfl) T.b_tuple (by decide +kernel) (ja_cons (je_var (pv 3)) ja_nil)) pa_nil)))))))))
    (jss_one (js_ret (je_callTy call_tuple_of cr_tupleOf (by rfl) T.b_tuple (by decide +kernel) (ja_cons (je_frz (pv 4)) ja_nil)))))))
theorem sc__law_same : FnScope N__law_same ["told", "due"] (defScope s__law_same) := ⟨rfl, rfl, rfl, by decide +kernel, rfl, by decide +kernel, by decide +kernel⟩
theorem j__law_same {P : Program} {w : World} {K : PySem.W.Frag} {mg : Str → Option Value} {base : Heap} {A : Ad} (T : Txt K mg A) {k0 dp : Nat} (G__law_same : FnOk P w K mg base CX0 k0 A.a__law_same A.d__law_same ["told", "due"] (spF K (R__law_same dp))) {f : Addr} {cdv : Value} {Ar : Around} {outer : List Env} {s : Shared} {H : Hp} {E : XK} (hr : Room k0 (Ar.deeper (envOfC "_law_same" (defScope s__law_same) s.heap.objs.size f cdv))) :
    JSs (cxOf CX0 P w K mg base N__law_same "_law_same" (defScope s__law_same) f cdv Ar outer s H E).nox NW (defBody s__law_same) (w__law_same dp) := by
  have nd : N__law_same.Nodup := sc__law_same.nd
  have hr0 := hr
  have hp := @PassesOwn.never
  have hu64 := hr.units
  exact (jss_cons (js_if (jt_val (je_callB call_isi (cr_isiX T.oc) (by rfl) T.b_isinstance (by decide +kernel) (ja_cons (je_var (pv 1)) (ja_cons (je_ty (by rfl) T.b_tuple (by decide +kernel)) ja_nil))))
    (jss_cons (js_if (jt_w (jw_or (jt_not (jt_val (je_callB call_isi (cr_isiX T.oc) (by rfl) T.b_isinstance (by decide +kernel) (ja_cons (je_var (pv 0)) (ja_cons (je_ty (by rfl) T.b_tuple (by decide +kernel)) ja_nil))))) (jw_or1 (jt_cmp op_neI br_neI (je_callB call_len cr_len (by rfl) T.b_len (by decide +kernel) (ja_cons (je_var (pv 0)) ja_nil)) (je_callB call_len cr_len (by rfl) T.b_len (by decide +kernel) (ja_cons (je_var (pv 1)) ja_nil)) (nomark _)))))
    (jss_one (js_ret je_bl))
    jss_nil)
    (jss_cons (js_for (vs := [2]) hp rfl (ji_range1 (by rfl) T.b_range (ja_cons (je_callB call_len cr_len (by rfl) T.b_len (by decide +kernel) (ja_cons (je_var (pv 1)) ja_nil)) ja_nil)) (jg_name (i := 2) (by decide) (pg_name (i := 2) nd rfl (by first | exact Or.inl rfl | exact Or.inr rfl)))
    (jss_one (js_if (jt_not (jt_val (je_call (G__law_same) hr0 (by rfl) T.g__law_same T.k__law_same T.n__law_same (ja_cons (je_ix ix_seq br_ix (je_var (pv 0)) (je_var (pv 2)) (fun _ _ => rfl)) (ja_cons (je_ix ix_seq br_ix (je_var (pv 1)) (je_var (pv 2)) (fun _ _ => rfl)) ja_nil)))))
    (jss_one (js_ret je_bl))
    jss_nil)))
    (jss_one (js_ret je_bl))))
    jss_nil)
    (jss_one (js_ret (je_and (je_callB call_isi (cr_isiX T.oc) (by rfl) T.b_isinstance (by decide +kernel) (ja_cons (je_var (pv 0)) (ja_cons (je_ty (by rfl) T.b_int (by decide +kernel)) ja_nil))) (je_and (je_not (je_callB call_isi (cr_isiX T.oc) (by rfl) T.b_isinstance (by decide +kernel) (ja_cons (je_var (pv 0)) (ja_cons (je_ty (by rfl) T.b_bool (by decide +kernel)) ja_nil)))) (je_one (je_cmp (op_eqD hu64) br_eq (je_var (pv 0)) (je_var (pv 1)) (nomark _))))))))
theorem sc__law_put : FnScope N__law_put ["row", "at", "value"] (defScope s__law_put) := ⟨rfl, rfl, rfl, by decide +kernel, rfl, by decide +kernel, by decide +kernel⟩
theorem j__law_put {P : Program} {w : World} {K : PySem.W.Frag} {mg : Str → Option Value} {base : Heap} {A : Ad} (T : Txt K mg A) {f : Addr} {cdv : Value} {Ar : Around} {outer : List Env} {s : Shared} {H : Hp} {E : XK} (hr : Room 0 (Ar.deeper (envOfC "_law_put" (defScope s__law_put) s.heap.objs.size f cdv))) :
    JSs (cxOf CX0 P w K mg base N__law_put "_law_put" (defScope s__law_put) f cdv Ar outer s H E).nox NW (defBody s__law_put) w__law_put := by
  have nd : N__law_put.Nodup := sc__law_put.nd
  exact (jss_one (js_ret (je_op op_catA br_catT (je_op op_catA br_catT (je_slT (je_var (pv 0)) jo_none (jo_some (je_var (pv 1)))) (je_tup (ja_cons (je_var (pv 2)) ja_nil))) (je_slT (je_var (pv 0)) (jo_some (je_op op_add br_add (je_var (pv 1)) je_int)) jo_none))))
theorem sc__law_like : FnScope N__law_like ["feed", "value"] (defScope s__law_like) := ⟨rfl, rfl, rfl, by decide +kernel, rfl, by decide +kernel, by decide +kernel⟩
theorem j__law_like {P : Program} {w : World} {K : PySem.W.Frag} {mg : Str → Option Value} {base : Heap} {A : Ad} (T : Txt K mg A) (G__law_draw : FnOk P w K mg base CX0 1 A.a__law_draw A.d__law_draw ["feed", "many"] (spB K R__law_draw)) (G_Share_init : FnOk P w K mg base CX0 2 (He.ma K (He.ga K "Share") "__init__") A.d_Share_init ["self", "top", "bottom"] (spB K R_Share_init)) {f : Addr} {cdv : Value} {Ar : Around} {outer : List Env} {s : Shared} {H : Hp} {E : XK} (hr : Room 3 (Ar.deeper (envOfC "_law_like" (defScope s__law_like) s.heap.objs.size f cdv))) :
    JSs (cxOf CX0 P w K mg base N__law_like "_law_like" (defScope s__law_like) f cdv Ar outer s H E).nox NW (defBody s__law_like) w__law_like := by
  have nd : N__law_like.Nodup := sc__law_like.nd
  have hr1 : Room 1 _ := hr.mono (by decide)
  have hr2 : Room 2 _ := hr.mono (by decide)
  exact (jss_cons (js_setF (i := 2) nd rfl (Or.inl rfl) (je_callL (G__law_draw) hr1 (by rfl) T.g__law_draw T.k__law_draw T.n__law_draw (pv 0) (ja_cons je_int ja_nil)))
    (jss_cons (js_if (jt_w (jw_and (jt_cmp op_eqI br_eqI (je_var (pv 2)) je_int (nomark _)) (jw_and1 (jt_cmp op_lt br_lt (je_var (pv 1)) je_int (nomark _)))))
    (jss_one (js_ret (je_cmp op_eqI br_eqI (je_var (pv 1)) je_int (nomark _))))
    jss_nil)
    (jss_cons (js_if (jt_cmp op_lt br_lt (je_var (pv 2)) je_int (nomark _))
    (jss_one (js_ret (je_make T.mk_Share G_Share_init (hr.mono (by decide)) (by rfl) T.gc_Share T.n_Share_init (ja_cons (je_var (pv 1)) (ja_cons je_int ja_nil)))))
    jss_nil)
    (jss_one (js_ret (je_ix ix_seq br_ix (je_lst (ja_cons (je_op op_add br_add (je_var (pv 1)) je_int) (ja_cons (je_op op_sub br_sub (je_var (pv 1)) je_int) ja_nil))) (je_op op_sub br_sub (je_var (pv 2)) je_int) (fun _ _ => rfl)))))))
theorem sc__law_pair_spoilt : FnScope N__law_pair_spoilt ["feed", "pair"] (defScope s__law_pair_spoilt) := ⟨rfl, rfl, rfl, by decide +kernel, rfl, by decide +kernel, by decide +kernel⟩
theorem j__law_pair_spoilt {P : Program} {w : World} {K : PySem.W.Frag} {mg : Str → Option Value} {base : Heap} {A : Ad} (T : Txt K mg A) (G__law_draw : FnOk P w K mg base CX0 1 A.a__law_draw A.d__law_draw ["feed", "many"] (spB K R__law_draw)) (G__law_put : FnOk P w K mg base CX0 1 A.a__law_put A.d__law_put ["row", "at", "value"] (spF K R__law_put)) (G__law_like : FnOk P w K mg base CX0 4 A.a__law_like A.d__law_like ["feed", "value"] (spB K R__law_like)) {f : Addr} {cdv : Value} {Ar : Around} {outer : List Env} {s : Shared} {H : Hp} {E : XK} (hr : Room 4 (Ar.deeper (envOfC "_law_pair_spoilt" (defScope s__law_pair_spoilt) s.heap.objs.size f cdv))) :
    JSs (cxOf CX0 P w K mg base N__law_pair_spoilt "_law_pair_spoilt" (defScope s__law_pair_spoilt) f cdv Ar outer s H E).nox NW (defBody s__law_pair_spoilt) w__law_pair_spoilt := by
  have nd : N__law_pair_spoilt.Nodup := sc__law_pair_spoilt.nd
  have hr1 : Room 1 _ := hr.mono (by decide)
  have hr4 : Room 4 _ := hr.mono (by decide)
  exact (jss_cons (js_setF (i := 2) nd rfl (Or.inl rfl) (je_callL (G__law_draw) hr1 (by rfl) T.g__law_draw T.k__law_draw T.n__law_draw (pv 0) (ja_cons je_int ja_nil)))
    (jss_cons (js_if (jt_cmp op_eqI br_eqI (je_var (pv 2)) je_int (nomark _))
    (jss_one (js_ret (je_callTy call_list_of cr_listOf (by rfl) T.b_list (by decide +kernel) (ja_cons (je_var (pv 1)) ja_nil))))
    jss_nil)
    (jss_cons (js_if (jt_cmp op_eqI br_eqI (je_var (pv 2)) je_int (nomark _))
    (jss_one (js_ret (je_tup (ja_cons (je_callTy call_list_of cr_listOf (by rfl) T.b_list (by decide +kernel) (ja_cons (je_ix ix_seq br_ix (je_var (pv 1)) je_int (fun _ _ => rfl)) ja_nil)) (ja_cons (je_ix ix_seq br_ix (je_var (pv 1)) je_int (fun _ _ => rfl)) ja_nil)))))
    jss_nil)
    (jss_cons (js_if (jt_cmp op_eqI br_eqI (je_var (pv 2)) je_int (nomark _))
    (jss_one (js_ret (je_op op_catA br_catT (je_var (pv 1)) (je_tup (ja_cons je_int ja_nil)))))
    jss_nil)
    (jss_cons (js_if (jt_w (jw_and (jt_cmp op_lt br_lt (je_var (pv 2)) je_int (nomark _)) (jw_and1 (jt_cmp op_gt br_gt (je_callB call_len cr_len (by rfl) T.b_len (by decide +kernel) (ja_cons (je_ix ix_seq br_ix (je_var (pv 1)) je_int (fun _ _ => rfl)) ja_nil)) je_int (nomark _)))))
    (jss_cons (js_setF (i := 3) nd rfl (Or.inl rfl) (je_callL (G__law_draw) hr1 (by rfl) T.g__law_draw T.k__law_draw T.n__law_draw (pv 0) (ja_cons (je_callB call_len cr_len (by rfl) T.b_len (by decide +kernel) (ja_cons (je_ix ix_seq br_ix (je_var (pv 1)) je_int (fun _ _ => rfl)) ja_nil)) ja_nil)))
    (jss_one (js_ret (je_tup (ja_cons (je_call (G__law_put) hr1 (by rfl) T.g__law_put T.k__law_put T.n__law_put (ja_cons (je_ix ix_seq br_ix (je_var (pv 1)) je_int (fun _ _ => rfl)) (ja_cons (je_var (pv 3)) (ja_cons (je_callL (G__law_like) hr4 (by rfl) T.g__law_like T.k__law_like T.n__law_like (pv 0) (ja_cons (je_ix ix_seq br_ix (je_ix ix_seq br_ix (je_var (pv 1)) je_int (fun _ _ => rfl)) (je_var (pv 3)) (fun _ _ => rfl)) ja_nil)) ja_nil)))) (ja_cons (je_ix ix_seq br_ix (je_var (pv 1)) je_int (fun _ _ => rfl)) ja_nil))))))
    jss_nil)
    (jss_one (js_ret (je_tup (ja_cons (je_ix ix_seq br_ix (je_var (pv 1)) je_int (fun _ _ => rfl)) (ja_cons (je_callL (G__law_like) hr4 (by rfl) T.g__law_like T.k__law_like T.n__law_like (pv 0) (ja_cons (je_ix ix_seq br_ix (je_var (pv 1)) je_int (fun _ _ => rfl)) ja_nil)) ja_nil))))))))))
theorem sc__law_spoilt : FnScope N__law_spoilt ["feed", "levels"] (defScope s__law_spoilt) := ⟨rfl, rfl, rfl, by decide +kernel, rfl, by decide +kernel, by decide +kernel⟩
theorem j__law_spoilt {P : Program} {w : World} {K : PySem.W.Frag} {mg : Str → Option Value} {base : Heap} {A : Ad} (T : Txt K mg A) (G__law_draw : FnOk P w K mg base CX0 1 A.a__law_draw A.d__law_draw ["feed", "many"] (spB K R__law_draw)) (G__law_put : FnOk P w K mg base CX0 1 A.a__law_put A.d__law_put ["row", "at", "value"] (spF K R__law_put)) (G__law_pair_spoilt : FnOk P w K mg base CX0 5 A.a__law_pair_spoilt A.d__law_pair_spoilt ["feed", "pair"] (spB K R__law_pair_spoilt)) {f : Addr} {cdv : Value} {Ar : Around} {outer : List Env} {s : Shared} {H : Hp} {E : XK} (hr : Room 5 (Ar.deeper (envOfC "_law_spoilt" (defScope s__law_spoilt) s.heap.objs.size f cdv))) :
    JSs (cxOf CX0 P w K mg base N__law_spoilt "_law_spoilt" (defScope s__law_spoilt) f cdv Ar outer s H E).nox NW (defBody s__law_spoilt) w__law_spoilt := by
  have nd : N__law_spoilt.Nodup := sc__law_spoilt.nd
  have hr1 : Room 1 _ := hr.mono (by decide)
  have hr5 : Room 5 _ := hr.mono (by decide)
  exact (jss_cons (js_setF (i := 2) nd rfl (Or.inl rfl) (je_callL (G__law_draw) hr1 (by rfl) T.g__law_draw T.k__law_draw T.n__law_draw (pv 0) (ja_cons je_int ja_nil)))
    (jss_cons (js_setF (i := 3) nd rfl (Or.inl rfl) (je_callL (G__law_draw) hr1 (by rfl) T.g__law_draw T.k__law_draw T.n__law_draw (pv 0) (ja_cons (je_callB call_len cr_len (by rfl) T.b_len (by decide +kernel) (ja_cons (je_var (pv 1)) ja_nil)) ja_nil)))
    (jss_cons (js_if (jt_cmp op_eqI br_eqI (je_var (pv 2)) je_int (nomark _))
    (jss_one (js_ret (je_op op_catA br_catT (je_slT (je_var (pv 1)) jo_none (jo_some (je_var (pv 3)))) (je_slT (je_var (pv 1)) (jo_some (je_op op_add br_add (je_var (pv 3)) je_int)) jo_none))))
    jss_nil)
    (jss_cons (js_if (jt_cmp op_eqI br_eqI (je_var (pv 2)) je_int (nomark _))
    (jss_one (js_ret (je_callTy call_list_of cr_listOf (by rfl) T.b_list (by decide +kernel) (ja_cons (je_var (pv 1)) ja_nil))))
    jss_nil)
    (jss_cons (js_if (jt_cmp op_eqI br_eqI (je_var (pv 2)) je_int (nomark _))
    (jss_one (js_ret (je_op op_catA br_catT (je_var (pv 1)) (je_tup (ja_cons (je_tup ja_nil) ja_nil)))))
    jss_nil)
    (jss_cons (js_if (jt_cmp op_eqI br_eqI (je_var (pv 2)) je_int (nomark _))
    (jss_one (js_ret (je_call (G__law_put) hr1 (by rfl) T.g__law_put T.k__law_put T.n__law_put (ja_cons (je_var (pv 1)) (ja_cons (je_var (pv 3)) (ja_cons (je_callTy call_list_of cr_listOf (by rfl) T.b_list (by decide +kernel) (ja_cons (je_ix ix_seq br_ix (je_var (pv 1)) (je_var (pv 3)) (fun _ _ => rfl)) ja_nil)) ja_nil))))))
    jss_nil)
    (jss_cons (js_if (jt_cmp op_eqI br_eqI (je_var (pv 2)) je_int (nomark _))
    (jss_one (js_ret (je_ix ix_seq br_ix (je_lst (ja_cons je_non (ja_cons (je_tup ja_nil) (ja_cons je_int (ja_cons je_dictNew (ja_cons je_str ja_nil)))))) (je_callL (G__law_draw) hr1 (by rfl) T.g__law_draw T.k__law_draw T.n__law_draw (pv 0) (ja_cons je_int ja_nil)) (fun _ _ => rfl))))
    jss_nil)
    (jss_cons (js_if (jt_cmp op_eqI br_eqI (je_callB call_len cr_len (by rfl) T.b_len (by decide +kernel) (ja_cons (je_ix ix_seq br_ix (je_var (pv 1)) (je_var (pv 3)) (fun _ _ => rfl)) ja_nil)) je_int (nomark _))
    (jss_one (js_setF (i := 3) nd rfl (Or.inl rfl) (je_callL (G__law_draw) hr1 (by rfl) T.g__law_draw T.k__law_draw T.n__law_draw (pv 0) (ja_cons je_int ja_nil))))
    jss_nil)
    (jss_cons (js_setF (i := 4) nd rfl (Or.inl rfl) (je_ix ix_seq br_ix (je_var (pv 1)) (je_var (pv 3)) (fun _ _ => rfl)))
    (jss_cons (js_if (jt_w (jw_or (jt_cmp op_eqI br_eqI (je_callB call_len cr_len (by rfl) T.b_len (by decide +kernel) (ja_cons (je_var (pv 4)) ja_nil)) je_int (nomark _)) (jw_or1 (jt_cmp op_eqI br_eqI (je_var (pv 2)) je_int (nomark _)))))
    (jss_one (js_ret (je_call (G__law_put) hr1 (by rfl) T.g__law_put T.k__law_put T.n__law_put (ja_cons (je_var (pv 1)) (ja_cons (je_var (pv 3)) (ja_cons (je_slT (je_var (pv 4)) jo_none (jo_some (je_neg je_int))) ja_nil))))))
    jss_nil)
    (jss_cons (js_if (jt_cmp op_eqI br_eqI (je_var (pv 2)) je_int (nomark _))
    (jss_one (js_ret (je_call (G__law_put) hr1 (by rfl) T.g__law_put T.k__law_put T.n__law_put (ja_cons (je_var (pv 1)) (ja_cons (je_var (pv 3)) (ja_cons (je_op op_catA br_catT (je_slT (je_var (pv 4)) (jo_some je_int) jo_none) (je_slT (je_var (pv 4)) jo_none (jo_some je_int))) ja_nil))))))
    jss_nil)
    (jss_cons (js_setF (i := 5) nd rfl (Or.inl rfl) (je_callL (G__law_draw) hr1 (by rfl) T.g__law_draw T.k__law_draw T.n__law_draw (pv 0) (ja_cons (je_callB call_len cr_len (by rfl) T.b_len (by decide +kernel) (ja_cons (je_var (pv 4)) ja_nil)) ja_nil)))
    (jss_one (js_ret (je_call (G__law_put) hr1 (by rfl) T.g__law_put T.k__law_put T.n__law_put (ja_cons (je_var (pv 1)) (ja_cons (je_var (pv 3)) (ja_cons (je_call (G__law_put) hr1 (by rfl) T.g__law_put T.k__law_put T.n__law_put (ja_cons (je_var (pv 4)) (ja_cons (je_var (pv 5)) (ja_cons (je_callL (G__law_pair_spoilt) hr5 (by rfl) T.g__law_pair_spoilt T.k__law_pair_spoilt T.n__law_pair_spoilt (pv 0) (ja_cons (je_ix ix_seq br_ix (je_var (pv 4)) (je_var (pv 5)) (fun _ _ => rfl)) ja_nil)) ja_nil)))) ja_nil))))))))))))))))))
theorem sc__law_refused : FnScope N__law_refused ["what", "n", "f"] (defScope s__law_refused) := ⟨rfl, rfl, rfl, by decide +kernel, rfl, by decide +kernel, by decide +kernel⟩
theorem j__law_refused {P : Program} {w : World} {K : PySem.W.Frag} {mg : Str → Option Value} {base : Heap} {A : Ad} (T : Txt K mg A) (G_signs : FnOk P w K mg base (L2.CX P w) 5 A.a_signs A.d_signs ["n", "f"] (spX K R_signs)) (G_broken_bits : FnOk P w K mg base (L2.CX P w) 5 A.a_broken_bits A.d_broken_bits ["n", "f"] (spX K R_broken_bits)) (G_best_linear : FnOk P w K mg base (L2.CX P w) 6 A.a_best_linear A.d_best_linear ["n", "f"] (spX K R_best_linear)) (G_weight : FnOk P w K mg base (L2.CX P w) 6 A.a_weight A.d_weight ["n", "f", "beginning"] (spX K R_weight)) (G_near_linear : FnOk P w K mg base (L2.CX P w) 6 A.a_near_linear A.d_near_linear ["n", "f", "t"] (spX K R_near_linear)) (G_near_certificate : FnOk P w K mg base (L2.CX P w) 6 A.a_near_certificate A.d_near_certificate ["n", "f", "t"] (spX K R_near_certificate)) (G_near_certificate_holds : FnOk P w K mg base (L2.CX P w) 7 A.a_near_certificate_holds A.d_near_certificate_holds ["n", "f", "t", "certificate"] (spX K R_near_certificate_holds)) {f : Addr} {cdv : Value} {Ar : Around} {outer : List Env} {s : Shared} {H : Hp} {E : XK} (hr : Room 7 (Ar.deeper (envOfC "_law_refused" (defScope s__law_refused) s.heap.objs.size f cdv))) :
    JSs (cxOf CX0 P w K mg base N__law_refused "_law_refused" (defScope s__law_refused) f cdv Ar outer s H E).nox NW (defBody s__law_refused) w__law_refused := by
  have nd : N__law_refused.Nodup := sc__law_refused.nd
  have hr5 : Room 5 _ := hr.mono (by decide)
  have hr6 : Room 6 _ := hr.mono (by decide)
  have hr7 : Room 7 _ := hr.mono (by decide)
  have hu64 := hr.units
  exact (jss_cons (js_try (sub := tab3 xtab) (cl := [("InvalidNumber", some 3, fun a C d => (wRet (wBin (wEq false) (wXf a C d "InvalidNumber" "value" (wVar 3)) (wVar 1)))),
    ("NinthError", none, fun a C d => (wRet (wK (.bl false))))]) T.exm rfl rfl takesN (fun W pq xz tk hp => (jss_one (js_if (jt_cmp op_eqI br_eqI (je_var (pv 0)) je_int (nomark _))
    (jss_one (js_expr (je_callX G_signs hr5 tk (by rfl) T.g_signs T.k_signs T.n_signs (ja_cons (je_var (pv 1)) (ja_cons (je_var (pv 2)) ja_nil)))))
    (jss_one (js_if (jt_cmp op_eqI br_eqI (je_var (pv 0)) je_int (nomark _))
    (jss_one (js_expr (je_callX G_broken_bits hr5 tk (by rfl) T.g_broken_bits T.k_broken_bits T.n_broken_bits (ja_cons (je_var (pv 1)) (ja_cons (je_var (pv 2)) ja_nil)))))
    (jss_one (js_if (jt_cmp op_eqI br_eqI (je_var (pv 0)) je_int (nomark _))
    (jss_one (js_expr (je_callX G_best_linear hr6 tk (by rfl) T.g_best_linear T.k_best_linear T.n_best_linear (ja_cons (je_var (pv 1)) (ja_cons (je_var (pv 2)) ja_nil)))))
    (jss_one (js_if (jt_cmp op_eqI br_eqI (je_var (pv 0)) je_int (nomark _))
    (jss_one (js_expr (je_callX G_weight hr6 tk (by rfl) T.g_weight T.k_weight T.n_weight (ja_cons (je_var (pv 1)) (ja_cons (je_var (pv 2)) (ja_cons (je_tup ja_nil) ja_nil))))))
    (jss_one (js_if (jt_cmp op_eqI br_eqI (je_var (pv 0)) je_int (nomark _))
    (jss_one (js_expr (je_callX G_near_linear hr6 tk (by rfl) T.g_near_linear T.k_near_linear T.n_near_linear (ja_cons (je_var (pv 1)) (ja_cons (je_var (pv 2)) (ja_cons je_int ja_nil))))))
    (jss_one (js_if (jt_cmp op_eqI br_eqI (je_var (pv 0)) je_int (nomark _))
    (jss_one (js_expr (je_callX G_near_certificate hr6 tk (by rfl) T.g_near_certificate T.k_near_certificate T.n_near_certificate (ja_cons (je_var (pv 1)) (ja_cons (je_var (pv 2)) (ja_cons je_int ja_nil))))))
    (jss_one (js_expr (je_callX G_near_certificate_holds hr7 tk (by rfl) T.g_near_certificate_holds T.k_near_certificate_holds T.n_near_certificate_holds (ja_cons (je_var (pv 1)) (ja_cons (je_var (pv 2)) (ja_cons je_int (ja_cons (je_tup ja_nil) ja_nil))))))))))))))))))))
    (HdA.as (i := 3) nd rfl rfl ⟨by rfl, by decide, .inl T.gx_InvalidNumber⟩ (fun a oe cls d pn hz hf => pss_su fun C hC => (jss_one (js_ret (je_cmp (op_eqD hu64) br_eq (je_xf hC T.x_InvalidNumber.xf (T.x_InvalidNumber.no _ (by decide)) hz hf (je_var (pv 3))) (je_var (pv 1)) (nomark _)))))
    (HdA.cons ⟨by rfl, by decide, .inl T.gx_NinthError⟩ (fun a oe cls d pn hz hf => pss_su fun C hC => (jss_one (js_ret je_bl)))
    HdA.nil)))
    (jss_one (js_ret je_bl)))
theorem sc__law_level : FnScope N__law_level ["feed", "n", "told", "what"] (defScope s__law_level) := ⟨rfl, rfl, rfl, by decide +kernel, rfl, by decide +kernel, by decide +kernel⟩
theorem j__law_level {P : Program} {w : World} {K : PySem.W.Frag} {mg : Str → Option Value} {base : Heap} {A : Ad} (T : Txt K mg A) (G__law_draw : FnOk P w K mg base CX0 1 A.a__law_draw A.d__law_draw ["feed", "many"] (spB K R__law_draw)) {f : Addr} {cdv : Value} {Ar : Around} {outer : List Env} {s : Shared} {H : Hp} {E : XK} (hr : Room 1 (Ar.deeper (envOfC "_law_level" (defScope s__law_level) s.heap.objs.size f cdv))) :
    JSs (cxOf CX0 P w K mg base N__law_level "_law_level" (defScope s__law_level) f cdv Ar outer s H E).nox NW (defBody s__law_level) w__law_level := by
  have nd : N__law_level.Nodup := sc__law_level.nd
  have hr1 : Room 1 _ := hr.mono (by decide)
  exact (jss_cons (js_setF (i := 4) nd rfl (Or.inl rfl) (je_callB call_len cr_len (by rfl) T.b_len (by decide +kernel) (ja_cons (je_var (pv 2)) ja_nil)))
    (jss_cons (js_if (jt_cmp op_gt br_gt (je_var (pv 3)) je_int (nomark _))
    (jss_one (js_ret (je_op op_add br_add (je_op op_add br_add (je_op op_fdiv br_div (je_op op_mul br_mul (je_var (pv 4)) je_int) je_int) je_int) (je_callL (G__law_draw) hr1 (by rfl) T.g__law_draw T.k__law_draw T.n__law_draw (pv 0) (ja_cons (je_op op_sub br_sub (je_var (pv 4)) (je_op op_fdiv br_div (je_op op_mul br_mul (je_var (pv 4)) je_int) je_int)) ja_nil)))))
    jss_nil)
    (jss_cons (js_setF (i := 5) nd rfl (Or.inl rfl) (je_callL (G__law_draw) hr1 (by rfl) T.g__law_draw T.k__law_draw T.n__law_draw (pv 0) (ja_cons je_int ja_nil)))
    (jss_cons (js_if (jt_cmp op_eqI br_eqI (je_var (pv 5)) je_int (nomark _))
    (jss_one (js_ret (je_callB (call_max2 rfl) cr_maxI (by rfl) T.b_max (by decide +kernel) (ja_cons je_int (ja_cons (je_callB (cr_max rfl) cr_maxD (by rfl) T.b_max (by decide +kernel) (ja_cons (je_var (pv 2)) ja_nil)) ja_nil)))))
    jss_nil)
    (jss_cons (js_if (jt_cmp op_eqI br_eqI (je_var (pv 5)) je_int (nomark _))
    (jss_one (js_ret (je_callB (call_max2 rfl) cr_maxI (by rfl) T.b_max (by decide +kernel) (ja_cons je_int (ja_cons (je_callB (call_min2 rfl) cr_minI (by rfl) T.b_min (by decide +kernel) (ja_cons (je_var (pv 4)) (ja_cons (je_op op_add br_add (je_ix ix_seq br_ix (je_var (pv 2)) (je_callL (G__law_draw) hr1 (by rfl) T.g__law_draw T.k__law_draw T.n__law_draw (pv 0) (ja_cons (je_var (pv 4)) ja_nil)) (fun _ _ => rfl)) (je_callL (G__law_draw) hr1 (by rfl) T.g__law_draw T.k__law_draw T.n__law_draw (pv 0) (ja_cons je_int ja_nil))) ja_nil))) ja_nil)))))
    jss_nil)
    (jss_one (js_ret (je_op op_add br_add je_int (je_callL (G__law_draw) hr1 (by rfl) T.g__law_draw T.k__law_draw T.n__law_draw (pv 0) (ja_cons (je_var (pv 4)) ja_nil))))))))))
theorem sc__law_judged : FnScope N__law_judged ["feed", "n", "f", "t", "levels"] (defScope s__law_judged) := ⟨rfl, rfl, rfl, by decide +kernel, rfl, by decide +kernel, by decide +kernel⟩
theorem j__law_judged {P : Program} {w : World} {K : PySem.W.Frag} {mg : Str → Option Value} {base : Heap} {A : Ad} (T : Txt K mg A) (G_near_certificate_holds : FnOk P w K mg base (L2.CX P w) 7 A.a_near_certificate_holds A.d_near_certificate_holds ["n", "f", "t", "certificate"] (spX K R_near_certificate_holds)) (G__law_spoilt : FnOk P w K mg base CX0 6 A.a__law_spoilt A.d__law_spoilt ["feed", "levels"] (spB K R__law_spoilt)) (G__law_same : FnOk P w K mg base CX0 6 A.a__law_same A.d__law_same ["told", "due"] (spF K (R__law_same 5))) {f : Addr} {cdv : Value} {Ar : Around} {outer : List Env} {s : Shared} {H : Hp} {E : XK} (hr : Room 7 (Ar.deeper (envOfC "_law_judged" (defScope s__law_judged) s.heap.objs.size f cdv))) :
    JSs (cxOf CX0 P w K mg base N__law_judged "_law_judged" (defScope s__law_judged) f cdv Ar outer s H E).nox NW (defBody s__law_judged) w__law_judged := by
  have nd : N__law_judged.Nodup := sc__law_judged.nd
  have hr6 : Room 6 _ := hr.mono (by decide)
  have hr7 : Room 7 _ := hr.mono (by decide)
  have hu64 := hr.units
  exact (jss_cons (js_if (jt_cmp op_notBl br_notB (je_callN G_near_certificate_holds hr7 (by rfl) T.g_near_certificate_holds T.k_near_certificate_holds T.n_near_certificate_holds (ja_cons (je_var (pv 1)) (ja_cons (je_var (pv 2)) (ja_cons (je_var (pv 3)) (ja_cons (je_var (pv 4)) ja_nil))))) je_bl (nomark _))
    (jss_one (js_ret je_bl))
    jss_nil)
    (jss_cons (js_setF (i := 5) nd rfl (Or.inl rfl) (je_callL (G__law_spoilt) hr6 (by rfl) T.g__law_spoilt T.k__law_spoilt T.n__law_spoilt (pv 0) (ja_cons (je_var (pv 4)) ja_nil)))
    (jss_cons (js_setF (i := 6) nd rfl (Or.inl rfl) (je_callN G_near_certificate_holds hr7 (by rfl) T.g_near_certificate_holds T.k_near_certificate_holds T.n_near_certificate_holds (ja_cons (je_var (pv 1)) (ja_cons (je_var (pv 2)) (ja_cons (je_var (pv 3)) (ja_cons (je_var (pv 5)) ja_nil))))))
    (jss_one (js_ret (je_and (je_callB call_isi (cr_isiX T.oc) (by rfl) T.b_isinstance (by decide +kernel) (ja_cons (je_var (pv 6)) (ja_cons (je_ty (by rfl) T.b_bool (by decide +kernel)) ja_nil))) (je_one (je_cmp (op_eqD hu64) br_eq (je_var (pv 6)) (je_call (G__law_same) hr6 (by rfl) T.g__law_same T.k__law_same T.n__law_same (ja_cons (je_var (pv 5)) (ja_cons (je_var (pv 4)) ja_nil))) (nomark _)))))))))
theorem sc__law_right : FnScope N__law_right ["feed", "what", "n", "f"] (defScope s__law_right) := ⟨rfl, rfl, rfl, by decide +kernel, rfl, by decide +kernel, by decide +kernel⟩
theorem j__law_right {P : Program} {w : World} {K : PySem.W.Frag} {mg : Str → Option Value} {base : Heap} {A : Ad} (T : Txt K mg A) (G__law_signs : FnOk P w K mg base CX0 1 A.a__law_signs A.d__law_signs ["n", "f"] (spF K R__law_signs)) (G__law_level : FnOk P w K mg base CX0 2 A.a__law_level A.d__law_level ["feed", "n", "told", "what"] (spB K R__law_level)) (G__law_same : FnOk P w K mg base CX0 6 A.a__law_same A.d__law_same ["told", "due"] (spF K (R__law_same 5))) (G_signs : FnOk P w K mg base (L2.CX P w) 5 A.a_signs A.d_signs ["n", "f"] (spX K R_signs)) (G_broken_bits : FnOk P w K mg base (L2.CX P w) 5 A.a_broken_bits A.d_broken_bits ["n", "f"] (spX K R_broken_bits)) (G__law_broken : FnOk P w K mg base CX0 1 A.a__law_broken A.d__law_broken ["f"] (spF K R__law_broken)) (G_best_linear : FnOk P w K mg base (L2.CX P w) 6 A.a_best_linear A.d_best_linear ["n", "f"] (spX K R_best_linear)) (G__law_bits : FnOk P w K mg base CX0 1 A.a__law_bits A.d__law_bits ["n", "x"] (spF K R__law_bits)) (G__law_draw : FnOk P w K mg base CX0 1 A.a__law_draw A.d__law_draw ["feed", "many"] (spB K R__law_draw)) (G_weight : FnOk P w K mg base (L2.CX P w) 6 A.a_weight A.d_weight ["n", "f", "beginning"] (spX K R_weight)) (G__law_weight : FnOk P w K mg base CX0 1 A.a__law_weight A.d__law_weight ["n", "told", "bits"] (spF K R__law_weight)) (G_near_linear : FnOk P w K mg base (L2.CX P w) 6 A.a_near_linear A.d_near_linear ["n", "f", "t"] (spX K R_near_linear)) (G__law_levels : FnOk P w K mg base CX0 2 A.a__law_levels A.d__law_levels ["n", "told", "t"] (spF K R__law_levels)) (G_near_certificate : FnOk P w K mg base (L2.CX P w) 6 A.a_near_certificate A.d_near_certificate ["n", "f", "t"] (spX K R_near_certificate)) (G__law_judged : FnOk P w K mg base CX0 8 A.a__law_judged A.d__law_judged ["feed", "n", "f", "t", "levels"] (spB K R__law_judged)) {f : Addr} {cdv : Value} {Ar : Around} {outer : List Env} {s : Shared} {H : Hp} {E : XK} (hr : Room 8 (Ar.deeper (envOfC "_law_right" (defScope s__law_right) s.heap.objs.size f cdv))) :
    JSs (cxOf CX0 P w K mg base N__law_right "_law_right" (defScope s__law_right) f cdv Ar outer s H E).nox NW (defBody s__law_right) w__law_right := by
  have nd : N__law_right.Nodup := sc__law_right.nd
  have hr1 : Room 1 _ := hr.mono (by decide)
  have hr2 : Room 2 _ := hr.mono (by decide)
  have hr5 : Room 5 _ := hr.mono (by decide)
  have hr6 : Room 6 _ := hr.mono (by decide)
  have hr8 : Room 8 _ := hr.mono (by decide)
  exact (jss_cons (js_setF (i := 4) nd rfl (Or.inr rfl) (je_call (G__law_signs) hr1 (by rfl) T.g__law_signs T.k__law_signs T.n__law_signs (ja_cons (je_var (pv 2)) (ja_cons (je_var (pv 3)) ja_nil))))
    (jss_cons (js_setF (i := 5) nd rfl (Or.inr rfl) (je_callL (G__law_level) hr2 (by rfl) T.g__law_level T.k__law_level T.n__law_level (pv 0) (ja_cons (je_var (pv 2)) (ja_cons (je_var (pv 4)) (ja_cons (je_var (pv 1)) ja_nil)))))
    (jss_cons (js_if (jt_cmp op_eqI br_eqI (je_var (pv 1)) je_int (nomark _))
    (jss_one (js_ret (je_call (G__law_same) hr6 (by rfl) T.g__law_same T.k__law_same T.n__law_same (ja_cons (je_callN G_signs hr5 (by rfl) T.g_signs T.k_signs T.n_signs (ja_cons (je_var (pv 2)) (ja_cons (je_var (pv 3)) ja_nil))) (ja_cons (je_callTy call_tuple_of cr_tupleOf (by rfl) T.b_tuple (by decide +kernel) (ja_cons (je_var (pv 4)) ja_nil)) ja_nil)))))
    jss_nil)
    (jss_cons (js_if (jt_cmp op_eqI br_eqI (je_var (pv 1)) je_int (nomark _))
    (jss_one (js_ret (je_call (G__law_same) hr6 (by rfl) T.g__law_same T.k__law_same T.n__law_same (ja_cons (je_callN G_broken_bits hr5 (by rfl) T.g_broken_bits T.k_broken_bits T.n_broken_bits (ja_cons (je_var (pv 2)) (ja_cons (je_var (pv 3)) ja_nil))) (ja_cons (je_call (G__law_broken) hr1 (by rfl) T.g__law_broken T.k__law_broken T.n__law_broken (ja_cons (je_var (pv 3)) ja_nil)) ja_nil)))))
    jss_nil)
    (jss_cons (js_if (jt_cmp op_eqI br_eqI (je_var (pv 1)) je_int (nomark _))
    (jss_one (js_ret (je_call (G__law_same) hr6 (by rfl) T.g__law_same T.k__law_same T.n__law_same (ja_cons (je_callN G_best_linear hr6 (by rfl) T.g_best_linear T.k_best_linear T.n_best_linear (ja_cons (je_var (pv 2)) (ja_cons (je_var (pv 3)) ja_nil))) (ja_cons (je_lix (pe_bm PySem.F.plainAttrs_list PySem.F.slot_list_index PySem.F.type_list_index mt_index (je_var (pv 4)) (pa_cons (je_callB (cr_max rfl) cr_maxD (by rfl) T.b_max (by decide +kernel) (ja_cons (je_var (pv 4)) ja_nil)) pa_nil))) ja_nil)))))
    jss_nil)
    (jss_cons (js_if (jt_cmp op_eqI br_eqI (je_var (pv 1)) je_int (nomark _))
    (jss_cons (js_setF (i := 6) nd rfl (Or.inl rfl) (je_callTy call_tuple_of cr_tupleOf (by rfl) T.b_tuple (by decide +kernel) (ja_cons (je_slL (je_call (G__law_bits) hr1 (by rfl) T.g__law_bits T.k__law_bits T.n__law_bits (ja_cons (je_var (pv 2)) (ja_cons (je_callL (G__law_draw) hr1 (by rfl) T.g__law_draw T.k__law_draw T.n__law_draw (pv 0) (ja_cons (je_callB call_len cr_len (by rfl) T.b_len (by decide +kernel) (ja_cons (je_var (pv 4)) ja_nil)) ja_nil)) ja_nil))) jo_none (jo_some (je_callL (G__law_draw) hr1 (by rfl) T.g__law_draw T.k__law_draw T.n__law_draw (pv 0) (ja_cons (je_op op_add br_add (je_var (pv 2)) je_int) ja_nil)))) ja_nil)))
    (jss_one (js_ret (je_call (G__law_same) hr6 (by rfl) T.g__law_same T.k__law_same T.n__law_same (ja_cons (je_callN G_weight hr6 (by rfl) T.g_weight T.k_weight T.n_weight (ja_cons (je_var (pv 2)) (ja_cons (je_var (pv 3)) (ja_cons (je_var (pv 6)) ja_nil)))) (ja_cons (je_call (G__law_weight) hr1 (by rfl) T.g__law_weight T.k__law_weight T.n__law_weight (ja_cons (je_var (pv 2)) (ja_cons (je_var (pv 4)) (ja_cons (je_var (pv 6)) ja_nil)))) ja_nil))))))
    jss_nil)
    (jss_cons (js_if (jt_cmp op_eqI br_eqI (je_var (pv 1)) je_int (nomark _))
    (jss_one (js_ret (je_call (G__law_same) hr6 (by rfl) T.g__law_same T.k__law_same T.n__law_same (ja_cons (je_callN G_near_linear hr6 (by rfl) T.g_near_linear T.k_near_linear T.n_near_linear (ja_cons (je_var (pv 2)) (ja_cons (je_var (pv 3)) (ja_cons (je_var (pv 5)) ja_nil)))) (ja_cons (je_callTy call_tuple_of cr_tupleOf (by rfl) T.b_tuple (by decide +kernel) (ja_cons (je_lc (own := [("a", 8)]) rfl nd (ji_range1 (by rfl) T.b_range (ja_cons (je_callB call_len cr_len (by rfl) T.b_len (by decide +kernel) (ja_cons (je_var (pv 4)) ja_nil)) ja_nil)) (blkOk_by (own := [("a", 8)]) (N := N__law_right) (sc := defScope s__law_right) (by decide +kernel)) (fun _ _ _ _ _ => (jg_name (i := 8) (by decide) (pg_name (i := 8) nd rfl (by first | exact Or.inl rfl | exact Or.inr rfl)))) (fun _ _ _ _ _ => (jts_one (jt_cmp op_ge br_ge (je_ix ix_seq br_ix (je_var (pv 4)) (je_var (pv 8)) (fun _ _ => rfl)) (je_var (pv 5)) (nomark _)))) (fun _ _ _ _ _ => (je_var (pv 8)))) ja_nil)) ja_nil)))))
    jss_nil)
    (jss_cons (js_setF (i := 7) nd rfl (Or.inl rfl) (je_call (G__law_levels) hr2 (by rfl) T.g__law_levels T.k__law_levels T.n__law_levels (ja_cons (je_var (pv 2)) (ja_cons (je_var (pv 4)) (ja_cons (je_var (pv 5)) ja_nil)))))
    (jss_cons (js_if (jt_cmp op_eqI br_eqI (je_var (pv 1)) je_int (nomark _))
    (jss_one (js_ret (je_call (G__law_same) hr6 (by rfl) T.g__law_same T.k__law_same T.n__law_same (ja_cons (je_callN G_near_certificate hr6 (by rfl) T.g_near_certificate T.k_near_certificate T.n_near_certificate (ja_cons (je_var (pv 2)) (ja_cons (je_var (pv 3)) (ja_cons (je_var (pv 5)) ja_nil)))) (ja_cons (je_var (pv 7)) ja_nil)))))
    jss_nil)
    (jss_one (js_ret (je_callL (G__law_judged) hr8 (by rfl) T.g__law_judged T.k__law_judged T.n__law_judged (pv 0) (ja_cons (je_var (pv 2)) (ja_cons (je_var (pv 3)) (ja_cons (je_var (pv 5)) (ja_cons (je_var (pv 7)) ja_nil))))))))))))))))
theorem sc_law : FnScope N_law ["script"] (defScope s_law) := ⟨rfl, rfl, rfl, by decide +kernel, rfl, by decide +kernel, by decide +kernel⟩
theorem j_law {P : Program} {w : World} {K : PySem.W.Frag} {mg : Str → Option Value} {base : Heap} {A : Ad} (T : Txt K mg A) (G__law_feed : FnOk P w K mg base CX0 1 A.a__law_feed A.d__law_feed ["script"] (spF K R__law_feed)) (G__law_draw : FnOk P w K mg base CX0 1 A.a__law_draw A.d__law_draw ["feed", "many"] (spB K R__law_draw)) (G__law_refused : FnOk P w K mg base CX0 8 A.a__law_refused A.d__law_refused ["what", "n", "f"] (spF K R__law_refused)) (G__law_table : FnOk P w K mg base CX0 3 A.a__law_table A.d__law_table ["feed", "n"] (spB K R__law_table)) (G__law_right : FnOk P w K mg base CX0 9 A.a__law_right A.d__law_right ["feed", "what", "n", "f"] (spB K R__law_right)) {f : Addr} {cdv : Value} {Ar : Around} {outer : List Env} {s : Shared} {H : Hp} {E : XK} (hr : Room 9 (Ar.deeper (envOfC "law" (defScope s_law) s.heap.objs.size f cdv))) :
    JSs (cxOf CX0 P w K mg base N_law "law" (defScope s_law) f cdv Ar outer s H E).nox NW (defBody s_law) w_law := by
  have nd : N_law.Nodup := sc_law.nd
  have hr1 : Room 1 _ := hr.mono (by decide)
  have hr3 : Room 3 _ := hr.mono (by decide)
  have hr8 : Room 8 _ := hr.mono (by decide)
  have hr9 : Room 9 _ := hr.mono (by decide)
  exact (jss_cons (js_set (i := 1) nd rfl (Or.inl rfl) (je_call (G__law_feed) hr1 (by rfl) T.g__law_feed T.k__law_feed T.n__law_feed (ja_cons (je_var (pv 0)) ja_nil)))
    (jss_cons (js_setF (i := 2) nd rfl (Or.inl rfl) je_int)
    (jss_cons (js_if (jt_cmp op_eqI br_eqI (je_callL (G__law_draw) hr1 (by rfl) T.g__law_draw T.k__law_draw T.n__law_draw (pv 1) (ja_cons je_int ja_nil)) je_int (nomark _))
    (jss_one (js_setF (i := 2) nd rfl (Or.inl rfl) (je_op op_add br_add je_int (je_callL (G__law_draw) hr1 (by rfl) T.g__law_draw T.k__law_draw T.n__law_draw (pv 1) (ja_cons je_int ja_nil)))))
    jss_nil)
    (jss_cons (js_setF (i := 3) nd rfl (Or.inl rfl) (je_callL (G__law_draw) hr1 (by rfl) T.g__law_draw T.k__law_draw T.n__law_draw (pv 1) (ja_cons je_int ja_nil)))
    (jss_cons (js_if (jt_cmp op_eqI br_eqI (je_callL (G__law_draw) hr1 (by rfl) T.g__law_draw T.k__law_draw T.n__law_draw (pv 1) (ja_cons je_int ja_nil)) je_int (nomark _))
    (jss_cons (js_if (jt_cmp op_eqI br_eqI (je_callL (G__law_draw) hr1 (by rfl) T.g__law_draw T.k__law_draw T.n__law_draw (pv 1) (ja_cons je_int ja_nil)) je_int (nomark _))
    (jss_one (js_ret (je_call (G__law_refused) hr8 (by rfl) T.g__law_refused T.k__law_refused T.n__law_refused (ja_cons (je_var (pv 3)) (ja_cons je_int (ja_cons (je_callTy call_tuple_of cr_tupleOf (by rfl) T.b_tuple (by decide +kernel) (ja_cons (je_op op_cat br_catL (je_callL (G__law_table) hr3 (by rfl) T.g__law_table T.k__law_table T.n__law_table (pv 1) (ja_cons je_int ja_nil)) (je_callL (G__law_table) hr3 (by rfl) T.g__law_table T.k__law_table T.n__law_table (pv 1) (ja_cons je_int ja_nil))) ja_nil)) ja_nil))))))
    jss_nil)
    (jss_one (js_ret (je_call (G__law_refused) hr8 (by rfl) T.g__law_refused T.k__law_refused T.n__law_refused (ja_cons (je_var (pv 3)) (ja_cons je_int (ja_cons (je_tup (ja_cons (je_callL (G__law_draw) hr1 (by rfl) T.g__law_draw T.k__law_draw T.n__law_draw (pv 1) (ja_cons je_int ja_nil)) ja_nil)) ja_nil)))))))
    jss_nil)
    (jss_cons (js_setF (i := 4) nd rfl (Or.inl rfl) (je_callTy call_tuple_of cr_tupleOf (by rfl) T.b_tuple (by decide +kernel) (ja_cons (je_callL (G__law_table) hr3 (by rfl) T.g__law_table T.k__law_table T.n__law_table (pv 1) (ja_cons (je_var (pv 2)) ja_nil)) ja_nil)))
    (jss_one (js_try_thru (jss_one (js_ret (je_callL (G__law_right) hr9 (by rfl) T.g__law_right T.k__law_right T.n__law_right (pv 1) (ja_cons (je_var (pv 3)) (ja_cons (je_var (pv 2)) (ja_cons (je_var (pv 4)) ja_nil))))))))))))))
end L2.DL.Q

/-! # E79.lean -/
set_option Elab.async false
set_option linter.all false
set_option maxRecDepth 100000
set_option maxHeartbeats 0
namespace L2.DL.Q
open PySem PySem.Spec PyProof.Rows
/-! ## the head -/
def dd_is_integer : He.DefD := ⟨("is_integer", none), "is_integer", "is_integer", defArgs s_is_integer, defBody s_is_integer, defScope s_is_integer, [], []⟩
def dd_is_number : He.DefD := ⟨("is_number", none), "is_number", "is_number", defArgs s_is_number, defBody s_is_number, defScope s_is_number, [], []⟩
def dd_is_below : He.DefD := ⟨("is_below", none), "is_below", "is_below", defArgs s_is_below, defBody s_is_below, defScope s_is_below, [], []⟩
def dd_row_below : He.DefD := ⟨("row_below", none), "row_below", "row_below", defArgs s_row_below, defBody s_row_below, defScope s_row_below, [], []⟩
def dd_check_bits : He.DefD := ⟨("check_bits", none), "check_bits", "check_bits", defArgs s_check_bits, defBody s_check_bits, defScope s_check_bits, [], []⟩
def dd_signs : He.DefD := ⟨("signs", none), "signs", "signs", defArgs s_signs, defBody s_signs, defScope s_signs, [], []⟩
def dd_broken_bits : He.DefD := ⟨("broken_bits", none), "broken_bits", "broken_bits", defArgs s_broken_bits, defBody s_broken_bits, defScope s_broken_bits, [], []⟩
def dd_best_linear : He.DefD := ⟨("best_linear", none), "best_linear", "best_linear", defArgs s_best_linear, defBody s_best_linear, defScope s_best_linear, [], []⟩
def dd_is_beginning : He.DefD := ⟨("is_beginning", none), "is_beginning", "is_beginning", defArgs s_is_beginning, defBody s_is_beginning, defScope s_is_beginning, [], []⟩
def dd_weight_of : He.DefD := ⟨("weight_of", none), "weight_of", "weight_of", defArgs s_weight_of, defBody s_weight_of, defScope s_weight_of, [], []⟩
def dd_weight : He.DefD := ⟨("weight", none), "weight", "weight", defArgs s_weight, defBody s_weight, defScope s_weight, [], []⟩
def dd_check_near : He.DefD := ⟨("check_near", none), "check_near", "check_near", defArgs s_check_near, defBody s_check_near, defScope s_check_near, [], []⟩
def dd_near_linear : He.DefD := ⟨("near_linear", none), "near_linear", "near_linear", defArgs s_near_linear, defBody s_near_linear, defScope s_near_linear, [], []⟩
def dd_near_certificate : He.DefD := ⟨("near_certificate", none), "near_certificate", "near_certificate", defArgs s_near_certificate, defBody s_near_certificate, defScope s_near_certificate, [], []⟩
def dd_is_level : He.DefD := ⟨("is_level", none), "is_level", "is_level", defArgs s_is_level, defBody s_is_level, defScope s_is_level, [], []⟩
def dd_near_certificate_holds : He.DefD := ⟨("near_certificate_holds", none), "near_certificate_holds", "near_certificate_holds", defArgs s_near_certificate_holds, defBody s_near_certificate_holds, defScope s_near_certificate_holds, [], []⟩
def dd_Share_init : He.DefD := ⟨("Share", some "__init__"), "__init__", "Share.__init__", defArgs s_Share_init, defBody s_Share_init, defScope s_Share_init, [], []⟩
def dd__law_feed : He.DefD := ⟨("_law_feed", none), "_law_feed", "_law_feed", defArgs s__law_feed, defBody s__law_feed, defScope s__law_feed, [], []⟩
def dd__law_draw : He.DefD := ⟨("_law_draw", none), "_law_draw", "_law_draw", defArgs s__law_draw, defBody s__law_draw, defScope s__law_draw, [], []⟩
def dd__law_size : He.DefD := ⟨("_law_size", none), "_law_size", "_law_size", defArgs s__law_size, defBody s__law_size, defScope s__law_size, [], []⟩
def dd__law_bits : He.DefD := ⟨("_law_bits", none), "_law_bits", "_law_bits", defArgs s__law_bits, defBody s__law_bits, defScope s__law_bits, [], []⟩
def dd__law_linear : He.DefD := ⟨("_law_linear", none), "_law_linear", "_law_linear", defArgs s__law_linear, defBody s__law_linear, defScope s__law_linear, [], []⟩
def dd__law_table : He.DefD := ⟨("_law_table", none), "_law_table", "_law_table", defArgs s__law_table, defBody s__law_table, defScope s__law_table, [], []⟩
def dd__law_signs : He.DefD := ⟨("_law_signs", none), "_law_signs", "_law_signs", defArgs s__law_signs, defBody s__law_signs, defScope s__law_signs, [], []⟩
def dd__law_broken : He.DefD := ⟨("_law_broken", none), "_law_broken", "_law_broken", defArgs s__law_broken, defBody s__law_broken, defScope s__law_broken, [], []⟩
def dd__law_weight : He.DefD := ⟨("_law_weight", none), "_law_weight", "_law_weight", defArgs s__law_weight, defBody s__law_weight, defScope s__law_weight, [], []⟩
def dd__law_levels : He.DefD := ⟨("_law_levels", none), "_law_levels", "_law_levels", defArgs s__law_levels, defBody s__law_levels, defScope s__law_levels, [], []⟩
def dd__law_same : He.DefD := ⟨("_law_same", none), "_law_same", "_law_same", defArgs s__law_same, defBody s__law_same, defScope s__law_same, [], []⟩
def dd__law_put : He.DefD := ⟨("_law_put", none), "_law_put", "_law_put", defArgs s__law_put, defBody s__law_put, defScope s__law_put, [], []⟩
def dd__law_like : He.DefD := ⟨("_law_like", none), "_law_like", "_law_like", defArgs s__law_like, defBody s__law_like, defScope s__law_like, [], []⟩
def dd__law_pair_spoilt : He.DefD := ⟨("_law_pair_spoilt", none), "_law_pair_spoilt", "_law_pair_spoilt", defArgs s__law_pair_spoilt, defBody s__law_pair_spoilt, defScope s__law_pair_spoilt, [], []⟩
def dd__law_spoilt : He.DefD := ⟨("_law_spoilt", none), "_law_spoilt", "_law_spoilt", defArgs s__law_spoilt, defBody s__law_spoilt, defScope s__law_spoilt, [], []⟩
def dd__law_refused : He.DefD := ⟨("_law_refused", none), "_law_refused", "_law_refused", defArgs s__law_refused, defBody s__law_refused, defScope s__law_refused, [], []⟩
def dd__law_level : He.DefD := ⟨("_law_level", none), "_law_level", "_law_level", defArgs s__law_level, defBody s__law_level, defScope s__law_level, [], []⟩
def dd__law_judged : He.DefD := ⟨("_law_judged", none), "_law_judged", "_law_judged", defArgs s__law_judged, defBody s__law_judged, defScope s__law_judged, [], []⟩
def dd__law_right : He.DefD := ⟨("_law_right", none), "_law_right", "_law_right", defArgs s__law_right, defBody s__law_right, defScope s__law_right, [], []⟩
def dd_law : He.DefD := ⟨("law", none), "law", "law", defArgs s_law, defBody s_law, defScope s_law, [], []⟩
def dd_i_InvalidNumber : He.DefD := ⟨("InvalidNumber", some "__init__"), "__init__", "InvalidNumber.__init__", defArgs s_i_InvalidNumber, defBody s_i_InvalidNumber, defScope s_i_InvalidNumber, [], []⟩
def dd_i_InvalidSubset : He.DefD := ⟨("InvalidSubset", some "__init__"), "__init__", "InvalidSubset.__init__", defArgs s_i_InvalidSubset, defBody s_i_InvalidSubset, defScope s_i_InvalidSubset, [], []⟩
def dd_i_InvalidMap : He.DefD := ⟨("InvalidMap", some "__init__"), "__init__", "InvalidMap.__init__", defArgs s_i_InvalidMap, defBody s_i_InvalidMap, defScope s_i_InvalidMap, [], []⟩
def fn : List He.DefD := ([dd_is_integer, dd_is_number, dd_is_below, dd_row_below, dd_check_bits, dd_signs, dd_broken_bits, dd_best_linear, dd_is_beginning, dd_weight_of, dd_weight, dd_check_near, dd_near_linear, dd_near_certificate, dd_is_level, dd_near_certificate_holds, dd_Share_init, dd__law_feed, dd__law_draw, dd__law_size, dd__law_bits, dd__law_linear, dd__law_table, dd__law_signs, dd__law_broken, dd__law_weight, dd__law_levels, dd__law_same, dd__law_put, dd__law_like] : List He.DefD) ++ ([dd__law_pair_spoilt, dd__law_spoilt, dd__law_refused, dd__law_level, dd__law_judged, dd__law_right, dd_law, dd_i_InvalidNumber, dd_i_InvalidSubset, dd_i_InvalidMap] : List He.DefD)
def fa : List He.Fa := ([.glo "is_integer", .glo "is_number", .glo "is_below", .glo "row_below", .glo "check_bits", .glo "signs", .glo "broken_bits", .glo "best_linear", .glo "is_beginning", .glo "weight_of", .glo "weight", .glo "check_near", .glo "near_linear", .glo "near_certificate", .glo "is_level", .glo "near_certificate_holds", .glo "_law_feed", .glo "_law_draw", .glo "_law_size", .glo "_law_bits", .glo "_law_linear", .glo "_law_table", .glo "_law_signs", .glo "_law_broken", .glo "_law_weight", .glo "_law_levels", .glo "_law_same", .glo "_law_put", .glo "_law_like", .glo "_law_pair_spoilt"] : List He.Fa) ++ ([.glo "_law_spoilt", .glo "_law_refused", .glo "_law_level", .glo "_law_judged", .glo "_law_right", .glo "law", .glo "NinthError", .glo "InvalidNumber", .glo "InvalidSubset", .glo "InvalidMap", .glo "Share", .free "int", .free "isinstance", .free "bool", .free "tuple", .free "len", .free "range", .free "enumerate", .free "max", .free "sum", .free "all", .free "abs", .free "list", .free "min", .int "MOST_BITS" 7, .cls "Share", .noat "Share" "top", .noat "Share" "bottom", .mkr "Share"] : List He.Fa)
def exl (K : PySem.W.Frag) : List Bool := [xclsB K "InvalidNumber" ["value"], xclsB K "InvalidSubset" ["value"], xclsB K "InvalidMap" ["value"], exmB K xtab, kitB3 K xtab, insB K "Share", He.eqO (PySem.W.nsIn K mainGlobals "gcd") (some (some (.builtin "math.gcd")))]
def ex (K : PySem.W.Frag) : Bool := (exl K).all id
abbrev RR : PySem.W.OpenRow := PySem.W.OpenLaw.row PySem.Challenge.rw_nearrealm_k79_seven_bits
abbrev hk : PySem.W.Hook := He.hookX 5 fa fn [] [] ex
def ob (s : PySem.W.SharedT) : He.AlX := He.obsX 5 fa fn [] [] ex (HandSHeadRun.getT s)
theorem ob_eq (s : PySem.W.SharedT) : ob s = hk.obs s.abs := He.obsX_eq (HandSHeadRun.getT_eq s)
def names : List PySem.Str := (["_wall", "NinthError", "InvalidNumber", "InvalidSubset", "InvalidMap", "is_integer", "is_number", "is_below", "row_below", "MOST_BITS", "check_bits", "signs", "broken_bits", "best_linear", "is_beginning", "weight_of", "weight", "check_near", "near_linear", "near_certificate", "is_level", "near_certificate_holds", "as_share", "Share", "_law_feed", "_law_draw", "_law_size", "_law_bits", "_law_linear", "_law_table"] : List PySem.Str) ++ (["_law_signs", "_law_broken", "_law_weight", "_law_levels", "_law_same", "_law_put", "_law_like", "_law_pair_spoilt", "_law_spoilt", "_law_refused", "_law_level", "_law_judged", "_law_right"] : List PySem.Str)
theorem run (w : World) : HandSHeadRun.RunEqI RR (PySem.W.view RR.prog [0, 50]) hk ob 6000 names w := by
  delta HandSHeadRun.RunEqI
  kernel_rfl

theorem law_in {K : PySem.W.Frag} {H : Hp} {a : Addr} {ns : List Int} (hl : ns.length ≤ 63) (hS : SqL K H a (ns.map V.int)) : spF K R_law [.ref a] H (fun v _ => v = .bl true) fun _ _ _ => False := by
  refine ⟨H, [.scr (ns.map .int)], fun dv => dv = .fz (.bl true), Same.refl _, ?_, ⟨ns, rfl, hl, rfl⟩, fun F' H' v dv _ _ ho he => ?_⟩
  · simp only [IsL, Is]
    exact ⟨_, _, rfl, ⟨a, _, rfl, hS, IsL.ints.mpr rfl⟩, rfl⟩
  · subst he
    simpa [Out, Is] using ho

/-! ## each def keeps its promise -/
section
variable {P : Program} {w : World} {K : PySem.W.Frag} {mg : Str → Option Value} {base : Heap} {A : Ad}
theorem sc_i_InvalidNumber : FnScope ["self", "value"] ["self", "value"] (defScope s_i_InvalidNumber) := ⟨rfl, rfl, rfl, by decide +kernel, rfl, by decide +kernel, by decide +kernel⟩
theorem ok_i_InvalidNumber (T : Txt K mg A) : FnOk P w K mg base CX0 1 (He.ma K (He.ga K "InvalidNumber") "__init__") A.d_i_InvalidNumber ["self", "value"] (spI (He.ga K "InvalidNumber") ["value"]) :=
  init1 T.fi_InvalidNumber sc_i_InvalidNumber T.x_InvalidNumber.oe (T.x_InvalidNumber.no _ (by decide)) (fun _ _ _ _ _ _ => pss_one (ps_ost (pv 0) (pv 1)))
theorem sc_i_InvalidSubset : FnScope ["self", "value"] ["self", "value"] (defScope s_i_InvalidSubset) := ⟨rfl, rfl, rfl, by decide +kernel, rfl, by decide +kernel, by decide +kernel⟩
theorem ok_i_InvalidSubset (T : Txt K mg A) : FnOk P w K mg base CX0 1 (He.ma K (He.ga K "InvalidSubset") "__init__") A.d_i_InvalidSubset ["self", "value"] (spI (He.ga K "InvalidSubset") ["value"]) :=
  init1 T.fi_InvalidSubset sc_i_InvalidSubset T.x_InvalidSubset.oe (T.x_InvalidSubset.no _ (by decide)) (fun _ _ _ _ _ _ => pss_one (ps_ost (pv 0) (pv 1)))
theorem sc_i_InvalidMap : FnScope ["self", "value"] ["self", "value"] (defScope s_i_InvalidMap) := ⟨rfl, rfl, rfl, by decide +kernel, rfl, by decide +kernel, by decide +kernel⟩
theorem ok_i_InvalidMap (T : Txt K mg A) : FnOk P w K mg base CX0 1 (He.ma K (He.ga K "InvalidMap") "__init__") A.d_i_InvalidMap ["self", "value"] (spI (He.ga K "InvalidMap") ["value"]) :=
  init1 T.fi_InvalidMap sc_i_InvalidMap T.x_InvalidMap.oe (T.x_InvalidMap.no _ (by decide)) (fun _ _ _ _ _ _ => pss_one (ps_ost (pv 0) (pv 1)))
theorem ok_is_integer (T : Txt K mg A) : FnOk P w K mg base CX0 1 A.a_is_integer A.d_is_integer ["value"] (spF K R_is_integer) :=
  Fun.okF (W := w_is_integer) T.f_is_integer sc_is_integer (fun ds Q h => by first | (obtain ⟨rfl, _⟩ := h; rfl) | (obtain ⟨_, rfl, _⟩ := h; rfl) | (obtain ⟨_, _, rfl, _⟩ := h; rfl) | (obtain ⟨_, _, _, rfl, _⟩ := h; rfl) | (obtain ⟨_, _, _, _, rfl, _⟩ := h; rfl) | (obtain ⟨_, _, _, _, _, rfl, _⟩ := h; rfl) | (obtain ⟨_, _, _, _, _, _, rfl, _⟩ := h; rfl) | (obtain ⟨_, _, _, _, _, _, _, rfl, _⟩ := h; rfl) | (obtain ⟨_, _, _, _, _, _, _, _, rfl, _⟩ := h; rfl) | (obtain ⟨_, _, _, _, _, _, _, _, _, rfl, _⟩ := h; rfl) | (revert h; unfold R_is_integer; split <;> first | (intro _; rfl) | exact False.elim)) (by decide) (fun cdv Ar outer s H E hr => j_is_integer T  hr) v_is_integer
theorem ok_weight_of (T : Txt K mg A) : FnOk P w K mg base CX0 1 A.a_weight_of A.d_weight_of ["n", "found", "beginning"] (spF K R_weight_of) :=
  Fun.okF (W := w_weight_of) T.f_weight_of sc_weight_of (fun ds Q h => by first | (obtain ⟨rfl, _⟩ := h; rfl) | (obtain ⟨_, rfl, _⟩ := h; rfl) | (obtain ⟨_, _, rfl, _⟩ := h; rfl) | (obtain ⟨_, _, _, rfl, _⟩ := h; rfl) | (obtain ⟨_, _, _, _, rfl, _⟩ := h; rfl) | (obtain ⟨_, _, _, _, _, rfl, _⟩ := h; rfl) | (obtain ⟨_, _, _, _, _, _, rfl, _⟩ := h; rfl) | (obtain ⟨_, _, _, _, _, _, _, rfl, _⟩ := h; rfl) | (obtain ⟨_, _, _, _, _, _, _, _, rfl, _⟩ := h; rfl) | (obtain ⟨_, _, _, _, _, _, _, _, _, rfl, _⟩ := h; rfl) | (revert h; unfold R_weight_of; split <;> first | (intro _; rfl) | exact False.elim)) (by decide) (fun cdv Ar outer s H E hr => j_weight_of T  hr) v_weight_of
theorem ok__law_feed (T : Txt K mg A) : FnOk P w K mg base CX0 1 A.a__law_feed A.d__law_feed ["script"] (spF K R__law_feed) :=
  Fun.okF (W := w__law_feed) T.f__law_feed sc__law_feed (fun ds Q h => by first | (obtain ⟨rfl, _⟩ := h; rfl) | (obtain ⟨_, rfl, _⟩ := h; rfl) | (obtain ⟨_, _, rfl, _⟩ := h; rfl) | (obtain ⟨_, _, _, rfl, _⟩ := h; rfl) | (obtain ⟨_, _, _, _, rfl, _⟩ := h; rfl) | (obtain ⟨_, _, _, _, _, rfl, _⟩ := h; rfl) | (obtain ⟨_, _, _, _, _, _, rfl, _⟩ := h; rfl) | (obtain ⟨_, _, _, _, _, _, _, rfl, _⟩ := h; rfl) | (obtain ⟨_, _, _, _, _, _, _, _, rfl, _⟩ := h; rfl) | (obtain ⟨_, _, _, _, _, _, _, _, _, rfl, _⟩ := h; rfl) | (revert h; unfold R__law_feed; split <;> first | (intro _; rfl) | exact False.elim)) (by decide) (fun cdv Ar outer s H E hr => j__law_feed T  hr) v__law_feed
theorem ok__law_draw (T : Txt K mg A) : FnOk P w K mg base CX0 1 A.a__law_draw A.d__law_draw ["feed", "many"] (spB K R__law_draw) :=
  Fun.okB (W := w__law_draw) T.f__law_draw sc__law_draw (fun c ds Q h => by first | (obtain ⟨rfl, _⟩ := h; rfl) | (obtain ⟨_, rfl, _⟩ := h; rfl) | (obtain ⟨_, _, rfl, _⟩ := h; rfl) | (obtain ⟨_, _, _, rfl, _⟩ := h; rfl) | (obtain ⟨_, _, _, _, rfl, _⟩ := h; rfl) | (obtain ⟨_, _, _, _, _, rfl, _⟩ := h; rfl) | (obtain ⟨_, _, _, _, _, _, rfl, _⟩ := h; rfl) | (obtain ⟨_, _, _, _, _, _, _, rfl, _⟩ := h; rfl) | (obtain ⟨_, _, _, _, _, _, _, _, rfl, _⟩ := h; rfl) | (obtain ⟨_, _, _, _, _, _, _, _, _, rfl, _⟩ := h; rfl) | (revert h; unfold R__law_draw; split <;> first | (intro _; rfl) | exact False.elim)) (by decide) (fun cdv Ar outer s H E hr => j__law_draw T  hr) v__law_draw
theorem ok__law_size (T : Txt K mg A) : FnOk P w K mg base CX0 1 A.a__law_size A.d__law_size ["n"] (spF K R__law_size) :=
  Fun.okF (W := w__law_size) T.f__law_size sc__law_size (fun ds Q h => by first | (obtain ⟨rfl, _⟩ := h; rfl) | (obtain ⟨_, rfl, _⟩ := h; rfl) | (obtain ⟨_, _, rfl, _⟩ := h; rfl) | (obtain ⟨_, _, _, rfl, _⟩ := h; rfl) | (obtain ⟨_, _, _, _, rfl, _⟩ := h; rfl) | (obtain ⟨_, _, _, _, _, rfl, _⟩ := h; rfl) | (obtain ⟨_, _, _, _, _, _, rfl, _⟩ := h; rfl) | (obtain ⟨_, _, _, _, _, _, _, rfl, _⟩ := h; rfl) | (obtain ⟨_, _, _, _, _, _, _, _, rfl, _⟩ := h; rfl) | (obtain ⟨_, _, _, _, _, _, _, _, _, rfl, _⟩ := h; rfl) | (revert h; unfold R__law_size; split <;> first | (intro _; rfl) | exact False.elim)) (by decide) (fun cdv Ar outer s H E hr => j__law_size T  hr) v__law_size
theorem ok__law_bits (T : Txt K mg A) : FnOk P w K mg base CX0 1 A.a__law_bits A.d__law_bits ["n", "x"] (spF K R__law_bits) :=
  Fun.okF (W := w__law_bits) T.f__law_bits sc__law_bits (fun ds Q h => by first | (obtain ⟨rfl, _⟩ := h; rfl) | (obtain ⟨_, rfl, _⟩ := h; rfl) | (obtain ⟨_, _, rfl, _⟩ := h; rfl) | (obtain ⟨_, _, _, rfl, _⟩ := h; rfl) | (obtain ⟨_, _, _, _, rfl, _⟩ := h; rfl) | (obtain ⟨_, _, _, _, _, rfl, _⟩ := h; rfl) | (obtain ⟨_, _, _, _, _, _, rfl, _⟩ := h; rfl) | (obtain ⟨_, _, _, _, _, _, _, rfl, _⟩ := h; rfl) | (obtain ⟨_, _, _, _, _, _, _, _, rfl, _⟩ := h; rfl) | (obtain ⟨_, _, _, _, _, _, _, _, _, rfl, _⟩ := h; rfl) | (revert h; unfold R__law_bits; split <;> first | (intro _; rfl) | exact False.elim)) (by decide) (fun cdv Ar outer s H E hr => j__law_bits T  hr) v__law_bits
theorem ok__law_signs (T : Txt K mg A) : FnOk P w K mg base CX0 1 A.a__law_signs A.d__law_signs ["n", "f"] (spF K R__law_signs) :=
  Fun.okF (W := w__law_signs) T.f__law_signs sc__law_signs (fun ds Q h => by first | (obtain ⟨rfl, _⟩ := h; rfl) | (obtain ⟨_, rfl, _⟩ := h; rfl) | (obtain ⟨_, _, rfl, _⟩ := h; rfl) | (obtain ⟨_, _, _, rfl, _⟩ := h; rfl) | (obtain ⟨_, _, _, _, rfl, _⟩ := h; rfl) | (obtain ⟨_, _, _, _, _, rfl, _⟩ := h; rfl) | (obtain ⟨_, _, _, _, _, _, rfl, _⟩ := h; rfl) | (obtain ⟨_, _, _, _, _, _, _, rfl, _⟩ := h; rfl) | (obtain ⟨_, _, _, _, _, _, _, _, rfl, _⟩ := h; rfl) | (obtain ⟨_, _, _, _, _, _, _, _, _, rfl, _⟩ := h; rfl) | (revert h; unfold R__law_signs; split <;> first | (intro _; rfl) | exact False.elim)) (by decide) (fun cdv Ar outer s H E hr => j__law_signs T  hr) v__law_signs
theorem ok__law_broken (T : Txt K mg A) : FnOk P w K mg base CX0 1 A.a__law_broken A.d__law_broken ["f"] (spF K R__law_broken) :=
  Fun.okF (W := w__law_broken) T.f__law_broken sc__law_broken (fun ds Q h => by first | (obtain ⟨rfl, _⟩ := h; rfl) | (obtain ⟨_, rfl, _⟩ := h; rfl) | (obtain ⟨_, _, rfl, _⟩ := h; rfl) | (obtain ⟨_, _, _, rfl, _⟩ := h; rfl) | (obtain ⟨_, _, _, _, rfl, _⟩ := h; rfl) | (obtain ⟨_, _, _, _, _, rfl, _⟩ := h; rfl) | (obtain ⟨_, _, _, _, _, _, rfl, _⟩ := h; rfl) | (obtain ⟨_, _, _, _, _, _, _, rfl, _⟩ := h; rfl) | (obtain ⟨_, _, _, _, _, _, _, _, rfl, _⟩ := h; rfl) | (obtain ⟨_, _, _, _, _, _, _, _, _, rfl, _⟩ := h; rfl) | (revert h; unfold R__law_broken; split <;> first | (intro _; rfl) | exact False.elim)) (by decide) (fun cdv Ar outer s H E hr => j__law_broken T  hr) v__law_broken
theorem ok__law_weight (T : Txt K mg A) : FnOk P w K mg base CX0 1 A.a__law_weight A.d__law_weight ["n", "told", "bits"] (spF K R__law_weight) :=
  Fun.okF (W := w__law_weight) T.f__law_weight sc__law_weight (fun ds Q h => by first | (obtain ⟨rfl, _⟩ := h; rfl) | (obtain ⟨_, rfl, _⟩ := h; rfl) | (obtain ⟨_, _, rfl, _⟩ := h; rfl) | (obtain ⟨_, _, _, rfl, _⟩ := h; rfl) | (obtain ⟨_, _, _, _, rfl, _⟩ := h; rfl) | (obtain ⟨_, _, _, _, _, rfl, _⟩ := h; rfl) | (obtain ⟨_, _, _, _, _, _, rfl, _⟩ := h; rfl) | (obtain ⟨_, _, _, _, _, _, _, rfl, _⟩ := h; rfl) | (obtain ⟨_, _, _, _, _, _, _, _, rfl, _⟩ := h; rfl) | (obtain ⟨_, _, _, _, _, _, _, _, _, rfl, _⟩ := h; rfl) | (revert h; unfold R__law_weight; split <;> first | (intro _; rfl) | exact False.elim)) (by decide) (fun cdv Ar outer s H E hr => j__law_weight T  hr) v__law_weight
theorem ok__law_put (T : Txt K mg A) : FnOk P w K mg base CX0 1 A.a__law_put A.d__law_put ["row", "at", "value"] (spF K R__law_put) :=
  Fun.okF (W := w__law_put) T.f__law_put sc__law_put (fun ds Q h => by first | (obtain ⟨rfl, _⟩ := h; rfl) | (obtain ⟨_, rfl, _⟩ := h; rfl) | (obtain ⟨_, _, rfl, _⟩ := h; rfl) | (obtain ⟨_, _, _, rfl, _⟩ := h; rfl) | (obtain ⟨_, _, _, _, rfl, _⟩ := h; rfl) | (obtain ⟨_, _, _, _, _, rfl, _⟩ := h; rfl) | (obtain ⟨_, _, _, _, _, _, rfl, _⟩ := h; rfl) | (obtain ⟨_, _, _, _, _, _, _, rfl, _⟩ := h; rfl) | (obtain ⟨_, _, _, _, _, _, _, _, rfl, _⟩ := h; rfl) | (obtain ⟨_, _, _, _, _, _, _, _, _, rfl, _⟩ := h; rfl) | (revert h; unfold R__law_put; split <;> first | (intro _; rfl) | exact False.elim)) (by decide) (fun cdv Ar outer s H E hr => j__law_put T  hr) v__law_put
theorem ok_is_number (T : Txt K mg A) : FnOk P w K mg base CX0 2 A.a_is_number A.d_is_number ["value"] (spF K R_is_number) :=
  Fun.okF (W := w_is_number) T.f_is_number sc_is_number (fun ds Q h => by first | (obtain ⟨rfl, _⟩ := h; rfl) | (obtain ⟨_, rfl, _⟩ := h; rfl) | (obtain ⟨_, _, rfl, _⟩ := h; rfl) | (obtain ⟨_, _, _, rfl, _⟩ := h; rfl) | (obtain ⟨_, _, _, _, rfl, _⟩ := h; rfl) | (obtain ⟨_, _, _, _, _, rfl, _⟩ := h; rfl) | (obtain ⟨_, _, _, _, _, _, rfl, _⟩ := h; rfl) | (obtain ⟨_, _, _, _, _, _, _, rfl, _⟩ := h; rfl) | (obtain ⟨_, _, _, _, _, _, _, _, rfl, _⟩ := h; rfl) | (obtain ⟨_, _, _, _, _, _, _, _, _, rfl, _⟩ := h; rfl) | (revert h; unfold R_is_number; split <;> first | (intro _; rfl) | exact False.elim)) (by decide) (fun cdv Ar outer s H E hr => j_is_number T (ok_is_integer T) hr) v_is_number
theorem ok_is_below (T : Txt K mg A) : FnOk P w K mg base CX0 2 A.a_is_below A.d_is_below ["value", "bound"] (spF K R_is_below) :=
  Fun.okF (W := w_is_below) T.f_is_below sc_is_below (fun ds Q h => by first | (obtain ⟨rfl, _⟩ := h; rfl) | (obtain ⟨_, rfl, _⟩ := h; rfl) | (obtain ⟨_, _, rfl, _⟩ := h; rfl) | (obtain ⟨_, _, _, rfl, _⟩ := h; rfl) | (obtain ⟨_, _, _, _, rfl, _⟩ := h; rfl) | (obtain ⟨_, _, _, _, _, rfl, _⟩ := h; rfl) | (obtain ⟨_, _, _, _, _, _, rfl, _⟩ := h; rfl) | (obtain ⟨_, _, _, _, _, _, _, rfl, _⟩ := h; rfl) | (obtain ⟨_, _, _, _, _, _, _, _, rfl, _⟩ := h; rfl) | (obtain ⟨_, _, _, _, _, _, _, _, _, rfl, _⟩ := h; rfl) | (revert h; unfold R_is_below; split <;> first | (intro _; rfl) | exact False.elim)) (by decide) (fun cdv Ar outer s H E hr => j_is_below T (ok_is_integer T) hr) v_is_below
theorem ok_Share_init (T : Txt K mg A) : FnOk P w K mg base CX0 2 (He.ma K (He.ga K "Share") "__init__") A.d_Share_init ["self", "top", "bottom"] (spB K R_Share_init) :=
  Fun.okB (W := w_Share_init) T.f_Share_init sc_Share_init (fun c ds Q h => by first | (obtain ⟨rfl, _⟩ := h; rfl) | (obtain ⟨_, rfl, _⟩ := h; rfl) | (obtain ⟨_, _, rfl, _⟩ := h; rfl) | (obtain ⟨_, _, _, rfl, _⟩ := h; rfl) | (obtain ⟨_, _, _, _, rfl, _⟩ := h; rfl) | (obtain ⟨_, _, _, _, _, rfl, _⟩ := h; rfl) | (obtain ⟨_, _, _, _, _, _, rfl, _⟩ := h; rfl) | (obtain ⟨_, _, _, _, _, _, _, rfl, _⟩ := h; rfl) | (obtain ⟨_, _, _, _, _, _, _, _, rfl, _⟩ := h; rfl) | (obtain ⟨_, _, _, _, _, _, _, _, _, rfl, _⟩ := h; rfl) | (revert h; unfold R_Share_init; split <;> first | (intro _; rfl) | exact False.elim)) (by decide) (fun cdv Ar outer s H E hr => j_Share_init T (ok_is_integer T) hr) v_Share_init
theorem ok__law_linear (T : Txt K mg A) : FnOk P w K mg base CX0 2 A.a__law_linear A.d__law_linear ["n", "a"] (spF K R__law_linear) :=
  Fun.okF (W := w__law_linear) T.f__law_linear sc__law_linear (fun ds Q h => by first | (obtain ⟨rfl, _⟩ := h; rfl) | (obtain ⟨_, rfl, _⟩ := h; rfl) | (obtain ⟨_, _, rfl, _⟩ := h; rfl) | (obtain ⟨_, _, _, rfl, _⟩ := h; rfl) | (obtain ⟨_, _, _, _, rfl, _⟩ := h; rfl) | (obtain ⟨_, _, _, _, _, rfl, _⟩ := h; rfl) | (obtain ⟨_, _, _, _, _, _, rfl, _⟩ := h; rfl) | (obtain ⟨_, _, _, _, _, _, _, rfl, _⟩ := h; rfl) | (obtain ⟨_, _, _, _, _, _, _, _, rfl, _⟩ := h; rfl) | (obtain ⟨_, _, _, _, _, _, _, _, _, rfl, _⟩ := h; rfl) | (revert h; unfold R__law_linear; split <;> first | (intro _; rfl) | exact False.elim)) (by decide) (fun cdv Ar outer s H E hr => j__law_linear T (ok__law_bits T) (ok__law_size T) hr) v__law_linear
theorem ok__law_levels (T : Txt K mg A) : FnOk P w K mg base CX0 2 A.a__law_levels A.d__law_levels ["n", "told", "t"] (spF K R__law_levels) :=
  Fun.okF (W := w__law_levels) T.f__law_levels sc__law_levels (fun ds Q h => by first | (obtain ⟨rfl, _⟩ := h; rfl) | (obtain ⟨_, rfl, _⟩ := h; rfl) | (obtain ⟨_, _, rfl, _⟩ := h; rfl) | (obtain ⟨_, _, _, rfl, _⟩ := h; rfl) | (obtain ⟨_, _, _, _, rfl, _⟩ := h; rfl) | (obtain ⟨_, _, _, _, _, rfl, _⟩ := h; rfl) | (obtain ⟨_, _, _, _, _, _, rfl, _⟩ := h; rfl) | (obtain ⟨_, _, _, _, _, _, _, rfl, _⟩ := h; rfl) | (obtain ⟨_, _, _, _, _, _, _, _, rfl, _⟩ := h; rfl) | (obtain ⟨_, _, _, _, _, _, _, _, _, rfl, _⟩ := h; rfl) | (revert h; unfold R__law_levels; split <;> first | (intro _; rfl) | exact False.elim)) (by decide) (fun cdv Ar outer s H E hr => j__law_levels T (ok__law_weight T) hr) v__law_levels
theorem ok__law_level (T : Txt K mg A) : FnOk P w K mg base CX0 2 A.a__law_level A.d__law_level ["feed", "n", "told", "what"] (spB K R__law_level) :=
  Fun.okB (W := w__law_level) T.f__law_level sc__law_level (fun c ds Q h => by first | (obtain ⟨rfl, _⟩ := h; rfl) | (obtain ⟨_, rfl, _⟩ := h; rfl) | (obtain ⟨_, _, rfl, _⟩ := h; rfl) | (obtain ⟨_, _, _, rfl, _⟩ := h; rfl) | (obtain ⟨_, _, _, _, rfl, _⟩ := h; rfl) | (obtain ⟨_, _, _, _, _, rfl, _⟩ := h; rfl) | (obtain ⟨_, _, _, _, _, _, rfl, _⟩ := h; rfl) | (obtain ⟨_, _, _, _, _, _, _, rfl, _⟩ := h; rfl) | (obtain ⟨_, _, _, _, _, _, _, _, rfl, _⟩ := h; rfl) | (obtain ⟨_, _, _, _, _, _, _, _, _, rfl, _⟩ := h; rfl) | (revert h; unfold R__law_level; split <;> first | (intro _; rfl) | exact False.elim)) (by decide) (fun cdv Ar outer s H E hr => j__law_level T (ok__law_draw T) hr) v__law_level
theorem ok_row_below (T : Txt K mg A) : FnOk P w K mg base CX0 3 A.a_row_below A.d_row_below ["value", "length", "bound"] (spF K R_row_below) :=
  Fun.okF (W := w_row_below) T.f_row_below sc_row_below (fun ds Q h => by first | (obtain ⟨rfl, _⟩ := h; rfl) | (obtain ⟨_, rfl, _⟩ := h; rfl) | (obtain ⟨_, _, rfl, _⟩ := h; rfl) | (obtain ⟨_, _, _, rfl, _⟩ := h; rfl) | (obtain ⟨_, _, _, _, rfl, _⟩ := h; rfl) | (obtain ⟨_, _, _, _, _, rfl, _⟩ := h; rfl) | (obtain ⟨_, _, _, _, _, _, rfl, _⟩ := h; rfl) | (obtain ⟨_, _, _, _, _, _, _, rfl, _⟩ := h; rfl) | (obtain ⟨_, _, _, _, _, _, _, _, rfl, _⟩ := h; rfl) | (obtain ⟨_, _, _, _, _, _, _, _, _, rfl, _⟩ := h; rfl) | (revert h; unfold R_row_below; split <;> first | (intro _; rfl) | exact False.elim)) (by decide) (fun cdv Ar outer s H E hr => j_row_below T (ok_is_below T) hr) v_row_below
theorem ok__law_table (T : Txt K mg A) : FnOk P w K mg base CX0 3 A.a__law_table A.d__law_table ["feed", "n"] (spB K R__law_table) :=
  Fun.okB (W := w__law_table) T.f__law_table sc__law_table (fun c ds Q h => by first | (obtain ⟨rfl, _⟩ := h; rfl) | (obtain ⟨_, rfl, _⟩ := h; rfl) | (obtain ⟨_, _, rfl, _⟩ := h; rfl) | (obtain ⟨_, _, _, rfl, _⟩ := h; rfl) | (obtain ⟨_, _, _, _, rfl, _⟩ := h; rfl) | (obtain ⟨_, _, _, _, _, rfl, _⟩ := h; rfl) | (obtain ⟨_, _, _, _, _, _, rfl, _⟩ := h; rfl) | (obtain ⟨_, _, _, _, _, _, _, rfl, _⟩ := h; rfl) | (obtain ⟨_, _, _, _, _, _, _, _, rfl, _⟩ := h; rfl) | (obtain ⟨_, _, _, _, _, _, _, _, _, rfl, _⟩ := h; rfl) | (revert h; unfold R__law_table; split <;> first | (intro _; rfl) | exact False.elim)) (by decide) (fun cdv Ar outer s H E hr => j__law_table T (ok__law_size T) (ok__law_draw T) (ok__law_linear T) (ok__law_bits T) hr) v__law_table
theorem ok_check_bits (T : Txt K mg A) : FnOk P w K mg base (L2.CX P w) 4 A.a_check_bits A.d_check_bits ["n", "f"] (spX K R_check_bits) :=
  Fun.okFX (W := w_check_bits) T.f_check_bits sc_check_bits (fun ds Q E' h => by first | (obtain ⟨rfl, _⟩ := h; rfl) | (obtain ⟨_, rfl, _⟩ := h; rfl) | (obtain ⟨_, _, rfl, _⟩ := h; rfl) | (obtain ⟨_, _, _, rfl, _⟩ := h; rfl) | (obtain ⟨_, _, _, _, rfl, _⟩ := h; rfl) | (obtain ⟨_, _, _, _, _, rfl, _⟩ := h; rfl) | (obtain ⟨_, _, _, _, _, _, rfl, _⟩ := h; rfl) | (obtain ⟨_, _, _, _, _, _, _, rfl, _⟩ := h; rfl) | (obtain ⟨_, _, _, _, _, _, _, _, rfl, _⟩ := h; rfl) | (obtain ⟨_, _, _, _, _, _, _, _, _, rfl, _⟩ := h; rfl) | (revert h; unfold R_check_bits; split <;> first | (intro _; rfl) | exact False.elim)) (by decide) (fun cdv Ar outer s H E hr => j_check_bits T (ok_is_number T) (ok_row_below T) (ok_i_InvalidNumber T) (ok_i_InvalidMap T) hr) v_check_bits
theorem ok_is_beginning (T : Txt K mg A) : FnOk P w K mg base CX0 4 A.a_is_beginning A.d_is_beginning ["n", "value"] (spF K R_is_beginning) :=
  Fun.okF (W := w_is_beginning) T.f_is_beginning sc_is_beginning (fun ds Q h => by first | (obtain ⟨rfl, _⟩ := h; rfl) | (obtain ⟨_, rfl, _⟩ := h; rfl) | (obtain ⟨_, _, rfl, _⟩ := h; rfl) | (obtain ⟨_, _, _, rfl, _⟩ := h; rfl) | (obtain ⟨_, _, _, _, rfl, _⟩ := h; rfl) | (obtain ⟨_, _, _, _, _, rfl, _⟩ := h; rfl) | (obtain ⟨_, _, _, _, _, _, rfl, _⟩ := h; rfl) | (obtain ⟨_, _, _, _, _, _, _, rfl, _⟩ := h; rfl) | (obtain ⟨_, _, _, _, _, _, _, _, rfl, _⟩ := h; rfl) | (obtain ⟨_, _, _, _, _, _, _, _, _, rfl, _⟩ := h; rfl) | (revert h; unfold R_is_beginning; split <;> first | (intro _; rfl) | exact False.elim)) (by decide) (fun cdv Ar outer s H E hr => j_is_beginning T (ok_row_below T) hr) v_is_beginning
theorem ok_is_level (T : Txt K mg A) : FnOk P w K mg base CX0 4 A.a_is_level A.d_is_level ["value", "length"] (spF K R_is_level) :=
  Fun.okF (W := w_is_level) T.f_is_level sc_is_level (fun ds Q h => by first | (obtain ⟨rfl, _⟩ := h; rfl) | (obtain ⟨_, rfl, _⟩ := h; rfl) | (obtain ⟨_, _, rfl, _⟩ := h; rfl) | (obtain ⟨_, _, _, rfl, _⟩ := h; rfl) | (obtain ⟨_, _, _, _, rfl, _⟩ := h; rfl) | (obtain ⟨_, _, _, _, _, rfl, _⟩ := h; rfl) | (obtain ⟨_, _, _, _, _, _, rfl, _⟩ := h; rfl) | (obtain ⟨_, _, _, _, _, _, _, rfl, _⟩ := h; rfl) | (obtain ⟨_, _, _, _, _, _, _, _, rfl, _⟩ := h; rfl) | (obtain ⟨_, _, _, _, _, _, _, _, _, rfl, _⟩ := h; rfl) | (revert h; unfold R_is_level; split <;> first | (intro _; rfl) | exact False.elim)) (by decide) (fun cdv Ar outer s H E hr => j_is_level T (ok_is_integer T) (ok_row_below T) hr) v_is_level
theorem ok__law_like (T : Txt K mg A) : FnOk P w K mg base CX0 4 A.a__law_like A.d__law_like ["feed", "value"] (spB K R__law_like) :=
  Fun.okB (W := w__law_like) T.f__law_like sc__law_like (fun c ds Q h => by first | (obtain ⟨rfl, _⟩ := h; rfl) | (obtain ⟨_, rfl, _⟩ := h; rfl) | (obtain ⟨_, _, rfl, _⟩ := h; rfl) | (obtain ⟨_, _, _, rfl, _⟩ := h; rfl) | (obtain ⟨_, _, _, _, rfl, _⟩ := h; rfl) | (obtain ⟨_, _, _, _, _, rfl, _⟩ := h; rfl) | (obtain ⟨_, _, _, _, _, _, rfl, _⟩ := h; rfl) | (obtain ⟨_, _, _, _, _, _, _, rfl, _⟩ := h; rfl) | (obtain ⟨_, _, _, _, _, _, _, _, rfl, _⟩ := h; rfl) | (obtain ⟨_, _, _, _, _, _, _, _, _, rfl, _⟩ := h; rfl) | (revert h; unfold R__law_like; split <;> first | (intro _; rfl) | exact False.elim)) (by decide) (fun cdv Ar outer s H E hr => j__law_like T (ok__law_draw T) (ok_Share_init T) hr) v__law_like
theorem ok_signs (T : Txt K mg A) : FnOk P w K mg base (L2.CX P w) 5 A.a_signs A.d_signs ["n", "f"] (spX K R_signs) :=
  Fun.okFX (W := w_signs) T.f_signs sc_signs (fun ds Q E' h => by first | (obtain ⟨rfl, _⟩ := h; rfl) | (obtain ⟨_, rfl, _⟩ := h; rfl) | (obtain ⟨_, _, rfl, _⟩ := h; rfl) | (obtain ⟨_, _, _, rfl, _⟩ := h; rfl) | (obtain ⟨_, _, _, _, rfl, _⟩ := h; rfl) | (obtain ⟨_, _, _, _, _, rfl, _⟩ := h; rfl) | (obtain ⟨_, _, _, _, _, _, rfl, _⟩ := h; rfl) | (obtain ⟨_, _, _, _, _, _, _, rfl, _⟩ := h; rfl) | (obtain ⟨_, _, _, _, _, _, _, _, rfl, _⟩ := h; rfl) | (obtain ⟨_, _, _, _, _, _, _, _, _, rfl, _⟩ := h; rfl) | (revert h; unfold R_signs; split <;> first | (intro _; rfl) | exact False.elim)) (by decide) (fun cdv Ar outer s H E hr => j_signs T (ok_check_bits T) hr) v_signs
theorem ok_broken_bits (T : Txt K mg A) : FnOk P w K mg base (L2.CX P w) 5 A.a_broken_bits A.d_broken_bits ["n", "f"] (spX K R_broken_bits) :=
  Fun.okFX (W := w_broken_bits) T.f_broken_bits sc_broken_bits (fun ds Q E' h => by first | (obtain ⟨rfl, _⟩ := h; rfl) | (obtain ⟨_, rfl, _⟩ := h; rfl) | (obtain ⟨_, _, rfl, _⟩ := h; rfl) | (obtain ⟨_, _, _, rfl, _⟩ := h; rfl) | (obtain ⟨_, _, _, _, rfl, _⟩ := h; rfl) | (obtain ⟨_, _, _, _, _, rfl, _⟩ := h; rfl) | (obtain ⟨_, _, _, _, _, _, rfl, _⟩ := h; rfl) | (obtain ⟨_, _, _, _, _, _, _, rfl, _⟩ := h; rfl) | (obtain ⟨_, _, _, _, _, _, _, _, rfl, _⟩ := h; rfl) | (obtain ⟨_, _, _, _, _, _, _, _, _, rfl, _⟩ := h; rfl) | (revert h; unfold R_broken_bits; split <;> first | (intro _; rfl) | exact False.elim)) (by decide) (fun cdv Ar outer s H E hr => j_broken_bits T (ok_check_bits T) hr) v_broken_bits
theorem ok_check_near (T : Txt K mg A) : FnOk P w K mg base (L2.CX P w) 5 A.a_check_near A.d_check_near ["n", "f", "t"] (spX K R_check_near) :=
  Fun.okFX (W := w_check_near) T.f_check_near sc_check_near (fun ds Q E' h => by first | (obtain ⟨rfl, _⟩ := h; rfl) | (obtain ⟨_, rfl, _⟩ := h; rfl) | (obtain ⟨_, _, rfl, _⟩ := h; rfl) | (obtain ⟨_, _, _, rfl, _⟩ := h; rfl) | (obtain ⟨_, _, _, _, rfl, _⟩ := h; rfl) | (obtain ⟨_, _, _, _, _, rfl, _⟩ := h; rfl) | (obtain ⟨_, _, _, _, _, _, rfl, _⟩ := h; rfl) | (obtain ⟨_, _, _, _, _, _, _, rfl, _⟩ := h; rfl) | (obtain ⟨_, _, _, _, _, _, _, _, rfl, _⟩ := h; rfl) | (obtain ⟨_, _, _, _, _, _, _, _, _, rfl, _⟩ := h; rfl) | (revert h; unfold R_check_near; split <;> first | (intro _; rfl) | exact False.elim)) (by decide) (fun cdv Ar outer s H E hr => j_check_near T (ok_check_bits T) (ok_is_number T) (ok_i_InvalidNumber T) hr) v_check_near
theorem ok__law_pair_spoilt (T : Txt K mg A) : FnOk P w K mg base CX0 5 A.a__law_pair_spoilt A.d__law_pair_spoilt ["feed", "pair"] (spB K R__law_pair_spoilt) :=
  Fun.okB (W := w__law_pair_spoilt) T.f__law_pair_spoilt sc__law_pair_spoilt (fun c ds Q h => by first | (obtain ⟨rfl, _⟩ := h; rfl) | (obtain ⟨_, rfl, _⟩ := h; rfl) | (obtain ⟨_, _, rfl, _⟩ := h; rfl) | (obtain ⟨_, _, _, rfl, _⟩ := h; rfl) | (obtain ⟨_, _, _, _, rfl, _⟩ := h; rfl) | (obtain ⟨_, _, _, _, _, rfl, _⟩ := h; rfl) | (obtain ⟨_, _, _, _, _, _, rfl, _⟩ := h; rfl) | (obtain ⟨_, _, _, _, _, _, _, rfl, _⟩ := h; rfl) | (obtain ⟨_, _, _, _, _, _, _, _, rfl, _⟩ := h; rfl) | (obtain ⟨_, _, _, _, _, _, _, _, _, rfl, _⟩ := h; rfl) | (revert h; unfold R__law_pair_spoilt; split <;> first | (intro _; rfl) | exact False.elim)) (by decide) (fun cdv Ar outer s H E hr => j__law_pair_spoilt T (ok__law_draw T) (ok__law_put T) (ok__law_like T) hr) v__law_pair_spoilt
theorem ok_best_linear (T : Txt K mg A) : FnOk P w K mg base (L2.CX P w) 6 A.a_best_linear A.d_best_linear ["n", "f"] (spX K R_best_linear) :=
  Fun.okFX (W := w_best_linear) T.f_best_linear sc_best_linear (fun ds Q E' h => by first | (obtain ⟨rfl, _⟩ := h; rfl) | (obtain ⟨_, rfl, _⟩ := h; rfl) | (obtain ⟨_, _, rfl, _⟩ := h; rfl) | (obtain ⟨_, _, _, rfl, _⟩ := h; rfl) | (obtain ⟨_, _, _, _, rfl, _⟩ := h; rfl) | (obtain ⟨_, _, _, _, _, rfl, _⟩ := h; rfl) | (obtain ⟨_, _, _, _, _, _, rfl, _⟩ := h; rfl) | (obtain ⟨_, _, _, _, _, _, _, rfl, _⟩ := h; rfl) | (obtain ⟨_, _, _, _, _, _, _, _, rfl, _⟩ := h; rfl) | (obtain ⟨_, _, _, _, _, _, _, _, _, rfl, _⟩ := h; rfl) | (revert h; unfold R_best_linear; split <;> first | (intro _; rfl) | exact False.elim)) (by decide) (fun cdv Ar outer s H E hr => j_best_linear T (ok_signs T) hr) v_best_linear
theorem ok_weight (T : Txt K mg A) : FnOk P w K mg base (L2.CX P w) 6 A.a_weight A.d_weight ["n", "f", "beginning"] (spX K R_weight) :=
  Fun.okFX (W := w_weight) T.f_weight sc_weight (fun ds Q E' h => by first | (obtain ⟨rfl, _⟩ := h; rfl) | (obtain ⟨_, rfl, _⟩ := h; rfl) | (obtain ⟨_, _, rfl, _⟩ := h; rfl) | (obtain ⟨_, _, _, rfl, _⟩ := h; rfl) | (obtain ⟨_, _, _, _, rfl, _⟩ := h; rfl) | (obtain ⟨_, _, _, _, _, rfl, _⟩ := h; rfl) | (obtain ⟨_, _, _, _, _, _, rfl, _⟩ := h; rfl) | (obtain ⟨_, _, _, _, _, _, _, rfl, _⟩ := h; rfl) | (obtain ⟨_, _, _, _, _, _, _, _, rfl, _⟩ := h; rfl) | (obtain ⟨_, _, _, _, _, _, _, _, _, rfl, _⟩ := h; rfl) | (revert h; unfold R_weight; split <;> first | (intro _; rfl) | exact False.elim)) (by decide) (fun cdv Ar outer s H E hr => j_weight T (ok_check_bits T) (ok_is_beginning T) (ok_weight_of T) (ok_signs T) (ok_i_InvalidSubset T) hr) v_weight
theorem ok_near_linear (T : Txt K mg A) : FnOk P w K mg base (L2.CX P w) 6 A.a_near_linear A.d_near_linear ["n", "f", "t"] (spX K R_near_linear) :=
  Fun.okFX (W := w_near_linear) T.f_near_linear sc_near_linear (fun ds Q E' h => by first | (obtain ⟨rfl, _⟩ := h; rfl) | (obtain ⟨_, rfl, _⟩ := h; rfl) | (obtain ⟨_, _, rfl, _⟩ := h; rfl) | (obtain ⟨_, _, _, rfl, _⟩ := h; rfl) | (obtain ⟨_, _, _, _, rfl, _⟩ := h; rfl) | (obtain ⟨_, _, _, _, _, rfl, _⟩ := h; rfl) | (obtain ⟨_, _, _, _, _, _, rfl, _⟩ := h; rfl) | (obtain ⟨_, _, _, _, _, _, _, rfl, _⟩ := h; rfl) | (obtain ⟨_, _, _, _, _, _, _, _, rfl, _⟩ := h; rfl) | (obtain ⟨_, _, _, _, _, _, _, _, _, rfl, _⟩ := h; rfl) | (revert h; unfold R_near_linear; split <;> first | (intro _; rfl) | exact False.elim)) (by decide) (fun cdv Ar outer s H E hr => j_near_linear T (ok_check_near T) (ok_signs T) hr) v_near_linear
theorem ok_near_certificate (T : Txt K mg A) : FnOk P w K mg base (L2.CX P w) 6 A.a_near_certificate A.d_near_certificate ["n", "f", "t"] (spX K R_near_certificate) :=
  Fun.okFX (W := w_near_certificate) T.f_near_certificate sc_near_certificate (fun ds Q E' h => by first | (obtain ⟨rfl, _⟩ := h; rfl) | (obtain ⟨_, rfl, _⟩ := h; rfl) | (obtain ⟨_, _, rfl, _⟩ := h; rfl) | (obtain ⟨_, _, _, rfl, _⟩ := h; rfl) | (obtain ⟨_, _, _, _, rfl, _⟩ := h; rfl) | (obtain ⟨_, _, _, _, _, rfl, _⟩ := h; rfl) | (obtain ⟨_, _, _, _, _, _, rfl, _⟩ := h; rfl) | (obtain ⟨_, _, _, _, _, _, _, rfl, _⟩ := h; rfl) | (obtain ⟨_, _, _, _, _, _, _, _, rfl, _⟩ := h; rfl) | (obtain ⟨_, _, _, _, _, _, _, _, _, rfl, _⟩ := h; rfl) | (revert h; unfold R_near_certificate; split <;> first | (intro _; rfl) | exact False.elim)) (by decide) (fun cdv Ar outer s H E hr => j_near_certificate T (ok_check_near T) (ok_signs T) (ok_weight_of T) hr) v_near_certificate
theorem ok__law_same (T : Txt K mg A) : ∀ k : Nat, FnOk P w K mg base CX0 (1 + k) A.a__law_same A.d__law_same ["told", "due"] (spF K (R__law_same k))
  | 0 => Fun.ok T.f__law_same sc__law_same (k := 0) (fun vs H Q E h => by obtain ⟨_, _, _, _, _, z, _⟩ := h; exact z.elim) (fun cdv Ar outer s H vs Q E hr h => by obtain ⟨_, _, _, _, _, z, _⟩ := h; exact z.elim)
  | k + 1 => Fun.okF (W := w__law_same k) T.f__law_same sc__law_same (fun ds Q h => hl__law_same k ds Q h) (by decide) (fun cdv Ar outer s H E hr => j__law_same T (ok__law_same T k) hr) (v__law_same k)
theorem ok__law_spoilt (T : Txt K mg A) : FnOk P w K mg base CX0 6 A.a__law_spoilt A.d__law_spoilt ["feed", "levels"] (spB K R__law_spoilt) :=
  Fun.okB (W := w__law_spoilt) T.f__law_spoilt sc__law_spoilt (fun c ds Q h => by first | (obtain ⟨rfl, _⟩ := h; rfl) | (obtain ⟨_, rfl, _⟩ := h; rfl) | (obtain ⟨_, _, rfl, _⟩ := h; rfl) | (obtain ⟨_, _, _, rfl, _⟩ := h; rfl) | (obtain ⟨_, _, _, _, rfl, _⟩ := h; rfl) | (obtain ⟨_, _, _, _, _, rfl, _⟩ := h; rfl) | (obtain ⟨_, _, _, _, _, _, rfl, _⟩ := h; rfl) | (obtain ⟨_, _, _, _, _, _, _, rfl, _⟩ := h; rfl) | (obtain ⟨_, _, _, _, _, _, _, _, rfl, _⟩ := h; rfl) | (obtain ⟨_, _, _, _, _, _, _, _, _, rfl, _⟩ := h; rfl) | (revert h; unfold R__law_spoilt; split <;> first | (intro _; rfl) | exact False.elim)) (by decide) (fun cdv Ar outer s H E hr => j__law_spoilt T (ok__law_draw T) (ok__law_put T) (ok__law_pair_spoilt T) hr) v__law_spoilt
theorem ok_near_certificate_holds (T : Txt K mg A) : FnOk P w K mg base (L2.CX P w) 7 A.a_near_certificate_holds A.d_near_certificate_holds ["n", "f", "t", "certificate"] (spX K R_near_certificate_holds) :=
  Fun.okFX (W := w_near_certificate_holds) T.f_near_certificate_holds sc_near_certificate_holds (fun ds Q E' h => by first | (obtain ⟨rfl, _⟩ := h; rfl) | (obtain ⟨_, rfl, _⟩ := h; rfl) | (obtain ⟨_, _, rfl, _⟩ := h; rfl) | (obtain ⟨_, _, _, rfl, _⟩ := h; rfl) | (obtain ⟨_, _, _, _, rfl, _⟩ := h; rfl) | (obtain ⟨_, _, _, _, _, rfl, _⟩ := h; rfl) | (obtain ⟨_, _, _, _, _, _, rfl, _⟩ := h; rfl) | (obtain ⟨_, _, _, _, _, _, _, rfl, _⟩ := h; rfl) | (obtain ⟨_, _, _, _, _, _, _, _, rfl, _⟩ := h; rfl) | (obtain ⟨_, _, _, _, _, _, _, _, _, rfl, _⟩ := h; rfl) | (revert h; unfold R_near_certificate_holds; split <;> first | (intro _; rfl) | exact False.elim)) (by decide) (fun cdv Ar outer s H E hr => j_near_certificate_holds T (ok_near_certificate T) (ok_is_level T) hr) v_near_certificate_holds
theorem ok__law_refused (T : Txt K mg A) : FnOk P w K mg base CX0 8 A.a__law_refused A.d__law_refused ["what", "n", "f"] (spF K R__law_refused) :=
  Fun.okF (W := w__law_refused) T.f__law_refused sc__law_refused (fun ds Q h => by first | (obtain ⟨rfl, _⟩ := h; rfl) | (obtain ⟨_, rfl, _⟩ := h; rfl) | (obtain ⟨_, _, rfl, _⟩ := h; rfl) | (obtain ⟨_, _, _, rfl, _⟩ := h; rfl) | (obtain ⟨_, _, _, _, rfl, _⟩ := h; rfl) | (obtain ⟨_, _, _, _, _, rfl, _⟩ := h; rfl) | (obtain ⟨_, _, _, _, _, _, rfl, _⟩ := h; rfl) | (obtain ⟨_, _, _, _, _, _, _, rfl, _⟩ := h; rfl) | (obtain ⟨_, _, _, _, _, _, _, _, rfl, _⟩ := h; rfl) | (obtain ⟨_, _, _, _, _, _, _, _, _, rfl, _⟩ := h; rfl) | (revert h; unfold R__law_refused; split <;> first | (intro _; rfl) | exact False.elim)) (by decide) (fun cdv Ar outer s H E hr => j__law_refused T (ok_signs T) (ok_broken_bits T) (ok_best_linear T) (ok_weight T) (ok_near_linear T) (ok_near_certificate T) (ok_near_certificate_holds T) hr) v__law_refused
theorem ok__law_judged (T : Txt K mg A) : FnOk P w K mg base CX0 8 A.a__law_judged A.d__law_judged ["feed", "n", "f", "t", "levels"] (spB K R__law_judged) :=
  Fun.okB (W := w__law_judged) T.f__law_judged sc__law_judged (fun c ds Q h => by first | (obtain ⟨rfl, _⟩ := h; rfl) | (obtain ⟨_, rfl, _⟩ := h; rfl) | (obtain ⟨_, _, rfl, _⟩ := h; rfl) | (obtain ⟨_, _, _, rfl, _⟩ := h; rfl) | (obtain ⟨_, _, _, _, rfl, _⟩ := h; rfl) | (obtain ⟨_, _, _, _, _, rfl, _⟩ := h; rfl) | (obtain ⟨_, _, _, _, _, _, rfl, _⟩ := h; rfl) | (obtain ⟨_, _, _, _, _, _, _, rfl, _⟩ := h; rfl) | (obtain ⟨_, _, _, _, _, _, _, _, rfl, _⟩ := h; rfl) | (obtain ⟨_, _, _, _, _, _, _, _, _, rfl, _⟩ := h; rfl) | (revert h; unfold R__law_judged; split <;> first | (intro _; rfl) | exact False.elim)) (by decide) (fun cdv Ar outer s H E hr => j__law_judged T (ok_near_certificate_holds T) (ok__law_spoilt T) (ok__law_same T 5) hr) v__law_judged
theorem ok__law_right (T : Txt K mg A) : FnOk P w K mg base CX0 9 A.a__law_right A.d__law_right ["feed", "what", "n", "f"] (spB K R__law_right) :=
  Fun.okB (W := w__law_right) T.f__law_right sc__law_right (fun c ds Q h => by first | (obtain ⟨rfl, _⟩ := h; rfl) | (obtain ⟨_, rfl, _⟩ := h; rfl) | (obtain ⟨_, _, rfl, _⟩ := h; rfl) | (obtain ⟨_, _, _, rfl, _⟩ := h; rfl) | (obtain ⟨_, _, _, _, rfl, _⟩ := h; rfl) | (obtain ⟨_, _, _, _, _, rfl, _⟩ := h; rfl) | (obtain ⟨_, _, _, _, _, _, rfl, _⟩ := h; rfl) | (obtain ⟨_, _, _, _, _, _, _, rfl, _⟩ := h; rfl) | (obtain ⟨_, _, _, _, _, _, _, _, rfl, _⟩ := h; rfl) | (obtain ⟨_, _, _, _, _, _, _, _, _, rfl, _⟩ := h; rfl) | (revert h; unfold R__law_right; split <;> first | (intro _; rfl) | exact False.elim)) (by decide) (fun cdv Ar outer s H E hr => j__law_right T (ok__law_signs T) (ok__law_level T) (ok__law_same T 5) (ok_signs T) (ok_broken_bits T) (ok__law_broken T) (ok_best_linear T) (ok__law_bits T) (ok__law_draw T) (ok_weight T) (ok__law_weight T) (ok_near_linear T) (ok__law_levels T) (ok_near_certificate T) (ok__law_judged T) hr) v__law_right
theorem ok_law (T : Txt K mg A) : FnOk P w K mg base CX0 10 A.a_law A.d_law ["script"] (spF K R_law) :=
  Fun.okF (W := w_law) T.f_law sc_law (fun ds Q h => by first | (obtain ⟨rfl, _⟩ := h; rfl) | (obtain ⟨_, rfl, _⟩ := h; rfl) | (obtain ⟨_, _, rfl, _⟩ := h; rfl) | (obtain ⟨_, _, _, rfl, _⟩ := h; rfl) | (obtain ⟨_, _, _, _, rfl, _⟩ := h; rfl) | (obtain ⟨_, _, _, _, _, rfl, _⟩ := h; rfl) | (obtain ⟨_, _, _, _, _, _, rfl, _⟩ := h; rfl) | (obtain ⟨_, _, _, _, _, _, _, rfl, _⟩ := h; rfl) | (obtain ⟨_, _, _, _, _, _, _, _, rfl, _⟩ := h; rfl) | (obtain ⟨_, _, _, _, _, _, _, _, _, rfl, _⟩ := h; rfl) | (revert h; unfold R_law; split <;> first | (intro _; rfl) | exact False.elim)) (by decide) (fun cdv Ar outer s H E hr => j_law T (ok__law_feed T) (ok__law_draw T) (ok__law_refused T) (ok__law_table T) (ok__law_right T) hr) v_law
end
theorem all_at {l : List Bool} (h : l.all id = true) (i : Nat) {b : Bool} (e : l[i]? = some b) : b = true := List.all_eq_true.mp h b (List.mem_of_getElem? e)
theorem xt_of {K : PySem.W.Frag} {tab : Tab3} (xs : List Str) (h : (tab.all fun t => decide (t.1 ∈ xs)) = true) (hx : ∀ C, C ∈ xs → ExcC K (He.ga K C)) : ∀ C c b, tab3 tab C c = some b → ExcC K (He.ga K C) := fun C c b q => hx C (of_decide_eq_true (List.all_eq_true.mp h _ (tab3_mem q)))
theorem txt_of {K : PySem.W.Frag} {h : Heap} {mg : Str → Option Value} (X : K.In h) (G : h.Ns mainGlobals mg) (c : He.SaysD fa fn K) (cx : ex K = true) : ∃ A : Ad, Txt K mg A ∧ ∀ (s : Shared) (v : Value), BindsTo s A.d_law ⟨[v], []⟩ [("script", v)] := by
  obtain ⟨d0, E0⟩ := c.def_ 0 (d := dd_is_integer) rfl
  have F0 : Fun K "is_integer" "is_integer" s_is_integer (He.ga K "is_integer") d0 := He5.fun_of E0
  obtain ⟨d1, E1⟩ := c.def_ 1 (d := dd_is_number) rfl
  have F1 : Fun K "is_number" "is_number" s_is_number (He.ga K "is_number") d1 := He5.fun_of E1
  obtain ⟨d2, E2⟩ := c.def_ 2 (d := dd_is_below) rfl
  have F2 : Fun K "is_below" "is_below" s_is_below (He.ga K "is_below") d2 := He5.fun_of E2
  obtain ⟨d3, E3⟩ := c.def_ 3 (d := dd_row_below) rfl
  have F3 : Fun K "row_below" "row_below" s_row_below (He.ga K "row_below") d3 := He5.fun_of E3
  obtain ⟨d4, E4⟩ := c.def_ 4 (d := dd_check_bits) rfl
  have F4 : Fun K "check_bits" "check_bits" s_check_bits (He.ga K "check_bits") d4 := He5.fun_of E4
  obtain ⟨d5, E5⟩ := c.def_ 5 (d := dd_signs) rfl
  have F5 : Fun K "signs" "signs" s_signs (He.ga K "signs") d5 := He5.fun_of E5
  obtain ⟨d6, E6⟩ := c.def_ 6 (d := dd_broken_bits) rfl
  have F6 : Fun K "broken_bits" "broken_bits" s_broken_bits (He.ga K "broken_bits") d6 := He5.fun_of E6
  obtain ⟨d7, E7⟩ := c.def_ 7 (d := dd_best_linear) rfl
  have F7 : Fun K "best_linear" "best_linear" s_best_linear (He.ga K "best_linear") d7 := He5.fun_of E7
  obtain ⟨d8, E8⟩ := c.def_ 8 (d := dd_is_beginning) rfl
  have F8 : Fun K "is_beginning" "is_beginning" s_is_beginning (He.ga K "is_beginning") d8 := He5.fun_of E8
  obtain ⟨d9, E9⟩ := c.def_ 9 (d := dd_weight_of) rfl
  have F9 : Fun K "weight_of" "weight_of" s_weight_of (He.ga K "weight_of") d9 := He5.fun_of E9
  obtain ⟨d10, E10⟩ := c.def_ 10 (d := dd_weight) rfl
  have F10 : Fun K "weight" "weight" s_weight (He.ga K "weight") d10 := He5.fun_of E10
  obtain ⟨d11, E11⟩ := c.def_ 11 (d := dd_check_near) rfl
  have F11 : Fun K "check_near" "check_near" s_check_near (He.ga K "check_near") d11 := He5.fun_of E11
  obtain ⟨d12, E12⟩ := c.def_ 12 (d := dd_near_linear) rfl
  have F12 : Fun K "near_linear" "near_linear" s_near_linear (He.ga K "near_linear") d12 := He5.fun_of E12
  obtain ⟨d13, E13⟩ := c.def_ 13 (d := dd_near_certificate) rfl
  have F13 : Fun K "near_certificate" "near_certificate" s_near_certificate (He.ga K "near_certificate") d13 := He5.fun_of E13
  obtain ⟨d14, E14⟩ := c.def_ 14 (d := dd_is_level) rfl
  have F14 : Fun K "is_level" "is_level" s_is_level (He.ga K "is_level") d14 := He5.fun_of E14
  obtain ⟨d15, E15⟩ := c.def_ 15 (d := dd_near_certificate_holds) rfl
  have F15 : Fun K "near_certificate_holds" "near_certificate_holds" s_near_certificate_holds (He.ga K "near_certificate_holds") d15 := He5.fun_of E15
  obtain ⟨d16, E16⟩ := c.def_ 16 (d := dd_Share_init) rfl
  have F16 : Fun K "__init__" "Share.__init__" s_Share_init ((He.ma K (He.ga K "Share") "__init__")) d16 := He5.fun_of E16
  obtain ⟨d17, E17⟩ := c.def_ 17 (d := dd__law_feed) rfl
  have F17 : Fun K "_law_feed" "_law_feed" s__law_feed (He.ga K "_law_feed") d17 := He5.fun_of E17
  obtain ⟨d18, E18⟩ := c.def_ 18 (d := dd__law_draw) rfl
  have F18 : Fun K "_law_draw" "_law_draw" s__law_draw (He.ga K "_law_draw") d18 := He5.fun_of E18
  obtain ⟨d19, E19⟩ := c.def_ 19 (d := dd__law_size) rfl
  have F19 : Fun K "_law_size" "_law_size" s__law_size (He.ga K "_law_size") d19 := He5.fun_of E19
  obtain ⟨d20, E20⟩ := c.def_ 20 (d := dd__law_bits) rfl
  have F20 : Fun K "_law_bits" "_law_bits" s__law_bits (He.ga K "_law_bits") d20 := He5.fun_of E20
  obtain ⟨d21, E21⟩ := c.def_ 21 (d := dd__law_linear) rfl
  have F21 : Fun K "_law_linear" "_law_linear" s__law_linear (He.ga K "_law_linear") d21 := He5.fun_of E21
  obtain ⟨d22, E22⟩ := c.def_ 22 (d := dd__law_table) rfl
  have F22 : Fun K "_law_table" "_law_table" s__law_table (He.ga K "_law_table") d22 := He5.fun_of E22
  obtain ⟨d23, E23⟩ := c.def_ 23 (d := dd__law_signs) rfl
  have F23 : Fun K "_law_signs" "_law_signs" s__law_signs (He.ga K "_law_signs") d23 := He5.fun_of E23
  obtain ⟨d24, E24⟩ := c.def_ 24 (d := dd__law_broken) rfl
  have F24 : Fun K "_law_broken" "_law_broken" s__law_broken (He.ga K "_law_broken") d24 := He5.fun_of E24
  obtain ⟨d25, E25⟩ := c.def_ 25 (d := dd__law_weight) rfl
  have F25 : Fun K "_law_weight" "_law_weight" s__law_weight (He.ga K "_law_weight") d25 := He5.fun_of E25
  obtain ⟨d26, E26⟩ := c.def_ 26 (d := dd__law_levels) rfl
  have F26 : Fun K "_law_levels" "_law_levels" s__law_levels (He.ga K "_law_levels") d26 := He5.fun_of E26
  obtain ⟨d27, E27⟩ := c.def_ 27 (d := dd__law_same) rfl
  have F27 : Fun K "_law_same" "_law_same" s__law_same (He.ga K "_law_same") d27 := He5.fun_of E27
  obtain ⟨d28, E28⟩ := c.def_ 28 (d := dd__law_put) rfl
  have F28 : Fun K "_law_put" "_law_put" s__law_put (He.ga K "_law_put") d28 := He5.fun_of E28
  obtain ⟨d29, E29⟩ := c.def_ 29 (d := dd__law_like) rfl
  have F29 : Fun K "_law_like" "_law_like" s__law_like (He.ga K "_law_like") d29 := He5.fun_of E29
  obtain ⟨d30, E30⟩ := c.def_ 30 (d := dd__law_pair_spoilt) rfl
  have F30 : Fun K "_law_pair_spoilt" "_law_pair_spoilt" s__law_pair_spoilt (He.ga K "_law_pair_spoilt") d30 := He5.fun_of E30
  obtain ⟨d31, E31⟩ := c.def_ 31 (d := dd__law_spoilt) rfl
  have F31 : Fun K "_law_spoilt" "_law_spoilt" s__law_spoilt (He.ga K "_law_spoilt") d31 := He5.fun_of E31
  obtain ⟨d32, E32⟩ := c.def_ 32 (d := dd__law_refused) rfl
  have F32 : Fun K "_law_refused" "_law_refused" s__law_refused (He.ga K "_law_refused") d32 := He5.fun_of E32
  obtain ⟨d33, E33⟩ := c.def_ 33 (d := dd__law_level) rfl
  have F33 : Fun K "_law_level" "_law_level" s__law_level (He.ga K "_law_level") d33 := He5.fun_of E33
  obtain ⟨d34, E34⟩ := c.def_ 34 (d := dd__law_judged) rfl
  have F34 : Fun K "_law_judged" "_law_judged" s__law_judged (He.ga K "_law_judged") d34 := He5.fun_of E34
  obtain ⟨d35, E35⟩ := c.def_ 35 (d := dd__law_right) rfl
  have F35 : Fun K "_law_right" "_law_right" s__law_right (He.ga K "_law_right") d35 := He5.fun_of E35
  obtain ⟨d36, E36⟩ := c.def_ 36 (d := dd_law) rfl
  have F36 : Fun K "law" "law" s_law (He.ga K "law") d36 := He5.fun_of E36
  obtain ⟨d37, E37⟩ := c.def_ 37 (d := dd_i_InvalidNumber) rfl
  have F37 : Fun K "__init__" "InvalidNumber.__init__" s_i_InvalidNumber (He.ma K (He.ga K "InvalidNumber") "__init__") d37 := He5.fun_of E37
  obtain ⟨d38, E38⟩ := c.def_ 38 (d := dd_i_InvalidSubset) rfl
  have F38 : Fun K "__init__" "InvalidSubset.__init__" s_i_InvalidSubset (He.ma K (He.ga K "InvalidSubset") "__init__") d38 := He5.fun_of E38
  obtain ⟨d39, E39⟩ := c.def_ 39 (d := dd_i_InvalidMap) rfl
  have F39 : Fun K "__init__" "InvalidMap.__init__" s_i_InvalidMap (He.ma K (He.ga K "InvalidMap") "__init__") d39 := He5.fun_of E39
  have b := FunD.bindsA (ps := ["script"]) E36 fun _ _ _ _ _ _ us hl => match us, hl with | [_], _ => rfl
  exact ⟨⟨He.ga K "is_integer", d0, He.ga K "is_number", d1, He.ga K "is_below", d2, He.ga K "row_below", d3, He.ga K "check_bits", d4, He.ga K "signs", d5, He.ga K "broken_bits", d6, He.ga K "best_linear", d7, He.ga K "is_beginning", d8, He.ga K "weight_of", d9, He.ga K "weight", d10, He.ga K "check_near", d11, He.ga K "near_linear", d12, He.ga K "near_certificate", d13, He.ga K "is_level", d14, He.ga K "near_certificate_holds", d15, d16, He.ga K "_law_feed", d17, He.ga K "_law_draw", d18, He.ga K "_law_size", d19, He.ga K "_law_bits", d20, He.ga K "_law_linear", d21, He.ga K "_law_table", d22, He.ga K "_law_signs", d23, He.ga K "_law_broken", d24, He.ga K "_law_weight", d25, He.ga K "_law_levels", d26, He.ga K "_law_same", d27, He.ga K "_law_put", d28, He.ga K "_law_like", d29, He.ga K "_law_pair_spoilt", d30, He.ga K "_law_spoilt", d31, He.ga K "_law_refused", d32, He.ga K "_law_level", d33, He.ga K "_law_judged", d34, He.ga K "_law_right", d35, He.ga K "law", d36, d37, d38, d39⟩, {x_InvalidNumber := xclsB_ok (all_at cx 0 rfl), fi_InvalidNumber := F37, ni_InvalidNumber := F37.binds (ps := ["self", "value"]) fun _ _ _ _ _ _ us hl => match us, hl with | [_, _], _ => rfl, x_InvalidSubset := xclsB_ok (all_at cx 1 rfl), fi_InvalidSubset := F38, ni_InvalidSubset := F38.binds (ps := ["self", "value"]) fun _ _ _ _ _ _ us hl => match us, hl with | [_, _], _ => rfl, x_InvalidMap := xclsB_ok (all_at cx 2 rfl), fi_InvalidMap := F39, ni_InvalidMap := F39.binds (ps := ["self", "value"]) fun _ _ _ _ _ _ us hl => match us, hl with | [_, _], _ => rfl, gx_NinthError := He.glo_ok X G (c.fact 36 (f := .glo "NinthError") rfl), gx_InvalidNumber := He.glo_ok X G (c.fact 37 (f := .glo "InvalidNumber") rfl), gx_InvalidSubset := He.glo_ok X G (c.fact 38 (f := .glo "InvalidSubset") rfl), gx_InvalidMap := He.glo_ok X G (c.fact 39 (f := .glo "InvalidMap") rfl), xtC := xt_of ["InvalidNumber", "InvalidSubset", "InvalidMap"] (by decide +kernel) (List.forall_mem_cons.mpr ⟨(xclsB_ok (all_at cx 0 rfl)).ec, List.forall_mem_cons.mpr ⟨(xclsB_ok (all_at cx 1 rfl)).ec, List.forall_mem_cons.mpr ⟨(xclsB_ok (all_at cx 2 rfl)).ec, fun _ h => nomatch h⟩⟩⟩), exm := exmB_ok (all_at cx 3 rfl), kit := kitB3_ok (all_at cx 4 rfl), oc := List.forall_mem_cons.mpr ⟨insB_ok (He.cls_ok (c.fact 55 (f := .cls "Share") rfl)) (all_at cx 5 rfl), fun _ h => nomatch h⟩, cl_Share := He.cls_ok (c.fact 55 (f := .cls "Share") rfl), gc_Share := He.glo_ok X G (c.fact 40 (f := .glo "Share") rfl), no_Share_top := He.noat_ok (c.fact 56 (f := .noat "Share" "top") rfl), no_Share_bottom := He.noat_ok (c.fact 57 (f := .noat "Share" "bottom") rfl), mk_Share := He.mkr_ok (c.fact 58 (f := .mkr "Share") rfl), bf_gcd := PySem.W.mg_of X G (He.eqO_ok (all_at cx 6 rfl)), b_int := He.free_ok X G (c.fact 41 (f := .free "int") rfl), b_isinstance := He.free_ok X G (c.fact 42 (f := .free "isinstance") rfl), b_bool := He.free_ok X G (c.fact 43 (f := .free "bool") rfl), b_tuple := He.free_ok X G (c.fact 44 (f := .free "tuple") rfl), b_len := He.free_ok X G (c.fact 45 (f := .free "len") rfl), b_range := He.free_ok X G (c.fact 46 (f := .free "range") rfl), b_enumerate := He.free_ok X G (c.fact 47 (f := .free "enumerate") rfl), b_max := He.free_ok X G (c.fact 48 (f := .free "max") rfl), b_sum := He.free_ok X G (c.fact 49 (f := .free "sum") rfl), b_all := He.free_ok X G (c.fact 50 (f := .free "all") rfl), b_abs := He.free_ok X G (c.fact 51 (f := .free "abs") rfl), b_list := He.free_ok X G (c.fact 52 (f := .free "list") rfl), b_min := He.free_ok X G (c.fact 53 (f := .free "min") rfl), c_MOST_BITS := He.int_ok X G (c.fact 54 (f := .int "MOST_BITS" 7) rfl), g_is_integer := He.glo_ok X G (c.fact 0 (f := .glo "is_integer") rfl), k_is_integer := F0.kp, f_is_integer := F0, n_is_integer := F0.binds (ps := ["value"]) fun _ _ _ _ _ _ us hl => match us, hl with | [_], _ => rfl, g_is_number := He.glo_ok X G (c.fact 1 (f := .glo "is_number") rfl), k_is_number := F1.kp, f_is_number := F1, n_is_number := F1.binds (ps := ["value"]) fun _ _ _ _ _ _ us hl => match us, hl with | [_], _ => rfl, g_is_below := He.glo_ok X G (c.fact 2 (f := .glo "is_below") rfl), k_is_below := F2.kp, f_is_below := F2, n_is_below := F2.binds (ps := ["value", "bound"]) fun _ _ _ _ _ _ us hl => match us, hl with | [_, _], _ => rfl, g_row_below := He.glo_ok X G (c.fact 3 (f := .glo "row_below") rfl), k_row_below := F3.kp, f_row_below := F3, n_row_below := F3.binds (ps := ["value", "length", "bound"]) fun _ _ _ _ _ _ us hl => match us, hl with | [_, _, _], _ => rfl, g_check_bits := He.glo_ok X G (c.fact 4 (f := .glo "check_bits") rfl), k_check_bits := F4.kp, f_check_bits := F4, n_check_bits := F4.binds (ps := ["n", "f"]) fun _ _ _ _ _ _ us hl => match us, hl with | [_, _], _ => rfl, g_signs := He.glo_ok X G (c.fact 5 (f := .glo "signs") rfl), k_signs := F5.kp, f_signs := F5, n_signs := F5.binds (ps := ["n", "f"]) fun _ _ _ _ _ _ us hl => match us, hl with | [_, _], _ => rfl, g_broken_bits := He.glo_ok X G (c.fact 6 (f := .glo "broken_bits") rfl), k_broken_bits := F6.kp, f_broken_bits := F6, n_broken_bits := F6.binds (ps := ["n", "f"]) fun _ _ _ _ _ _ us hl => match us, hl with | [_, _], _ => rfl, g_best_linear := He.glo_ok X G (c.fact 7 (f := .glo "best_linear") rfl), k_best_linear := F7.kp, f_best_linear := F7, n_best_linear := F7.binds (ps := ["n", "f"]) fun _ _ _ _ _ _ us hl => match us, hl with | [_, _], _ => rfl, g_is_beginning := He.glo_ok X G (c.fact 8 (f := .glo "is_beginning") rfl), k_is_beginning := F8.kp, f_is_beginning := F8, n_is_beginning := F8.binds (ps := ["n", "value"]) fun _ _ _ _ _ _ us hl => match us, hl with | [_, _], _ => rfl, g_weight_of := He.glo_ok X G (c.fact 9 (f := .glo "weight_of") rfl), k_weight_of := F9.kp, f_weight_of := F9, n_weight_of := F9.binds (ps := ["n", "found", "beginning"]) fun _ _ _ _ _ _ us hl => match us, hl with | [_, _, _], _ => rfl, g_weight := He.glo_ok X G (c.fact 10 (f := .glo "weight") rfl), k_weight := F10.kp, f_weight := F10, n_weight := F10.binds (ps := ["n", "f", "beginning"]) fun _ _ _ _ _ _ us hl => match us, hl with | [_, _, _], _ => rfl, g_check_near := He.glo_ok X G (c.fact 11 (f := .glo "check_near") rfl), k_check_near := F11.kp, f_check_near := F11, n_check_near := F11.binds (ps := ["n", "f", "t"]) fun _ _ _ _ _ _ us hl => match us, hl with | [_, _, _], _ => rfl, g_near_linear := He.glo_ok X G (c.fact 12 (f := .glo "near_linear") rfl), k_near_linear := F12.kp, f_near_linear := F12, n_near_linear := F12.binds (ps := ["n", "f", "t"]) fun _ _ _ _ _ _ us hl => match us, hl with | [_, _, _], _ => rfl, g_near_certificate := He.glo_ok X G (c.fact 13 (f := .glo "near_certificate") rfl), k_near_certificate := F13.kp, f_near_certificate := F13, n_near_certificate := F13.binds (ps := ["n", "f", "t"]) fun _ _ _ _ _ _ us hl => match us, hl with | [_, _, _], _ => rfl, g_is_level := He.glo_ok X G (c.fact 14 (f := .glo "is_level") rfl), k_is_level := F14.kp, f_is_level := F14, n_is_level := F14.binds (ps := ["value", "length"]) fun _ _ _ _ _ _ us hl => match us, hl with | [_, _], _ => rfl, g_near_certificate_holds := He.glo_ok X G (c.fact 15 (f := .glo "near_certificate_holds") rfl), k_near_certificate_holds := F15.kp, f_near_certificate_holds := F15, n_near_certificate_holds := F15.binds (ps := ["n", "f", "t", "certificate"]) fun _ _ _ _ _ _ us hl => match us, hl with | [_, _, _, _], _ => rfl, f_Share_init := F16, n_Share_init := F16.binds (ps := ["self", "top", "bottom"]) fun _ _ _ _ _ _ us hl => match us, hl with | [_, _, _], _ => rfl, g__law_feed := He.glo_ok X G (c.fact 16 (f := .glo "_law_feed") rfl), k__law_feed := F17.kp, f__law_feed := F17, n__law_feed := F17.binds (ps := ["script"]) fun _ _ _ _ _ _ us hl => match us, hl with | [_], _ => rfl, g__law_draw := He.glo_ok X G (c.fact 17 (f := .glo "_law_draw") rfl), k__law_draw := F18.kp, f__law_draw := F18, n__law_draw := F18.binds (ps := ["feed", "many"]) fun _ _ _ _ _ _ us hl => match us, hl with | [_, _], _ => rfl, g__law_size := He.glo_ok X G (c.fact 18 (f := .glo "_law_size") rfl), k__law_size := F19.kp, f__law_size := F19, n__law_size := F19.binds (ps := ["n"]) fun _ _ _ _ _ _ us hl => match us, hl with | [_], _ => rfl, g__law_bits := He.glo_ok X G (c.fact 19 (f := .glo "_law_bits") rfl), k__law_bits := F20.kp, f__law_bits := F20, n__law_bits := F20.binds (ps := ["n", "x"]) fun _ _ _ _ _ _ us hl => match us, hl with | [_, _], _ => rfl, g__law_linear := He.glo_ok X G (c.fact 20 (f := .glo "_law_linear") rfl), k__law_linear := F21.kp, f__law_linear := F21, n__law_linear := F21.binds (ps := ["n", "a"]) fun _ _ _ _ _ _ us hl => match us, hl with | [_, _], _ => rfl, g__law_table := He.glo_ok X G (c.fact 21 (f := .glo "_law_table") rfl), k__law_table := F22.kp, f__law_table := F22, n__law_table := F22.binds (ps := ["feed", "n"]) fun _ _ _ _ _ _ us hl => match us, hl with | [_, _], _ => rfl, g__law_signs := He.glo_ok X G (c.fact 22 (f := .glo "_law_signs") rfl), k__law_signs := F23.kp, f__law_signs := F23, n__law_signs := F23.binds (ps := ["n", "f"]) fun _ _ _ _ _ _ us hl => match us, hl with | [_, _], _ => rfl, g__law_broken := He.glo_ok X G (c.fact 23 (f := .glo "_law_broken") rfl), k__law_broken := F24.kp, f__law_broken := F24, n__law_broken := F24.binds (ps := ["f"]) fun _ _ _ _ _ _ us hl => match us, hl with | [_], _ => rfl, g__law_weight := He.glo_ok X G (c.fact 24 (f := .glo "_law_weight") rfl), k__law_weight := F25.kp, f__law_weight := F25, n__law_weight := F25.binds (ps := ["n", "told", "bits"]) fun _ _ _ _ _ _ us hl => match us, hl with | [_, _, _], _ => rfl, g__law_levels := He.glo_ok X G (c.fact 25 (f := .glo "_law_levels") rfl), k__law_levels := F26.kp, f__law_levels := F26, n__law_levels := F26.binds (ps := ["n", "told", "t"]) fun _ _ _ _ _ _ us hl => match us, hl with | [_, _, _], _ => rfl, g__law_same := He.glo_ok X G (c.fact 26 (f := .glo "_law_same") rfl), k__law_same := F27.kp, f__law_same := F27, n__law_same := F27.binds (ps := ["told", "due"]) fun _ _ _ _ _ _ us hl => match us, hl with | [_, _], _ => rfl, g__law_put := He.glo_ok X G (c.fact 27 (f := .glo "_law_put") rfl), k__law_put := F28.kp, f__law_put := F28, n__law_put := F28.binds (ps := ["row", "at", "value"]) fun _ _ _ _ _ _ us hl => match us, hl with | [_, _, _], _ => rfl, g__law_like := He.glo_ok X G (c.fact 28 (f := .glo "_law_like") rfl), k__law_like := F29.kp, f__law_like := F29, n__law_like := F29.binds (ps := ["feed", "value"]) fun _ _ _ _ _ _ us hl => match us, hl with | [_, _], _ => rfl, g__law_pair_spoilt := He.glo_ok X G (c.fact 29 (f := .glo "_law_pair_spoilt") rfl), k__law_pair_spoilt := F30.kp, f__law_pair_spoilt := F30, n__law_pair_spoilt := F30.binds (ps := ["feed", "pair"]) fun _ _ _ _ _ _ us hl => match us, hl with | [_, _], _ => rfl, g__law_spoilt := He.glo_ok X G (c.fact 30 (f := .glo "_law_spoilt") rfl), k__law_spoilt := F31.kp, f__law_spoilt := F31, n__law_spoilt := F31.binds (ps := ["feed", "levels"]) fun _ _ _ _ _ _ us hl => match us, hl with | [_, _], _ => rfl, g__law_refused := He.glo_ok X G (c.fact 31 (f := .glo "_law_refused") rfl), k__law_refused := F32.kp, f__law_refused := F32, n__law_refused := F32.binds (ps := ["what", "n", "f"]) fun _ _ _ _ _ _ us hl => match us, hl with | [_, _, _], _ => rfl, g__law_level := He.glo_ok X G (c.fact 32 (f := .glo "_law_level") rfl), k__law_level := F33.kp, f__law_level := F33, n__law_level := F33.binds (ps := ["feed", "n", "told", "what"]) fun _ _ _ _ _ _ us hl => match us, hl with | [_, _, _, _], _ => rfl, g__law_judged := He.glo_ok X G (c.fact 33 (f := .glo "_law_judged") rfl), k__law_judged := F34.kp, f__law_judged := F34, n__law_judged := F34.binds (ps := ["feed", "n", "f", "t", "levels"]) fun _ _ _ _ _ _ us hl => match us, hl with | [_, _, _, _, _], _ => rfl, g__law_right := He.glo_ok X G (c.fact 34 (f := .glo "_law_right") rfl), k__law_right := F35.kp, f__law_right := F35, n__law_right := F35.binds (ps := ["feed", "what", "n", "f"]) fun _ _ _ _ _ _ us hl => match us, hl with | [_, _, _, _], _ => rfl, g_law := He.glo_ok X G (c.fact 35 (f := .glo "law") rfl), k_law := F36.kp, f_law := F36, n_law := F36.binds (ps := ["script"]) fun _ _ _ _ _ _ us hl => match us, hl with | [_], _ => rfl}, fun s v => b s [v] rfl⟩
theorem facts {P : Program} {w : World} {K : PySem.W.Frag} {h : Heap} {mg : Str → Option Value} {f : Addr} (X : K.In h) (G : h.Ns mainGlobals mg) (hfa : mg ("law" : Str) = some (.ref f)) (c : He.SaysD fa fn K) (cx : ex K = true) :
    ∃ fd : FuncData, (∀ (s : Shared) (v : Value), BindsTo s fd ⟨[v], []⟩ [("script", v)]) ∧ ∀ base : Heap, K.In base → base.Ns mainGlobals mg → FnOk P w K mg base CX0 10 f fd ["script"] (spF K R_law) := by
  obtain ⟨A, T, eA⟩ := txt_of X G c cx
  have e := hfa.symm.trans T.g_law
  cases e
  exact ⟨A.d_law, eA, fun base _ _ => ok_law T⟩
end L2.DL.Q
open PySem PySem.W PySem.Calls PyProof.Rows
set_option maxHeartbeats 0 in
theorem PySem.Challenge.cw_nearrealm_k79_seven_bits_holds : PySem.Challenge.rw_nearrealm_k79_seven_bits.Holds := by
  w_on; o_law
  refine HandSHeadRun.head_imp (r := OpenLaw.row PySem.Challenge.rw_nearrealm_k79_seven_bits) (q := view (OpenLaw.row PySem.Challenge.rw_nearrealm_k79_seven_bits).prog [0, 50]) (H := L2.DL.Q.hk) (ob := L2.DL.Q.ob) (M := 6000) (loose := L2.DL.Q.names) (d := HandSHeadRun.topDef (OpenLaw.row PySem.Challenge.rw_nearrealm_k79_seven_bits).prog 50) (kwd := []) L2.DL.Q.ob_eq
    L2.DL.Q.run (by kernel_rfl) (by kernel_rfl) (by kernel_rfl) (by rfl) (by first | assumption | decide +kernel) (by decide +kernel) ⟨rfl, rfl, rfl, rfl, rfl, by decide +kernel⟩ ?hw ?hc
  case hw => w_witness2
  case hc =>
    refine L2.walk_ofE (l := PySem.Challenge.rw_nearrealm_k79_seven_bits) (n := 63) (k := 10) (x := "script") (CX := L2.CX0) rfl (by decide) (by kernel_rfl) ⟨rfl, by decide, by decide⟩ ?F (fun _ _ _ _ z => z)
    intro w mg fa h Y G hmg0
    obtain ⟨K, KX, c⟩ := Y
    have hmg : mg ("law" : PySem.Str) = some (.ref fa) := by
      have e : (HandSHeadRun.topDef (OpenLaw.row PySem.Challenge.rw_nearrealm_k79_seven_bits).prog 50).name = ("law" : PySem.Str) := by kernel_rfl
      rw [← e]
      exact hmg0
    obtain ⟨fd, hb, hF⟩ := L2.DL.Q.facts (P := (PySem.Challenge.rw_nearrealm_k79_seven_bits).prog) (w := w) KX G hmg c.t.d c.more
    exact ⟨K, fd, L2.DL.spF K L2.DL.Q.R_law, KX, hb, fun H a ns hl _ hS => L2.DL.Q.law_in hl hS, hF⟩


