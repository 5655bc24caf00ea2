import PyProof.Rows.All
import Wide.All
import OpenK.AllK
import Wide.FinOn
import HandS.ForMost
import HandS.Wide
import HandS.Gcd
import HandS.IsInst
import HandS.Exc
import HandS.WordsExc
import PySem.Challenge.RW_manysights_k55_ratios_whole
set_option Elab.async false
set_option linter.all false
set_option maxRecDepth 100000
set_option maxHeartbeats 8000000
/-! Z: values without addresses; what a piece of Python does, told of such values alone. -/
namespace Z
open PySem PySem.Spec PyProof.Rows L2

/-- a value as data: what it is, not where it stands -/
inductive D where
  | non | bl (b : Bool) | int (i : Int) | str (x : Str) | ty (n : String) | gl (x : Str)
  | tup (l : List D) | lst (l : List D) | ins (C : Str) (fs : List (Str × D))
  | scr (l : List D)

/-- the written part and what the module's names hold -/
structure Mg where
  K : PySem.W.Frag
  m : Str → Option Value
abbrev gd (X : Cx) : Mg := ⟨X.K, X.mg⟩

mutual
inductive Rep (mg : Mg) (S : Hp) : V → D → Prop
  | non : Rep mg S .non .non
  | bl (b : Bool) : Rep mg S (.bl b) (.bl b)
  | int (i : Int) : Rep mg S (.int i) (.int i)
  | str (x : Str) : Rep mg S (.str x) (.str x)
  | ty (n : String) : Rep mg S (.ty n) (.ty n)
  | gl {x : Str} {a : Addr} : mg.m x = some (.ref a) → Rep mg S (.ref a) (.gl x)
  | tup {a : Addr} {vs : List V} {ds : List D} : S a = some (.tup vs) → Reps mg S vs ds → Rep mg S (.ref a) (.tup ds)
  | lst {a : Addr} {vs : List V} {ds : List D} : Rd S a (.lst vs) → Reps mg S vs ds → Rep mg S (.ref a) (.lst ds)
  | ins {a c dx : Addr} {gs : List (Str × V)} {C : Str} {fs : List (Str × D)} : mg.m C = some (.ref c) → S a = some (.ins c dx gs) → RepF mg S gs fs → Rep mg S (.ref a) (.ins C fs)
  | scr {a : Addr} {vs : List V} {ds : List D} : SqL mg.K S a vs → Reps mg S vs ds → Rep mg S (.ref a) (.scr ds)
inductive Reps (mg : Mg) (S : Hp) : List V → List D → Prop
  | nil : Reps mg S [] []
  | cons {v : V} {vs : List V} {d : D} {ds : List D} : Rep mg S v d → Reps mg S vs ds → Reps mg S (v :: vs) (d :: ds)
inductive RepF (mg : Mg) (S : Hp) : List (Str × V) → List (Str × D) → Prop
  | nil : RepF mg S [] []
  | cons {f : Str} {v : V} {d : D} {gs : List (Str × V)} {fs : List (Str × D)} : Rep mg S v d → RepF mg S gs fs → RepF mg S ((f, v) :: gs) ((f, d) :: fs)
end

theorem rd_mono {S S' : Hp} {a : Addr} {u : HO} (e : Same S S') (h : Rd S a u) : Rd S' a u := by
  rcases h with h | ⟨o, h⟩
  · exact .inl (e _ _ h)
  · exact .inr ⟨o, e _ _ h⟩

theorem sq_mono {K : PySem.W.Frag} {S S' : Hp} {a : Addr} {xs : List V} (e : Same S S') (h : SqL K S a xs) : SqL K S' a xs := by
  rcases h with h | h
  · exact .inl (rd_mono e h)
  · exact .inr h
mutual
theorem Rep.mono {mg : Mg} {S S' : Hp} (e : Same S S') : ∀ {v : V} {d : D}, Rep mg S v d → Rep mg S' v d
  | _, _, .non => .non
  | _, _, .bl b => .bl b
  | _, _, .int i => .int i
  | _, _, .str x => .str x
  | _, _, .ty n => .ty n
  | _, _, .gl h => .gl h
  | _, _, .tup h r => .tup (e _ _ h) (Reps.mono e r)
  | _, _, .lst h r => .lst (rd_mono e h) (Reps.mono e r)
  | _, _, .ins hC h r => .ins hC (e _ _ h) (RepF.mono e r)
  | _, _, .scr h r => .scr (sq_mono e h) (Reps.mono e r)
theorem Reps.mono {mg : Mg} {S S' : Hp} (e : Same S S') : ∀ {vs : List V} {ds : List D}, Reps mg S vs ds → Reps mg S' vs ds
  | _, _, .nil => .nil
  | _, _, .cons h r => .cons (Rep.mono e h) (Reps.mono e r)
theorem RepF.mono {mg : Mg} {S S' : Hp} (e : Same S S') : ∀ {gs : List (Str × V)} {fs : List (Str × D)}, RepF mg S gs fs → RepF mg S' gs fs
  | _, _, .nil => .nil
  | _, _, .cons h r => .cons (Rep.mono e h) (RepF.mono e r)
end

section
variable {mg : Mg} {S S' H : Hp}
theorem Reps.length : ∀ {vs : List V} {ds : List D}, Reps mg S vs ds → vs.length = ds.length
  | _, _, .nil => rfl
  | _, _, .cons _ r => congrArg (· + 1) (Reps.length r)
theorem Reps.get : ∀ {vs : List V} {ds : List D}, Reps mg S vs ds → ∀ {i : Nat} {d : D}, ds[i]? = some d → ∃ v, vs[i]? = some v ∧ Rep mg S v d
  | _, _, .nil, i, d, h => by simp at h
  | _, _, .cons h r, 0, d, e => by
    simp at e; subst e; exact ⟨_, rfl, h⟩
  | _, _, .cons h r, i + 1, d, e => by
    simp only [List.getElem?_cons_succ] at e ⊢
    exact Reps.get r e
theorem Reps.get' : ∀ {vs : List V} {ds : List D}, Reps mg S vs ds → ∀ {i : Nat} {v : V}, vs[i]? = some v → ∃ d, ds[i]? = some d ∧ Rep mg S v d
  | _, _, .nil, i, d, h => by simp at h
  | _, _, .cons h r, 0, d, e => by
    simp at e; subst e; exact ⟨_, rfl, h⟩
  | _, _, .cons h r, i + 1, d, e => by
    simp only [List.getElem?_cons_succ] at e ⊢
    exact Reps.get' r e
theorem Reps.append : ∀ {vs ws : List V} {ds es : List D}, Reps mg S vs ds → Reps mg S ws es → Reps mg S (vs ++ ws) (ds ++ es)
  | _, _, _, _, .nil, r => r
  | _, _, _, _, .cons h r, s => .cons h (Reps.append r s)
theorem Reps.one {v : V} {d : D} (h : Rep mg S v d) : Reps mg S [v] [d] := .cons h .nil
theorem Reps.set {v : V} {d : D} (h : Rep mg S v d) : ∀ {vs : List V} {ds : List D} (i : Nat), Reps mg S vs ds → Reps mg S (vs.set i v) (ds.set i d)
  | _, _, _, .nil => .nil
  | _, _, 0, .cons _ r => .cons h r
  | _, _, i + 1, .cons q r => .cons q (Reps.set h i r)
theorem Reps.drop : ∀ {vs : List V} {ds : List D} (i : Nat), Reps mg S vs ds → Reps mg S (vs.drop i) (ds.drop i)
  | _, _, 0, r => r
  | _, _, i + 1, .nil => .nil
  | _, _, i + 1, .cons _ r => Reps.drop i r
theorem Reps.take : ∀ {vs : List V} {ds : List D} (i : Nat), Reps mg S vs ds → Reps mg S (vs.take i) (ds.take i)
  | _, _, 0, r => .nil
  | _, _, i + 1, .nil => .nil
  | _, _, i + 1, .cons h r => .cons h (Reps.take i r)
theorem Reps.ints : ∀ ns : List Int, Reps mg S (ns.map V.int) (ns.map D.int)
  | [] => .nil
  | _ :: r => .cons (.int _) (Reps.ints r)
theorem Reps.ints_inv : ∀ {vs : List V} {ns : List Int}, Reps mg S vs (ns.map D.int) → vs = ns.map V.int
  | _, [], h => by cases h; rfl
  | _, n :: r, h => by
    cases h with
    | cons h t => cases h; rw [Reps.ints_inv t]; rfl
theorem Reps.bls_inv : ∀ {vs : List V} {bs : List Bool}, Reps mg S vs (bs.map D.bl) → vs = bs.map V.bl
  | _, [], h => by cases h; rfl
  | _, n :: r, h => by
    cases h with
    | cons h t => cases h; rw [Reps.bls_inv t]; rfl
theorem Reps.strs_inv : ∀ {vs : List V} {bs : List Str}, Reps mg S vs (bs.map D.str) → vs = bs.map V.str
  | _, [], h => by cases h; rfl
  | _, n :: r, h => by
    cases h with
    | cons h t => cases h; rw [Reps.strs_inv t]; rfl
theorem RepF.lookup {f : Str} : ∀ {gs : List (Str × V)} {fs : List (Str × D)}, RepF mg S gs fs → ∀ {d : D}, fs.lookup f = some d → ∃ v, gs.lookup f = some v ∧ Rep mg S v d
  | _, _, .nil, d, h => by simp at h
  | _, _, .cons (f := g) (v := v) (d := d') h r, d, e => by
    by_cases q : f = g
    · subst q
      simp [List.lookup] at e ⊢
      subst e; exact h
    · have q' : (f == g) = false := by simpa using q
      simp only [List.lookup, q'] at e ⊢
      exact RepF.lookup r e
theorem RepF.lookup_none {f : Str} : ∀ {gs : List (Str × V)} {fs : List (Str × D)}, RepF mg S gs fs → fs.lookup f = none → gs.lookup f = none
  | _, _, .nil, h => rfl
  | _, _, .cons (f := g) h r, e => by
    by_cases q : f = g
    · subst q
      simp [List.lookup] at e
    · have q' : (f == g) = false := by simpa using q
      simp only [List.lookup, q'] at e ⊢
      exact RepF.lookup_none r e
theorem RepF.length : ∀ {gs : List (Str × V)} {fs : List (Str × D)}, RepF mg S gs fs → gs.length = fs.length
  | _, _, .nil => rfl
  | _, _, .cons _ r => congrArg (· + 1) (RepF.length r)
/-- a field is stored -/
def putD (f : Str) (d : D) : List (Str × D) → List (Str × D)
  | [] => [(f, d)]
  | (g, x) :: r => if g = f then (g, d) :: r else (g, x) :: putD f d r
theorem RepF.put {f : Str} {v : V} {d : D} (h : Rep mg S v d) : ∀ {gs : List (Str × V)} {fs : List (Str × D)}, RepF mg S gs fs → RepF mg S (putF f v gs) (putD f d fs)
  | _, _, .nil => .cons h .nil
  | _, _, .cons (f := g) q r => by
    unfold putF putD
    by_cases e : g = f
    · rw [if_pos e, if_pos e]; exact .cons h r
    · rw [if_neg e, if_neg e]; exact .cons q (RepF.put h r)
end

/-! ### how the heap moves: S, what is never changed any more (known by its content), within H, all that is known -/
structure Wd (S0 H0 S H : Hp) : Prop where
  hh : Same H0 H
  ss : Same S0 S
  sh : Same S H
  nw : ∀ p, S0 p = none → H0 p ≠ none → S p = none
theorem Wd.refl {S H : Hp} (h : Same S H) : Wd S H S H := ⟨Same.refl _, Same.refl _, h, fun _ h _ => h⟩
theorem Same.ne {H H' : Hp} (e : Same H H') {p : Addr} (h : H p ≠ none) : H' p ≠ none := by
  cases q : H p with
  | none => exact absurd q h
  | some o => rw [e p o q]; intro z; cases z
theorem Wd.trans {S0 H0 S H S' H' : Hp} (a : Wd S0 H0 S H) (b : Wd S H S' H') : Wd S0 H0 S' H' :=
  ⟨a.hh.trans b.hh, a.ss.trans b.ss, b.sh, fun p h1 h2 => b.nw p (a.nw p h1 h2) (Same.ne a.hh h2)⟩
/-- a new object that is never changed -/
theorem Wd.new {S0 H0 S H : Hp} (a : Wd S0 H0 S H) {p : Addr} (hp : H p = none) (o : HO) : Wd S0 H0 (upd S p o) (upd H p o) where
  hh := fun q u e => by
    have h2 := a.hh q u e
    rw [upd_ne (ne_of_none h2 hp)]; exact h2
  ss := fun q u e => by
    have h2 := a.sh q u (a.ss q u e)
    rw [upd_ne (ne_of_none h2 hp)]; exact a.ss q u e
  sh := fun q u e => by
    by_cases c : q = p
    · subst c; rw [upd_same] at e ⊢; exact e
    · rw [upd_ne c] at e ⊢; exact a.sh q u e
  nw := fun q h1 h2 => by
    have c : q ≠ p := fun z => by
      subst z
      exact Same.ne a.hh h2 hp
    rw [upd_ne c]; exact a.nw q h1 h2
/-- an object that was made since is never changed any more -/
theorem Wd.frz {S0 H0 S H : Hp} (a : Wd S0 H0 S H) {p : Addr} {o : HO} (h0 : H0 p = none) (hp : H p = some o) (hs : S p = none) : Wd S0 H0 (upd S p o) H where
  hh := a.hh
  ss := fun q u e => by
    have c : q ≠ p := fun z => by subst z; rw [a.ss _ u e] at hs; cases hs
    rw [upd_ne c]; exact a.ss q u e
  sh := fun q u e => by
    by_cases c : q = p
    · subst c; rw [upd_same] at e; rw [hp]; exact e
    · rw [upd_ne c] at e; exact a.sh q u e
  nw := fun q h1 h2 => by
    have c : q ≠ p := fun z => by subst z; exact h2 h0
    rw [upd_ne c]; exact a.nw q h1 h2
/-- an object of our own is changed -/
theorem Wd.mut {S0 H0 S H : Hp} (a : Wd S0 H0 S H) {p : Addr} (o : HO) (h0 : H0 p = none) (hs : S p = none) : Wd S0 H0 S (upd H p o) where
  hh := fun q u e => by
    rw [upd_ne (ne_of_none e h0)]; exact a.hh q u e
  ss := a.ss
  sh := fun q u e => by
    rw [upd_ne (ne_of_none e hs)]; exact a.sh q u e
  nw := a.nw
theorem Wd.free {S0 H0 S H : Hp} (a : Wd S0 H0 S H) {p : Addr} (h : H p = none) : H0 p = none := Same.free a.hh h
theorem Wd.sfree {S0 H0 S H : Hp} (a : Wd S0 H0 S H) {p : Addr} (h : H p = none) : S p = none := Same.free a.sh h

/-! ### slots -/
/-- an object of this def's own that may still be changed -/
inductive Ow where
  | lst (l : List D)
  | ins (C : Str) (fs : List (Str × D))
inductive Sl where
  | em
  | val (d : D)
  | own (o : Ow)
abbrev En := List Sl
def OwAt (mg : Mg) (S H : Hp) (a : Addr) : Ow → Prop
  | .lst l => ∃ vs, H a = some (.lst vs) ∧ Reps mg S vs l
  | .ins C fs => ∃ c dx gs, mg.m C = some (.ref c) ∧ H a = some (.ins c dx gs) ∧ RepF mg S gs fs
theorem OwAt.mono {mg : Mg} {S S' H H' : Hp} {a : Addr} {o : Ow} (hs : Same S S') (hh : ∀ u, H a = some u → H' a = some u) (h : OwAt mg S H a o) : OwAt mg S' H' a o := by
  cases o with
  | lst l => obtain ⟨vs, e, r⟩ := h; exact ⟨vs, hh _ e, r.mono hs⟩
  | ins C fs => obtain ⟨c, dx, gs, q, e, r⟩ := h; exact ⟨c, dx, gs, q, hh _ e, r.mono hs⟩
theorem OwAt.there {mg : Mg} {S H : Hp} {a : Addr} {o : Ow} (h : OwAt mg S H a o) : H a ≠ none := by
  cases o with
  | lst l => obtain ⟨vs, e, r⟩ := h; rw [e]; intro z; cases z
  | ins C fs => obtain ⟨c, dx, gs, q, e, r⟩ := h; rw [e]; intro z; cases z

/-- what stands: S0, H0 at the entry; S, H now; the slots σ; ρ, what is known of them -/
structure RE (mg : Mg) (S0 H0 S H : Hp) (σ : L2.St) (ρ : En) : Prop where
  wd : Wd S0 H0 S H
  len : ρ.length = σ.length
  val : ∀ (i : Nat) (d : D), ρ[i]? = some (.val d) → ∃ v, σ[i]? = some (some v) ∧ Rep mg S v d
  own : ∃ A : Nat → Addr, (∀ (i : Nat) (o : Ow), ρ[i]? = some (.own o) → σ[i]? = some (some (.ref (A i))) ∧ H0 (A i) = none ∧ S (A i) = none ∧ OwAt mg S H (A i) o) ∧
    ∀ (i j : Nat) (o o' : Ow), ρ[i]? = some (.own o) → ρ[j]? = some (.own o') → i ≠ j → A i ≠ A j
section
variable {mg : Mg} {S0 H0 S H S' H' : Hp} {σ : L2.St} {ρ : En}
theorem RE.grow (R : RE mg S0 H0 S H σ ρ) (w : Wd S H S' H') : RE mg S0 H0 S' H' σ ρ where
  wd := R.wd.trans w
  len := R.len
  val := fun i d e => by
    obtain ⟨v, h1, h2⟩ := R.val i d e
    exact ⟨v, h1, h2.mono w.ss⟩
  own := by
    obtain ⟨A, h1, h2⟩ := R.own
    refine ⟨A, fun i o e => ?_, h2⟩
    obtain ⟨a, b, c, d⟩ := h1 i o e
    exact ⟨a, b, w.nw _ c d.there, d.mono w.ss (w.hh _)⟩
theorem RE.set (R : RE mg S0 H0 S H σ ρ) {i : Nat} {v : V} {d : D} (h : Rep mg S v d) : RE mg S0 H0 S H (σ.set i (some v)) (ρ.set i (.val d)) where
  wd := R.wd
  len := by simpa using R.len
  val := fun j e hj => by
    by_cases c : i = j
    · subst c
      by_cases hi : i < ρ.length
      · rw [List.getElem?_set_self hi] at hj
        have hi' : i < σ.length := by rw [← R.len]; exact hi
        rw [List.getElem?_set_self hi']
        cases hj
        exact ⟨v, rfl, h⟩
      · rw [List.getElem?_eq_none (by simpa using hi)] at hj; cases hj
    · rw [List.getElem?_set_ne c] at hj ⊢
      exact R.val j e hj
  own := by
    obtain ⟨A, h1, h2⟩ := R.own
    have old : ∀ (j : Nat) (o : Ow), (ρ.set i (.val d))[j]? = some (.own o) → i ≠ j ∧ ρ[j]? = some (.own o) := fun j o hj => by
      by_cases c : i = j
      · subst c
        by_cases hi : i < ρ.length
        · rw [List.getElem?_set_self hi] at hj; cases hj
        · rw [List.getElem?_eq_none (by simpa using hi)] at hj; cases hj
      · rw [List.getElem?_set_ne c] at hj; exact ⟨c, hj⟩
    refine ⟨A, fun j o hj => ?_, fun j k o o' hj hk => h2 j k o o' (old j o hj).2 (old k o' hk).2⟩
    obtain ⟨c, hj⟩ := old j o hj
    rw [List.getElem?_set_ne c]
    exact h1 j o hj
/-- a new object of our own comes into slot i -/
theorem RE.setOwn (R : RE mg S0 H0 S H σ ρ) {i : Nat} {p : Addr} {o : Ow} (w : Wd S H S' H') (hp : H p = none) (hs : S' p = none) (h : OwAt mg S' H' p o) :
    RE mg S0 H0 S' H' (σ.set i (some (.ref p))) (ρ.set i (.own o)) := by
  have R' := R.grow w
  obtain ⟨A, h1, h2⟩ := R'.own
  have hne : ∀ (j : Nat) (o : Ow), ρ[j]? = some (.own o) → A j ≠ p := fun j o hj z => by
    obtain ⟨B, g1, _⟩ := R.own
    obtain ⟨e1, _, _, e4⟩ := g1 j o hj
    obtain ⟨e1', _, _, _⟩ := h1 j o hj
    have q : A j = B j := by
      rw [e1] at e1'
      have := Option.some.inj (Option.some.inj e1')
      injection this with this
      exact this.symm
    rw [← q, z] at e4
    exact e4.there hp
  refine ⟨R'.wd, by simpa using R.len, fun j d hj => ?_, fun j => if j = i then p else A j, fun j o' hj => ?_, fun j k o1 o2 hj hk hjk => ?_⟩
  · by_cases c : i = j
    · subst c
      by_cases hi : i < ρ.length
      · rw [List.getElem?_set_self hi] at hj; cases hj
      · rw [List.getElem?_eq_none (by simpa using hi)] at hj; cases hj
    · rw [List.getElem?_set_ne c] at hj ⊢
      exact R'.val j d hj
  · by_cases c : i = j
    · subst c
      by_cases hi : i < ρ.length
      · rw [List.getElem?_set_self hi] at hj
        have hi' : i < σ.length := by rw [← R.len]; exact hi
        rw [List.getElem?_set_self hi']
        cases hj
        dsimp only
        rw [if_pos rfl]
        exact ⟨rfl, R.wd.free hp, hs, h⟩
      · rw [List.getElem?_eq_none (by simpa using hi)] at hj; cases hj
    · rw [List.getElem?_set_ne c] at hj ⊢
      dsimp only
      rw [if_neg (Ne.symm c)]
      exact h1 j o' hj
  · dsimp only
    by_cases cj : i = j
    · subst cj
      rw [if_pos rfl, if_neg (Ne.symm hjk)]
      rw [List.getElem?_set_ne hjk] at hk
      exact (hne k o2 hk).symm
    · rw [if_neg (Ne.symm cj)]
      rw [List.getElem?_set_ne cj] at hj
      by_cases ck : i = k
      · rw [if_pos ck.symm]
        exact hne j o1 hj
      · rw [if_neg (Ne.symm ck)]
        rw [List.getElem?_set_ne ck] at hk
        exact h2 j k o1 o2 hj hk hjk
/-- an object of our own is changed in its place -/
theorem RE.mut (R : RE mg S0 H0 S H σ ρ) {i : Nat} {p : Addr} {o o' : Ow} {u : HO} (hi : ρ[i]? = some (.own o)) (hp : σ[i]? = some (some (.ref p))) (h : OwAt mg S (upd H p u) p o') :
    RE mg S0 H0 S (upd H p u) σ (ρ.set i (.own o')) := by
  obtain ⟨A, h1, h2⟩ := R.own
  obtain ⟨e1, e2, e3, e4⟩ := h1 i o hi
  have ep : A i = p := by
    rw [e1] at hp
    have := Option.some.inj (Option.some.inj hp)
    injection this
  have hil : i < ρ.length := (List.getElem?_eq_some_iff.mp hi).1
  refine ⟨R.wd.mut u (ep ▸ e2) (ep ▸ e3), by simpa using R.len, fun j d hj => ?_, A, fun j o1 hj => ?_, fun j k o1 o2 hj hk hjk => ?_⟩
  · by_cases c : i = j
    · subst c
      rw [List.getElem?_set_self hil] at hj; cases hj
    · rw [List.getElem?_set_ne c] at hj
      exact R.val j d hj
  · by_cases c : i = j
    · subst c
      rw [List.getElem?_set_self hil] at hj
      cases hj
      exact ⟨e1, e2, e3, ep ▸ h⟩
    · rw [List.getElem?_set_ne c] at hj
      obtain ⟨a1, a2, a3, a4⟩ := h1 j o1 hj
      refine ⟨a1, a2, a3, a4.mono (Same.refl _) fun v hv => ?_⟩
      rw [upd_ne (by rw [← ep]; exact h2 j i o1 o hj hi (Ne.symm c))]
      exact hv
  · have there : ∀ (j : Nat) (o1 : Ow), (ρ.set i (.own o'))[j]? = some (.own o1) → ∃ o2, ρ[j]? = some (.own o2) := fun j o1 hj => by
      by_cases c : i = j
      · subst c; exact ⟨o, hi⟩
      · rw [List.getElem?_set_ne c] at hj; exact ⟨o1, hj⟩
    obtain ⟨_, q1⟩ := there j o1 hj
    obtain ⟨_, q2⟩ := there k o2 hk
    exact h2 j k _ _ q1 q2 hjk
/-- where an object of our own stands -/
theorem RE.at (R : RE mg S0 H0 S H σ ρ) {i : Nat} {o : Ow} (hi : ρ[i]? = some (.own o)) : ∃ p, σ[i]? = some (some (.ref p)) ∧ H0 p = none ∧ S p = none ∧ OwAt mg S H p o := by
  obtain ⟨A, h1, _⟩ := R.own
  exact ⟨A i, h1 i o hi⟩
/-- slots forgotten -/
theorem RE.weak (R : RE mg S0 H0 S H σ ρ) {ρ' : En} (hl : ρ'.length = ρ.length) (h : ∀ (i : Nat) (s : Sl), ρ'[i]? = some s → s = .em ∨ ρ[i]? = some s) : RE mg S0 H0 S H σ ρ' := by
  obtain ⟨A, h1, h2⟩ := R.own
  have old : ∀ (i : Nat) (o : Ow), ρ'[i]? = some (.own o) → ρ[i]? = some (.own o) := fun i o e => (h i _ e).resolve_left (by intro z; cases z)
  exact ⟨R.wd, hl.trans R.len, fun i d e => R.val i d ((h i _ e).resolve_left (by intro z; cases z)), A, fun i o e => h1 i o (old i o e), fun i j o o' a b => h2 i j o o' (old i o a) (old j o' b)⟩
/-- what an object of our own is as a value, once it is changed no more -/
def Ow.d : Ow → D
  | .lst l => .lst l
  | .ins C fs => .ins C fs
theorem OwAt.ho {a : Addr} {o : Ow} (h : OwAt mg S H a o) : ∃ u, H a = some u ∧ ∀ S', Same S S' → S' a = some u → Rep mg S' (.ref a) o.d := by
  cases o with
  | lst l => obtain ⟨vs, e, r⟩ := h; exact ⟨_, e, fun S' ss q => .lst (.inl q) (r.mono ss)⟩
  | ins C fs => obtain ⟨c, dx, gs, q, e, r⟩ := h; exact ⟨_, e, fun S' ss q' => .ins q q' (r.mono ss)⟩
theorem RE.frz (R : RE mg S0 H0 S H σ ρ) {i : Nat} {o : Ow} (hi : ρ[i]? = some (.own o)) : ∃ S', Wd S0 H0 S' H ∧ Same S S' ∧ RE mg S0 H0 S' H σ (ρ.set i (.val o.d)) := by
  obtain ⟨A, h1, h2⟩ := R.own
  obtain ⟨e1, e2, e3, e4⟩ := h1 i o hi
  obtain ⟨u, hu, hr⟩ := e4.ho
  have w := R.wd.frz e2 hu e3
  have ss : Same S (upd S (A i) u) := fun q v e => by
    rw [upd_ne (ne_of_none e e3)]; exact e
  have hil : i < ρ.length := (List.getElem?_eq_some_iff.mp hi).1
  refine ⟨upd S (A i) u, w, ss, w, by simpa using R.len, fun j d hj => ?_, A, fun j o1 hj => ?_, fun j k o1 o2 hj hk => ?_⟩
  · by_cases c : i = j
    · subst c
      rw [List.getElem?_set_self hil] at hj
      cases hj
      exact ⟨_, e1, hr _ ss upd_same⟩
    · rw [List.getElem?_set_ne c] at hj
      obtain ⟨v, a, b⟩ := R.val j d hj
      exact ⟨v, a, b.mono ss⟩
  · by_cases c : i = j
    · subst c; rw [List.getElem?_set_self hil] at hj; cases hj
    · rw [List.getElem?_set_ne c] at hj
      obtain ⟨a1, a2, a3, a4⟩ := h1 j o1 hj
      exact ⟨a1, a2, by rw [upd_ne (h2 j i o1 o hj hi (Ne.symm c))]; exact a3, a4.mono ss fun _ q => q⟩
  · have old : ∀ (j : Nat) (o1 : Ow), (ρ.set i (.val o.d))[j]? = some (.own o1) → ρ[j]? = some (.own o1) := fun j o1 hj => by
      by_cases c : i = j
      · subst c; rw [List.getElem?_set_self hil] at hj; cases hj
      · rw [List.getElem?_set_ne c] at hj; exact hj
    exact h2 j k o1 o2 (old j o1 hj) (old k o2 hk)
end
end Z

/-! Z: what expressions do, told of data. -/
namespace Z
open PySem PySem.Spec PyProof.Rows L2

/-- what is wanted of an exception: its class by name, its fields -/
abbrev Xd := Str → List (Str × D) → Prop
abbrev NoX : Xd := fun _ _ => False
abbrev TEd := En → (D → Prop) → Xd → Prop
abbrev TTd := En → (Bool → Prop) → Xd → Prop
abbrev TAd := En → (List D → Prop) → Xd → Prop
abbrev O2 := D → D → (D → Prop) → Prop
abbrev W0 : WX := fun _ _ _ _ => False

def RepX (mg : Mg) (S H : Hp) (d' : Option Addr) (fs : List (Str × D)) : Prop :=
  (d' = none ∧ fs = []) ∨ ∃ dd gs, d' = some dd ∧ H dd = some (.xd gs) ∧ RepF mg S gs fs
def vOk (mg : Mg) (S H : Hp) (P : D → Prop) (Q : VK) : Prop := ∀ d, P d → ∀ v S' H', Wd S H S' H' → Rep mg S' v d → Q v H'
def bOk (S H : Hp) (P : Bool → Prop) (Q : Bool → Hp → Prop) : Prop := ∀ b, P b → ∀ S' H', Wd S H S' H' → Q b H'
def aOk (mg : Mg) (S H : Hp) (P : List D → Prop) (Q : List V → Hp → Prop) : Prop := ∀ ds, P ds → ∀ vs S' H', Wd S H S' H' → Reps mg S' vs ds → Q vs H'
/-- a new list -/
def fOk (mg : Mg) (S H : Hp) (P : List D → Prop) (Q : VK) : Prop := ∀ l, P l → ∀ p vs S' H', Wd S H S' H' → H p = none → S' p = none → H' p = some (.lst vs) → Reps mg S' vs l → Q (.ref p) H'
def xOk (mg : Mg) (W : WX) (σ : L2.St) (S H : Hp) (Xp : Xd) : Prop :=
  ∀ C fs, Xp C fs → ∀ c d' S' H', mg.m C = some (.ref c) → Wd S H S' H' → RepX mg S' H' d' fs → W (.ref c) d' σ H'
def liftE (mg : Mg) (W : WX) (te : TEd) : TE := fun σ H Q => ∃ S0 H0 S ρ P Xp, RE mg S0 H0 S H σ ρ ∧ te ρ P Xp ∧ vOk mg S H P Q ∧ xOk mg W σ S H Xp
def liftT (mg : Mg) (W : WX) (tt : TTd) : TT := fun σ H Q => ∃ S0 H0 S ρ P Xp, RE mg S0 H0 S H σ ρ ∧ tt ρ P Xp ∧ bOk S H P Q ∧ xOk mg W σ S H Xp
def liftA (mg : Mg) (W : WX) (ta : TAd) : TA := fun σ H Q => ∃ S0 H0 S ρ P Xp, RE mg S0 H0 S H σ ρ ∧ ta ρ P Xp ∧ aOk mg S H P Q ∧ xOk mg W σ S H Xp
def liftF (mg : Mg) (W : WX) (tf : TAd) : TE := fun σ H Q => ∃ S0 H0 S ρ P Xp, RE mg S0 H0 S H σ ρ ∧ tf ρ P Xp ∧ fOk mg S H P Q ∧ xOk mg W σ S H Xp

section
variable {mg : Mg} {W : WX} {σ : L2.St} {S H S' H' : Hp} {P : D → Prop} {Q : VK} {Xp : Xd}
theorem vOk.grow (k : vOk mg S H P Q) (w : Wd S H S' H') : vOk mg S' H' P Q := fun d h v S2 H2 w2 r => k d h v S2 H2 (w.trans w2) r
theorem bOk.grow {P : Bool → Prop} {Q : Bool → Hp → Prop} (k : bOk S H P Q) (w : Wd S H S' H') : bOk S' H' P Q := fun d h S2 H2 w2 => k d h S2 H2 (w.trans w2)
theorem aOk.grow {P : List D → Prop} {Q : List V → Hp → Prop} (k : aOk mg S H P Q) (w : Wd S H S' H') : aOk mg S' H' P Q := fun d h v S2 H2 w2 r => k d h v S2 H2 (w.trans w2) r
theorem fOk.grow {P : List D → Prop} (k : fOk mg S H P Q) (w : Wd S H S' H') : fOk mg S' H' P Q := fun d h p vs S2 H2 w2 hp r => k d h p vs S2 H2 (w.trans w2) (w.free hp) r
theorem xOk.grow (k : xOk mg W σ S H Xp) (w : Wd S H S' H') : xOk mg W σ S' H' Xp := fun C fs h c d' S2 H2 e w2 r => k C fs h c d' S2 H2 e (w.trans w2) r
/-- a new list that is changed no more -/
theorem vOk.frz (k : vOk mg S H P Q) : fOk mg S H (fun l => P (.lst l)) Q := fun l h p vs S2 H2 w hp hs e r => by
  have ss : Same S2 (upd S2 p (.lst vs)) := fun q v e => by rw [upd_ne (ne_of_none e hs)]; exact e
  exact k _ h _ _ _ (w.frz hp e hs) (.lst (.inl upd_same) (r.mono ss))
theorem xOk.no : xOk mg W σ S H NoX := fun _ _ h => h.elim
end

theorem PE.weak {X : Cx} {e : Expr} {t t' : TE} (h : PE X e t) (w : ∀ σ H Q, t' σ H Q → t σ H Q) : PE X e t' := ⟨fun p s σ H Q I q => h.run p s σ H Q I (w σ H Q q)⟩
theorem PT.weak {X : Cx} {e : Expr} {t t' : TT} (h : PT X e t) (w : ∀ σ H Q, t' σ H Q → t σ H Q) : PT X e t' := ⟨fun p s σ H Q I q => h.run p s σ H Q I (w σ H Q q)⟩
theorem PW.weak {X : Cx} {e : Expr} {t t' : TT} (h : PW X e t) (w : ∀ σ H Q, t' σ H Q → t σ H Q) : PW X e t' := ⟨fun u p s σ H Q I q => h.run u p s σ H Q I (w σ H Q q)⟩
theorem PA.weak {X : Cx} {e : List Expr} {t t' : TA} (h : PA X e t) (w : ∀ σ H Q, t' σ H Q → t σ H Q) : PA X e t' := ⟨fun u p s σ H Q I q => h.run u p s σ H Q I (w σ H Q q)⟩

abbrev DE (X : Cx) (W : WX) (e : Expr) (te : TEd) : Prop := PE X e (liftE (gd X) W te)
abbrev DT (X : Cx) (W : WX) (e : Expr) (tt : TTd) : Prop := PT X e (liftT (gd X) W tt)
abbrev DW (X : Cx) (W : WX) (e : Expr) (tt : TTd) : Prop := PW X e (liftT (gd X) W tt)
abbrev DA (X : Cx) (W : WX) (es : List Expr) (ta : TAd) : Prop := PA X es (liftA (gd X) W ta)
abbrev DF (X : Cx) (W : WX) (e : Expr) (tf : TAd) : Prop := PE X e (liftF (gd X) W tf)

/-! ### names and constants -/
def eVar (i : Nat) : TEd := fun ρ P _ => ∃ d, ρ[i]? = some (.val d) ∧ P d
def eC (d : D) : TEd := fun _ P _ => P d
section
variable {X : Cx} {W : WX} {pos : Pos} {mg : Mg}
theorem vOk.now {S0 H0 S H : Hp} {σ : L2.St} {ρ : En} {P : D → Prop} {Q : VK} (k : vOk mg S H P Q) (R : RE mg S0 H0 S H σ ρ) {d : D} (h : P d) {v : V} (r : Rep mg S v d) : Q v H := k d h v S H (.refl R.wd.sh) r
theorem de_name {e : Expr} {i : Nat} (h : PE X e (tVar i)) : DE X W e (eVar i) := PE.weak h fun σ H Q ⟨S0, H0, S, ρ, P, Xp, R, ⟨d, hd, hP⟩, k, _⟩ => by
  obtain ⟨v, hv, r⟩ := R.val i d hd
  exact ⟨v, hv, k.now R hP r⟩
theorem de_c {e : Expr} {v : V} {d : D} (h : PE X e (tC v)) (r : ∀ S, Rep (gd X) S v d) : DE X W e (eC d) := PE.weak h fun σ H Q ⟨S0, H0, S, ρ, P, Xp, R, hP, k, _⟩ => k.now R hP (r S)
theorem de_int {i j} : DE X W (.Constant (.int i) j pos) (eC (.int i)) := de_c pe_int fun _ => .int i
theorem de_bl {b j} : DE X W (.Constant (.bool b) j pos) (eC (.bl b)) := de_c pe_bl fun _ => .bl b
theorem de_non {j} : DE X W (.Constant .none j pos) (eC .non) := de_c pe_non fun _ => .non
theorem de_str {x j} : DE X W (.Constant (.str x) j pos) (eC (.str x)) := de_c pe_str fun _ => .str x
theorem de_gl {x : Str} {a : Addr} (hg : Gl X x) (hm : X.mg x = some (.ref a)) (hd : (x == ("__debug__" : Str)) = false := by decide) : DE X W (.Name x pos) (eC (.gl x)) :=
  de_c (pe_glob (v := .ref a) hg hm rfl hd) fun _ => .gl hm
theorem de_ty {x : Str} {n : String} (hg : Gl X x) (hm : X.mg x = none) (hv : bootBuiltins x = some (.type n)) (hn : x ≠ "__name__" := by decide) (hd : (x == ("__debug__" : Str)) = false := by decide) : DE X W (.Name x pos) (eC (.ty n)) :=
  de_c (pe_bltn (v := .ty n) hg hm hv rfl hn hd) fun _ => .ty n
/-! ### operators by values -/
def rL (mg : Mg) (o : O2) : R2 := fun x y H Q => ∃ S dx dy P, Same S H ∧ Rep mg S x dx ∧ Rep mg S y dy ∧ o dx dy P ∧ vOk mg S H P Q
def uL (mg : Mg) (o : D → (D → Prop) → Prop) : V → Hp → VK → Prop := fun x H Q => ∃ S dx P, Same S H ∧ Rep mg S x dx ∧ o dx P ∧ vOk mg S H P Q
def eOp (o : O2) (a b : TEd) : TEd := fun ρ P Xp => a ρ (fun x => b ρ (fun y => o x y P) Xp) Xp
def eUn (o : D → (D → Prop) → Prop) (a : TEd) : TEd := fun ρ P Xp => a ρ (fun x => o x P) Xp
theorem lift_op {o : O2} {ta tb : TEd} (σ : L2.St) (H : Hp) (Q : VK) (h : liftE mg W (eOp o ta tb) σ H Q) : tOp (rL mg o) (liftE mg W ta) (liftE mg W tb) σ H Q := by
  obtain ⟨S0, H0, S, ρ, P, Xp, R, h, k, x⟩ := h
  exact ⟨S0, H0, S, ρ, _, Xp, R, h, fun d hd v S1 H1 w1 r1 => ⟨S0, H0, S1, ρ, _, Xp, R.grow w1, hd, fun d2 hd2 v2 S2 H2 w2 r2 => ⟨S2, d, d2, P, w2.sh, r1.mono w2.ss, r2, hd2, k.grow (w1.trans w2)⟩, x.grow w1⟩, x⟩
theorem lift_un {o : D → (D → Prop) → Prop} {ta : TEd} (σ : L2.St) (H : Hp) (Q : VK) (h : liftE mg W (eUn o ta) σ H Q) : tUn (uL mg o) (liftE mg W ta) σ H Q := by
  obtain ⟨S0, H0, S, ρ, P, Xp, R, h, k, x⟩ := h
  exact ⟨S0, H0, S, ρ, _, Xp, R, h, fun d hd v S1 H1 w1 r1 => ⟨S1, d, P, w1.sh, r1, hd, k.grow w1⟩, x⟩
variable {a b c : Expr} {ta tb tc : TEd}
theorem de_op {op : Operator} {o : O2} (ho : OpR X (binaryOp op) (rL (gd X) o)) (ha : DE X W a ta) (hb : DE X W b tb) : DE X W (.BinOp a op b pos) (eOp o ta tb) := PE.weak (pe_op ho ha hb) lift_op
theorem de_un {op : UnaryOp} {o : D → (D → Prop) → Prop} (ho : UnR X (unaryOp op) (uL (gd X) o)) (ha : DE X W a ta) : DE X W (.UnaryOp op a pos) (eUn o ta) := PE.weak (pe_un ho ha) lift_un
theorem de_cmp {op : CmpOp} {o : O2} (ho : OpR X (compareOp op) (rL (gd X) o)) (ha : DE X W a ta) (hb : DE X W b tb) (hm : behindInMarks op b = false) : DE X W (.Compare a [op] [b] pos) (eOp o ta tb) := PE.weak (pe_cmpR ho ha hb hm) lift_op
/-- a bool as a test -/
def isBl (d : D) (P : Bool → Prop) : Prop := match d with | .bl b => P b | _ => False
def caseB (d : D) (T F : Prop) : Prop := match d with | .bl true => T | .bl false => F | _ => False
def tBl (t : TEd) : TTd := fun ρ P Xp => t ρ (fun d => isBl d P) Xp
theorem Rep.bl_inv {S : Hp} {v : V} {b : Bool} (h : Rep mg S v (.bl b)) : v = .bl b := by cases h; rfl
theorem Rep.int_inv {S : Hp} {v : V} {b : Int} (h : Rep mg S v (.int b)) : v = .int b := by cases h; rfl
theorem Rep.str_inv {S : Hp} {v : V} {b : Str} (h : Rep mg S v (.str b)) : v = .str b := by cases h; rfl
theorem Rep.non_inv {S : Hp} {v : V} (h : Rep mg S v .non) : v = .non := by cases h; rfl
theorem lift_tBl {t : TEd} (σ : L2.St) (H : Hp) (Q : Bool → Hp → Prop) (h : liftT mg W (tBl t) σ H Q) : liftE mg W t σ H fun x H1 => ∃ c, x = .bl c ∧ Q c H1 := by
  obtain ⟨S0, H0, S, ρ, P, Xp, R, h, k, x⟩ := h
  refine ⟨S0, H0, S, ρ, _, Xp, R, h, fun d hd v S1 H1 w1 r1 => ?_, x⟩
  cases d with
  | bl b => exact ⟨b, r1.bl_inv, k b hd S1 H1 w1⟩
  | _ => exact hd.elim
theorem dt_cmp {op : CmpOp} {o : O2} (ho : OpR X (compareOp op) (rL (gd X) o)) (ha : DE X W a ta) (hb : DE X W b tb) (hm : behindInMarks op b = false) : DT X W (.Compare a [op] [b] pos) (tBl (eOp o ta tb)) :=
  PT.weak (pt_cmpR ho ha hb hm) fun σ H Q h => by
    have q := lift_tBl σ H Q h
    exact lift_op σ H _ q
/-- a op1 b op2 c -/
def eCh (o o' : O2) (a b c : TEd) : TEd := fun ρ P Xp => a ρ (fun x => b ρ (fun y => o x y fun z => caseB z (c ρ (fun w => o' y w P) Xp) (P (.bl false))) Xp) Xp
theorem lift_ch {o o' : O2} (σ : L2.St) (H : Hp) (Q : VK) (h : liftE mg W (eCh o o' ta tb tc) σ H Q) : tChain (rL mg o) (rL mg o') (liftE mg W ta) (liftE mg W tb) (liftE mg W tc) σ H Q := by
  obtain ⟨S0, H0, S, ρ, P, Xp, R, h, k, x⟩ := h
  refine ⟨S0, H0, S, ρ, _, Xp, R, h, fun d hd v S1 H1 w1 r1 => ⟨S0, H0, S1, ρ, _, Xp, R.grow w1, hd, fun d2 hd2 v2 S2 H2 w2 r2 => ⟨S2, d, d2, _, w2.sh, r1.mono w2.ss, r2, hd2, fun d3 hd3 v3 S3 H3 w3 r3 => ?_⟩, x.grow w1⟩, x⟩
  match d3, hd3 with
  | .bl true, hd3 =>
    refine ⟨true, r3.bl_inv, ?_⟩
    rw [if_pos rfl]
    have w := (w1.trans w2).trans w3
    exact ⟨S0, H0, S3, ρ, _, Xp, R.grow w, hd3, fun d4 hd4 v4 S4 H4 w4 r4 => ⟨S4, d2, d4, P, w4.sh, r2.mono (w3.ss.trans w4.ss), r4, hd4, k.grow (w.trans w4)⟩, x.grow w⟩
  | .bl false, hd3 =>
    refine ⟨false, r3.bl_inv, ?_⟩
    rw [if_neg Bool.false_ne_true]
    exact k _ hd3 _ _ _ ((w1.trans w2).trans w3) (.bl false)
theorem de_chain {op op' : CmpOp} {o o' : O2} (ho : OpR X (compareOp op) (rL (gd X) o)) (ho' : OpR X (compareOp op') (rL (gd X) o')) (ha : DE X W a ta) (hb : DE X W b tb) (hc : DE X W c tc)
    (hm : lastMarks [op, op'] [b, c] = false := by with_unfolding_all rfl) : DE X W (.Compare a [op, op'] [b, c] pos) (eCh o o' ta tb tc) := PE.weak (pe_chain ho ho' ha hb hc hm) lift_ch
theorem dt_chain {op op' : CmpOp} {o o' : O2} (ho : OpR X (compareOp op) (rL (gd X) o)) (ho' : OpR X (compareOp op') (rL (gd X) o')) (ha : DE X W a ta) (hb : DE X W b tb) (hc : DE X W c tc)
    (hm : lastMarks [op, op'] [b, c] = false := by with_unfolding_all rfl) : DT X W (.Compare a [op, op'] [b, c] pos) (tBl (eCh o o' ta tb tc)) :=
  PT.weak (pt_chain ho ho' ha hb hc hm) fun σ H Q h => by
    have q := lift_tBl σ H Q h
    exact lift_ch σ H _ q
theorem dt_val {e : Expr} {t : TEd} (h : DE X W e t) (he : ∀ whole, isTrue e X.env whole = (do let v ← whole; standAt e.pos; holding [v] (truthy v)) := by intro _; rfl) : DT X W e (tBl t) :=
  PT.weak (pt_val h he) fun σ H Q h => lift_tBl σ H Q h
/-- a value's truth -/
def truP (d : D) (P : Bool → Prop) : Prop := match d with
  | .non => P false
  | .bl b => P b
  | .int i => P (i != 0)
  | .str y => y.length ≤ sizeLine ∧ P ((y.length : Int) != 0)
  | .lst l => P (!l.isEmpty)
  | .tup l => P (!l.isEmpty)
  | _ => False
def tTr (t : TEd) : TTd := fun ρ P Xp => t ρ (fun d => truP d P) Xp
theorem Reps.isEmpty {S : Hp} {vs : List V} {ds : List D} (h : Reps mg S vs ds) : vs.isEmpty = ds.isEmpty := by cases h <;> rfl
theorem tru_of {K : PySem.W.Frag} {S H : Hp} {v : V} {d : D} {P : Bool → Prop} (r : Rep mg S v d) (sh : Same S H) (h : truP d P) : ∃ k, TruV K v H k ∧ P k := by
  cases r with
  | non => exact ⟨false, rfl, h⟩
  | bl b => exact ⟨b, rfl, h⟩
  | int i => exact ⟨_, rfl, h⟩
  | str x => exact ⟨_, ⟨h.1, rfl⟩, h.2⟩
  | tup e q => exact ⟨_, .inr (.inl ⟨_, .inl (.inl (sh _ _ e)), rfl⟩), by rw [q.isEmpty]; exact h⟩
  | lst e q => exact ⟨_, .inl ⟨_, .inl (rd_mono sh e), rfl⟩, by rw [q.isEmpty]; exact h⟩
  | _ => exact h.elim
theorem dt_tr {e : Expr} {t : TEd} (h : DE X W e t) (he : ∀ whole, isTrue e X.env whole = (do let v ← whole; standAt e.pos; holding [v] (truthy v)) := by intro _; rfl) : DT X W e (tTr t) :=
  PT.weak (pt_truth h he) fun σ H Q ⟨S0, H0, S, ρ, P, Xp, R, h, k, x⟩ => ⟨S0, H0, S, ρ, _, Xp, R, h, fun d hd v S1 H1 w1 r1 => by
    obtain ⟨b, h1, h2⟩ := tru_of r1 w1.sh hd
    exact ⟨b, h1, k b h2 S1 H1 w1⟩, x⟩
/-! ### and, or, not -/
def tAnd (t u : TTd) : TTd := fun ρ P Xp => t ρ (fun b => if b = true then u ρ P Xp else P false) Xp
def tOr (t u : TTd) : TTd := fun ρ P Xp => t ρ (fun b => if b = true then P true else u ρ P Xp) Xp
def tNot (t : TTd) : TTd := fun ρ P Xp => t ρ (fun b => P (!b)) Xp
variable {tA tB' : TTd} {rest : List Expr}
theorem dw_and1 (ha : DT X W a tA) : DW X W (.BoolOp .And [a] pos) tA := pw_and1 ha
theorem dw_or1 (ha : DT X W a tA) : DW X W (.BoolOp .Or [a] pos) tA := pw_or1 ha
theorem dw_and (ha : DT X W a tA) (hb : DW X W (.BoolOp .And (b :: rest) pos) tB') : DW X W (.BoolOp .And (a :: b :: rest) pos) (tAnd tA tB') := PW.weak (pw_and ha hb) fun σ H Q ⟨S0, H0, S, ρ, P, Xp, R, h, k, x⟩ =>
  ⟨S0, H0, S, ρ, _, Xp, R, h, fun b hd S1 H1 w1 => by
    cases b with
    | true => rw [if_pos rfl] at hd ⊢; exact ⟨S0, H0, S1, ρ, P, Xp, R.grow w1, hd, k.grow w1, x.grow w1⟩
    | false => rw [if_neg Bool.false_ne_true] at hd ⊢; exact k _ hd _ _ w1, x⟩
theorem dw_or (ha : DT X W a tA) (hb : DW X W (.BoolOp .Or (b :: rest) pos) tB') : DW X W (.BoolOp .Or (a :: b :: rest) pos) (tOr tA tB') := PW.weak (pw_or ha hb) fun σ H Q ⟨S0, H0, S, ρ, P, Xp, R, h, k, x⟩ =>
  ⟨S0, H0, S, ρ, _, Xp, R, h, fun b hd S1 H1 w1 => by
    cases b with
    | true => rw [if_pos rfl] at hd ⊢; exact k _ hd _ _ w1
    | false => rw [if_neg Bool.false_ne_true] at hd ⊢; exact ⟨S0, H0, S1, ρ, P, Xp, R.grow w1, hd, k.grow w1, x.grow w1⟩, x⟩
theorem dt_w {e : Expr} (h : DW X W e tA) : DT X W e tA := h.pt
theorem dt_not (ha : DT X W a tA) : DT X W (.UnaryOp .Not a pos) (tNot tA) := PT.weak (pt_not ha) fun σ H Q ⟨S0, H0, S, ρ, P, Xp, R, h, k, x⟩ =>
  ⟨S0, H0, S, ρ, _, Xp, R, h, fun b hd S1 H1 w1 => k _ hd _ _ w1, x⟩
/-- .. as values -/
def eAnd (a b : TEd) : TEd := fun ρ P Xp => a ρ (fun d => caseB d (b ρ P Xp) (P (.bl false))) Xp
def eOr (a b : TEd) : TEd := fun ρ P Xp => a ρ (fun d => caseB d (P (.bl true)) (b ρ P Xp)) Xp
def eNot (a : TEd) : TEd := fun ρ P Xp => a ρ (fun d => isBl d fun b => P (.bl (!b))) Xp
theorem de_one {op} {t : TEd} (h : DE X W a t) : DE X W (.BoolOp op [a] pos) t := pe_one h
theorem de_and (ha : DE X W a ta) (hb : DE X W (.BoolOp .And (b :: rest) pos) tb) : DE X W (.BoolOp .And (a :: b :: rest) pos) (eAnd ta tb) := PE.weak (pe_and ha hb) fun σ H Q ⟨S0, H0, S, ρ, P, Xp, R, h, k, x⟩ =>
  ⟨S0, H0, S, ρ, _, Xp, R, h, fun d hd v S1 H1 w1 r1 => by
    match d, hd with
    | .bl true, hd => exact ⟨true, r1.bl_inv, by rw [if_pos rfl]; exact ⟨S0, H0, S1, ρ, P, Xp, R.grow w1, hd, k.grow w1, x.grow w1⟩⟩
    | .bl false, hd => exact ⟨false, r1.bl_inv, by rw [if_neg Bool.false_ne_true]; exact k _ hd _ _ _ w1 (.bl _)⟩, x⟩
theorem de_or (ha : DE X W a ta) (hb : DE X W (.BoolOp .Or (b :: rest) pos) tb) : DE X W (.BoolOp .Or (a :: b :: rest) pos) (eOr ta tb) := PE.weak (pe_or ha hb) fun σ H Q ⟨S0, H0, S, ρ, P, Xp, R, h, k, x⟩ =>
  ⟨S0, H0, S, ρ, _, Xp, R, h, fun d hd v S1 H1 w1 r1 => by
    match d, hd with
    | .bl true, hd => exact ⟨true, r1.bl_inv, by rw [if_pos rfl]; exact k _ hd _ _ _ w1 (.bl _)⟩
    | .bl false, hd => exact ⟨false, r1.bl_inv, by rw [if_neg Bool.false_ne_true]; exact ⟨S0, H0, S1, ρ, P, Xp, R.grow w1, hd, k.grow w1, x.grow w1⟩⟩, x⟩
theorem de_not (ha : DE X W a ta) : DE X W (.UnaryOp .Not a pos) (eNot ta) := PE.weak (pe_not ha) fun σ H Q ⟨S0, H0, S, ρ, P, Xp, R, h, k, x⟩ =>
  ⟨S0, H0, S, ρ, _, Xp, R, h, fun d hd v S1 H1 w1 r1 => by
    match d, hd with
    | .bl b, hd => exact ⟨b, r1.bl_inv, k _ hd _ _ _ w1 (.bl _)⟩, x⟩
def eIf (t : TTd) (a b : TEd) : TEd := fun ρ P Xp => t ρ (fun c => if c = true then a ρ P Xp else b ρ P Xp) Xp
theorem de_if (hc : DT X W c tA) (ha : DE X W a ta) (hb : DE X W b tb) : DE X W (.IfExp c a b pos) (eIf tA ta tb) := PE.weak (pe_ifExp hc ha hb) fun σ H Q ⟨S0, H0, S, ρ, P, Xp, R, h, k, x⟩ =>
  ⟨S0, H0, S, ρ, _, Xp, R, h, fun c hd S1 H1 w1 => by
    cases c with
    | true => rw [if_pos rfl] at hd ⊢; exact ⟨S0, H0, S1, ρ, P, Xp, R.grow w1, hd, k.grow w1, x.grow w1⟩
    | false => rw [if_neg Bool.false_ne_true] at hd ⊢; exact ⟨S0, H0, S1, ρ, P, Xp, R.grow w1, hd, k.grow w1, x.grow w1⟩, x⟩
/-! ### argument lists, displays -/
def aNil : TAd := fun _ P _ => P []
def aCons (a : TEd) (r : TAd) : TAd := fun ρ P Xp => a ρ (fun d => r ρ (fun ds => P (d :: ds)) Xp) Xp
variable {e : Expr} {es : List Expr} {te : TEd} {tr : TAd}
theorem da_nil : DA X W [] aNil := PA.weak pa_nil fun σ H Q ⟨S0, H0, S, ρ, P, Xp, R, h, k, x⟩ => k _ h _ _ _ (.refl R.wd.sh) .nil
theorem da_cons (ha : DE X W e te) (hr : DA X W es tr) (hs : starEach (e :: es) X.env = (false, eval e X.env) :: starEach es X.env := by rfl) : DA X W (e :: es) (aCons te tr) := PA.weak (pa_cons ha hr hs) fun σ H Q ⟨S0, H0, S, ρ, P, Xp, R, h, k, x⟩ =>
  ⟨S0, H0, S, ρ, _, Xp, R, h, fun d hd v S1 H1 w1 r1 => ⟨S0, H0, S1, ρ, _, Xp, R.grow w1, hd, fun ds hds vs S2 H2 w2 r2 => k _ hds _ _ _ (w1.trans w2) (.cons (r1.mono w2.ss) r2), x.grow w1⟩, x⟩
/-- a new tuple -/
def eTup (t : TAd) : TEd := fun ρ P Xp => t ρ (fun ds => ds.length ≤ sizeLine ∧ P (.tup ds)) Xp
theorem vOk.tup {S H : Hp} {P : D → Prop} {Q : VK} (k : vOk mg S H P Q) {S' H' : Hp} (w : Wd S H S' H') {vs : List V} {ds : List D} (r : Reps mg S' vs ds) (h : P (.tup ds)) {p : Addr} (hp : H' p = none) : Q (.ref p) (upd H' p (.tup vs)) := by
  have ss : Same S' (upd S' p (.tup vs)) := fun q v e => by rw [upd_ne (ne_of_none (w.sh _ _ e) hp)]; exact e
  exact k _ h _ _ _ (w.new hp _) (.tup upd_same (r.mono ss))
theorem de_tup {x1} (h : DA X W es tr) : DE X W (.Tuple es x1 pos) (eTup tr) := PE.weak (pe_tup h) fun σ H Q ⟨S0, H0, S, ρ, P, Xp, R, h, k, x⟩ =>
  ⟨S0, H0, S, ρ, _, Xp, R, h, fun ds hd vs S1 H1 w1 r1 => ⟨by rw [r1.length]; exact hd.1, fun p hp => k.tup w1 r1 hd.2 hp⟩, x⟩
/-- a new list -/
theorem fOk.new {S H : Hp} {P : List D → Prop} {Q : VK} (k : fOk mg S H P Q) {S' H' : Hp} (w : Wd S H S' H') {vs : List V} {ds : List D} (r : Reps mg S' vs ds) (h : P ds) {p : Addr} (hp : H' p = none) : Q (.ref p) (upd H' p (.lst vs)) :=
  k _ h _ _ _ _ (w.mut _ (w.free hp) (w.sfree hp)) (w.free hp) (w.sfree hp) upd_same r
def fLst (t : TAd) : TAd := fun ρ P Xp => t ρ (fun ds => ds.length ≤ sizeLine ∧ P ds) Xp
theorem df_lst (h : DA X W es tr) : DF X W (.List es pos) (fLst tr) := PE.weak (pe_lst h) fun σ H Q ⟨S0, H0, S, ρ, P, Xp, R, h, k, x⟩ =>
  ⟨S0, H0, S, ρ, _, Xp, R, h, fun ds hd vs S1 H1 w1 r1 => ⟨by rw [r1.length]; exact hd.1, fun p hp => k.new w1 r1 hd.2 hp⟩, x⟩
/-- a new list as a value that is changed no more -/
def eF (t : TAd) : TEd := fun ρ P Xp => t ρ (fun l => P (.lst l)) Xp
theorem de_f {t : TAd} (h : DF X W e t) : DE X W e (eF t) := PE.weak h fun σ H Q ⟨S0, H0, S, ρ, P, Xp, R, h, k, x⟩ => ⟨S0, H0, S, ρ, _, Xp, R, h, k.frz, x⟩
/-! ### calls -/
abbrev Cd := List D → (D → Prop) → Prop
abbrev Fd := List D → (List D → Prop) → Prop
def cL (mg : Mg) (c : Cd) : List V → Hp → VK → Prop := fun vs H Q => ∃ S ds P, Same S H ∧ Reps mg S vs ds ∧ c ds P ∧ vOk mg S H P Q
def cF (mg : Mg) (c : Fd) : List V → Hp → VK → Prop := fun vs H Q => ∃ S ds P, Same S H ∧ Reps mg S vs ds ∧ c ds P ∧ fOk mg S H P Q
def eCB (c : Cd) (t : TAd) : TEd := fun ρ P Xp => t ρ (fun ds => c ds P) Xp
def fCB (c : Fd) (t : TAd) : TAd := fun ρ P Xp => t ρ (fun ds => c ds P) Xp
theorem lift_cb {c : Cd} {t : TAd} (σ : L2.St) (H : Hp) (Q : VK) (h : liftE mg W (eCB c t) σ H Q) : tCB (cL mg c) (liftA mg W t) σ H Q := by
  obtain ⟨S0, H0, S, ρ, P, Xp, R, h, k, x⟩ := h
  exact ⟨S0, H0, S, ρ, _, Xp, R, h, fun ds hd vs S1 H1 w1 r1 => ⟨S1, ds, P, w1.sh, r1, hd, k.grow w1⟩, x⟩
theorem lift_fb {c : Fd} {t : TAd} (σ : L2.St) (H : Hp) (Q : VK) (h : liftF mg W (fCB c t) σ H Q) : tCB (cF mg c) (liftA mg W t) σ H Q := by
  obtain ⟨S0, H0, S, ρ, P, Xp, R, h, k, x⟩ := h
  exact ⟨S0, H0, S, ρ, _, Xp, R, h, fun ds hd vs S1 H1 w1 r1 => ⟨S1, ds, P, w1.sh, r1, hd, k.grow w1⟩, x⟩
variable {x : Str} {p : Pos} {id T : String}
theorem de_callB {c : Cd} (hc : CallR X (.builtin id) (cL (gd X) c)) (hg : Gl X x) (hm : X.mg x = none) (hv : bootBuiltins x = some (.builtin id)) (ha : DA X W (e :: es) tr) (hn : x ≠ "__name__" := by decide) (hdb : (x == ("__debug__" : Str)) = false := by decide)
    (he : starEach (e :: es) X.env = (false, eval e X.env) :: starEach es X.env := by rfl) (hpl : (backTo pos (starEach es X.env)).any (·.1) = false := by rfl) : DE X W (.Call (.Name x p) (e :: es) [] pos) (eCB c tr) :=
  PE.weak (pe_callB hc hg hm hv ha hn hdb he hpl) lift_cb
theorem de_callTy {c : Cd} (hc : CallR X (.type T) (cL (gd X) c)) (hg : Gl X x) (hm : X.mg x = none) (hv : bootBuiltins x = some (.type T)) (ha : DA X W (e :: es) tr) (hn : x ≠ "__name__" := by decide) (hdb : (x == ("__debug__" : Str)) = false := by decide)
    (he : starEach (e :: es) X.env = (false, eval e X.env) :: starEach es X.env := by rfl) (hpl : (backTo pos (starEach es X.env)).any (·.1) = false := by rfl) : DE X W (.Call (.Name x p) (e :: es) [] pos) (eCB c tr) :=
  PE.weak (pe_callTy hc hg hm hv ha hn hdb he hpl) lift_cb
theorem df_callB {c : Fd} (hc : CallR X (.builtin id) (cF (gd X) c)) (hg : Gl X x) (hm : X.mg x = none) (hv : bootBuiltins x = some (.builtin id)) (ha : DA X W (e :: es) tr) (hn : x ≠ "__name__" := by decide) (hdb : (x == ("__debug__" : Str)) = false := by decide)
    (he : starEach (e :: es) X.env = (false, eval e X.env) :: starEach es X.env := by rfl) (hpl : (backTo pos (starEach es X.env)).any (·.1) = false := by rfl) : DF X W (.Call (.Name x p) (e :: es) [] pos) (fCB c tr) :=
  PE.weak (pe_callB hc hg hm hv ha hn hdb he hpl) lift_fb
theorem df_callTy {c : Fd} (hc : CallR X (.type T) (cF (gd X) c)) (hg : Gl X x) (hm : X.mg x = none) (hv : bootBuiltins x = some (.type T)) (ha : DA X W (e :: es) tr) (hn : x ≠ "__name__" := by decide) (hdb : (x == ("__debug__" : Str)) = false := by decide)
    (he : starEach (e :: es) X.env = (false, eval e X.env) :: starEach es X.env := by rfl) (hpl : (backTo pos (starEach es X.env)).any (·.1) = false := by rfl) : DF X W (.Call (.Name x p) (e :: es) [] pos) (fCB c tr) :=
  PE.weak (pe_callTy hc hg hm hv ha hn hdb he hpl) lift_fb
/-- a module's name for a built-in function -/
theorem de_callBfun {c : Cd} (hc : CallR X (.builtin id) (cL (gd X) c)) (hg : Gl X x) (hm : X.mg x = some (.builtin id)) (ha : DA X W (e :: es) tr) (hdb : (x == ("__debug__" : Str)) = false := by decide)
    (he : starEach (e :: es) X.env = (false, eval e X.env) :: starEach es X.env := by rfl) (hpl : (backTo pos (starEach es X.env)).any (·.1) = false := by rfl) : DE X W (.Call (.Name x p) (e :: es) [] pos) (eCB c tr) :=
  PE.weak (pe_callBfun hc hg hm ha hdb he hpl) lift_cb
/-! ### what a def promises, told of data -/
abbrev Spd := List D → (D → Prop) → Xd → Prop
def spL (mg : Mg) (n : Nat) (sp : Spd) : Sp := fun vs H Q E => vs.length = n ∧ ∃ S ds P Xp, Same S H ∧ Reps mg S vs ds ∧ sp ds P Xp ∧ vOk mg S H P Q ∧
  ∀ C fs, Xp C fs → ∀ c d' S' H', mg.m C = some (.ref c) → Wd S H S' H' → RepX mg S' H' d' fs → E (.ref c) d' H'
def eCall (n : Nat) (sp : Spd) (t : TAd) : TEd := fun ρ P Xp => t ρ (fun ds => ds.length = n ∧ sp ds P Xp) Xp
/-- .. of a def that hands back a new list -/
abbrev Spf := List D → (List D → Prop) → Xd → Prop
def spF (mg : Mg) (n : Nat) (sp : Spf) : Sp := fun vs H Q E => vs.length = n ∧ ∃ S ds P Xp, Same S H ∧ Reps mg S vs ds ∧ sp ds P Xp ∧ fOk mg S H P Q ∧
  ∀ C fs, Xp C fs → ∀ c d' S' H', mg.m C = some (.ref c) → Wd S H S' H' → RepX mg S' H' d' fs → E (.ref c) d' H'
def fCall (n : Nat) (sp : Spf) (t : TAd) : TAd := fun ρ P Xp => t ρ (fun ds => ds.length = n ∧ sp ds P Xp) Xp
variable {k : Nat} {f : Addr} {fd : FuncData} {ps : List Str}
theorem de_call {sp : Spd} {n : Nat} (F : FnOk X.prog X.w X.K X.mg X.base (L2.CX X.prog X.w) k f fd ps (spL (gd X) n sp)) (hr : Room k X.A) (hg : Gl X x) (hm : X.mg x = some (.ref f)) (hk : PySem.W.keepIn X.K (.ref f) = true) (hb : Binds X.K fd ps []) (tk : Takes X W)
    (ha : DA X W (e :: es) tr) (hdb : (x == ("__debug__" : Str)) = false := by decide) (he : starEach (e :: es) X.env = (false, eval e X.env) :: starEach es X.env := by rfl) (hpl : (backTo pos (starEach es X.env)).any (·.1) = false := by rfl) :
    DE X W (.Call (.Name x p) (e :: es) [] pos) (eCall n sp tr) :=
  PE.weak (pe_callS F hr hg hm hk hb (fun σ => passAt tk σ) ha hdb he hpl) fun σ H Q ⟨S0, H0, S, ρ, P, Xp, R, h, k, x⟩ =>
    ⟨S0, H0, S, ρ, _, Xp, R, h, fun ds hd vs S1 H1 w1 r1 => ⟨r1.length.trans hd.1, S1, ds, P, Xp, w1.sh, r1, hd.2, k.grow w1, x.grow w1⟩, x⟩
theorem df_call {sp : Spf} {n : Nat} (F : FnOk X.prog X.w X.K X.mg X.base (L2.CX X.prog X.w) k f fd ps (spF (gd X) n sp)) (hr : Room k X.A) (hg : Gl X x) (hm : X.mg x = some (.ref f)) (hk : PySem.W.keepIn X.K (.ref f) = true) (hb : Binds X.K fd ps []) (tk : Takes X W)
    (ha : DA X W (e :: es) tr) (hdb : (x == ("__debug__" : Str)) = false := by decide) (he : starEach (e :: es) X.env = (false, eval e X.env) :: starEach es X.env := by rfl) (hpl : (backTo pos (starEach es X.env)).any (·.1) = false := by rfl) :
    DF X W (.Call (.Name x p) (e :: es) [] pos) (fCall n sp tr) :=
  PE.weak (pe_callS F hr hg hm hk hb (fun σ => passAt tk σ) ha hdb he hpl) fun σ H Q ⟨S0, H0, S, ρ, P, Xp, R, h, k, x⟩ =>
    ⟨S0, H0, S, ρ, _, Xp, R, h, fun ds hd vs S1 H1 w1 r1 => ⟨r1.length.trans hd.1, S1, ds, P, Xp, w1.sh, r1, hd.2, k.grow w1, x.grow w1⟩, x⟩
/-! ### subscripts -/
def eIx (a b : TEd) (o : O2) : TEd := eOp o a b
theorem de_ix {o : O2} (hr : IxR X (rL (gd X) o)) (ha : DE X W a ta) (hb : DE X W b tb) (hs : PlainIx b) : DE X W (.Subscript a b pos) (eOp o ta tb) := PE.weak (pe_ix hr ha hb hs) lift_op
end
end Z

/-! Z: statements, loops, comprehensions, defs. -/
namespace Z
open PySem PySem.Spec PyProof.Rows L2

structure Ed where
  nx : En → Prop
  rt : D → Prop
  ro : Ow → Prop := fun _ => False
  bk : En → Prop := fun _ => False
  ct : En → Prop := fun _ => False
  xc : Str → List (Str × D) → En → Prop := fun _ _ _ => False
abbrev TSd := Ed → En → Prop
structure EdOk (mg : Mg) (W : WX) (S0 H0 S : Hp) (Φ : Ed) (Dn : Ends) : Prop where
  nx : ∀ ρ', Φ.nx ρ' → ∀ σ' S' H', RE mg S0 H0 S' H' σ' ρ' → Same S S' → Dn.nx σ' H'
  rt : ∀ d, Φ.rt d → ∀ v S' H', Wd S0 H0 S' H' → Rep mg S' v d → Dn.rt v H'
  ro : ∀ o, Φ.ro o → ∀ p S' H', Wd S0 H0 S' H' → H0 p = none → S' p = none → OwAt mg S' H' p o → Dn.rt (.ref p) H'
  bk : ∀ ρ', Φ.bk ρ' → ∀ σ' S' H', RE mg S0 H0 S' H' σ' ρ' → Same S S' → Dn.bk σ' H'
  ct : ∀ ρ', Φ.ct ρ' → ∀ σ' S' H', RE mg S0 H0 S' H' σ' ρ' → Same S S' → Dn.ct σ' H'
  xc : ∀ C fs ρ', Φ.xc C fs ρ' → ∀ c d' σ' S' H', mg.m C = some (.ref c) → RE mg S0 H0 S' H' σ' ρ' → RepX mg S' H' d' fs → W (.ref c) d' σ' H'
def liftS (mg : Mg) (W : WX) (ts : TSd) : TS := fun Dn σ H => ∃ S0 H0 S ρ Φ, RE mg S0 H0 S H σ ρ ∧ ts Φ ρ ∧ EdOk mg W S0 H0 S Φ Dn
theorem EdOk.mono {mg : Mg} {W : WX} {S0 H0 S S' : Hp} {Φ : Ed} {Dn : Ends} (k : EdOk mg W S0 H0 S Φ Dn) (h : Same S S') : EdOk mg W S0 H0 S' Φ Dn where
  nx := fun ρ' h' σ' S2 H' R s => k.nx ρ' h' σ' S2 H' R (h.trans s)
  rt := k.rt
  ro := k.ro
  bk := fun ρ' h' σ' S2 H' R s => k.bk ρ' h' σ' S2 H' R (h.trans s)
  ct := fun ρ' h' σ' S2 H' R s => k.ct ρ' h' σ' S2 H' R (h.trans s)
  xc := k.xc
theorem PS.weak {X : Cx} {e : Stmt} {t t' : TS} (h : PS X e t) (w : ∀ D σ H, t' D σ H → t D σ H) : PS X e t' := ⟨fun p s σ H D I q => h.run p s σ H D I (w D σ H q)⟩
theorem PSs.weak {X : Cx} {e : List Stmt} {t t' : TS} (h : PSs X e t) (w : ∀ D σ H, t' D σ H → t D σ H) : PSs X e t' := ⟨fun p s σ H D I q => h.run p s σ H D I (w D σ H q)⟩
abbrev DS (X : Cx) (W : WX) (st : Stmt) (ts : TSd) : Prop := PS X st (liftS (gd X) W ts)
abbrev DSs (X : Cx) (W : WX) (st : List Stmt) (ts : TSd) : Prop := PSs X st (liftS (gd X) W ts)

section
variable {X : Cx} {W : WX} {pos : Pos} {mg : Mg} {st : Stmt} {rest : List Stmt} {t u : TSd} {e : Expr} {te : TEd} {tf : TAd} {S0 H0 S H : Hp} {σ : L2.St} {ρ : En} {Φ : Ed} {Dn : Ends}
theorem EdOk.x (k : EdOk mg W S0 H0 S Φ Dn) (R : RE mg S0 H0 S H σ ρ) : xOk mg W σ S H (fun C fs => Φ.xc C fs ρ) := fun C fs h c d' S' H' e w r => k.xc C fs ρ h c d' σ S' H' e (R.grow w) r
def sNext : TSd := fun Φ ρ => Φ.nx ρ
def sSeq (t u : TSd) : TSd := fun Φ ρ => t { Φ with nx := u Φ } ρ
theorem dss_nil : DSs X W [] sNext := PSs.weak pss_nil fun D σ H ⟨S0, H0, S, ρ, Φ, R, h, k⟩ => k.nx ρ h σ S H R (Same.refl _)
theorem lift_seq (D : Ends) (σ : L2.St) (H : Hp) (h : liftS mg W (sSeq t u) D σ H) : L2.tSeq (liftS mg W t) (liftS mg W u) D σ H := by
  obtain ⟨S0, H0, S, ρ, Φ, R, h, k⟩ := h
  exact ⟨S0, H0, S, ρ, { Φ with nx := u Φ }, R, h, { nx := fun ρ' h' σ' S' H' R' s => ⟨S0, H0, S', ρ', Φ, R', h', k.mono s⟩, rt := k.rt, ro := k.ro, bk := k.bk, ct := k.ct, xc := k.xc }⟩
theorem dss_cons (h1 : DS X W st t) (h2 : DSs X W rest u) : DSs X W (st :: rest) (sSeq t u) := PSs.weak (pss_cons h1 h2) lift_seq
theorem dss_one (h1 : DS X W st t) : DSs X W [st] t := pss_one h1
def sBrk : TSd := fun Φ ρ => Φ.bk ρ
def sCont : TSd := fun Φ ρ => Φ.ct ρ
theorem ds_pass : DS X W (.Pass pos) sNext := PS.weak ps_pass fun D σ H ⟨S0, H0, S, ρ, Φ, R, h, k⟩ => k.nx ρ h σ S H R (Same.refl _)
theorem ds_break : DS X W (.Break pos) sBrk := PS.weak ps_break fun D σ H ⟨S0, H0, S, ρ, Φ, R, h, k⟩ => k.bk ρ h σ S H R (Same.refl _)
theorem ds_continue : DS X W (.Continue pos) sCont := PS.weak ps_continue fun D σ H ⟨S0, H0, S, ρ, Φ, R, h, k⟩ => k.ct ρ h σ S H R (Same.refl _)
theorem ds_doc {x j pos'} : DS X W (.Expr (.Constant (.str x) j pos) pos') sNext := PS.weak ps_doc fun D σ H ⟨S0, H0, S, ρ, Φ, R, h, k⟩ => k.nx ρ h σ S H R (Same.refl _)
def sDrop (te : TEd) : TSd := fun Φ ρ => te ρ (fun _ => Φ.nx ρ) (fun C fs => Φ.xc C fs ρ)
theorem ds_expr (he : DE X W e te) (hs : swapsWith e none pos.line X.env = pure false := by rfl) : DS X W (.Expr e pos) (sDrop te) := PS.weak (ps_expr he hs) fun D σ H ⟨S0, H0, S, ρ, Φ, R, h, k⟩ =>
  ⟨S0, H0, S, ρ, _, _, R, h, fun d hd v S1 H1 w1 r1 => k.nx ρ hd σ S1 H1 (R.grow w1) w1.ss, k.x R⟩
def sRet (te : TEd) : TSd := fun Φ ρ => te ρ Φ.rt (fun C fs => Φ.xc C fs ρ)
theorem ds_ret (he : DE X W e te) : DS X W (.Return (some e) pos) (sRet te) := PS.weak (ps_ret he) fun D σ H ⟨S0, H0, S, ρ, Φ, R, h, k⟩ =>
  ⟨S0, H0, S, ρ, _, _, R, h, fun d hd v S1 H1 w1 r1 => k.rt d hd v S1 H1 (R.wd.trans w1) r1, k.x R⟩
/-- a new list is handed back -/
def sRetF (tf : TAd) : TSd := fun Φ ρ => tf ρ (fun l => Φ.ro (.lst l)) (fun C fs => Φ.xc C fs ρ)
theorem ds_retF (he : DF X W e tf) : DS X W (.Return (some e) pos) (sRetF tf) := PS.weak (ps_ret he) fun D σ H ⟨S0, H0, S, ρ, Φ, R, h, k⟩ =>
  ⟨S0, H0, S, ρ, _, _, R, h, fun l hd p vs S1 H1 w1 hp hs e1 r1 => k.ro _ hd p S1 H1 (R.wd.trans w1) (R.wd.free hp) hs ⟨vs, e1, r1⟩, k.x R⟩
def sRetN : TSd := fun Φ _ => Φ.rt .non
theorem ds_retN : DS X W (.Return none pos) sRetN := PS.weak ps_retN fun D σ H ⟨S0, H0, S, ρ, Φ, R, h, k⟩ => k.rt _ h _ S H R.wd .non
/-- an object of our own is handed back -/
def sRetO (i : Nat) : TSd := fun Φ ρ => ∃ o, ρ[i]? = some (.own o) ∧ Φ.ro o
theorem ds_retO {i : Nat} (he : PE X e (tVar i)) : DS X W (.Return (some e) pos) (sRetO i) := PS.weak (ps_ret he) fun D σ H ⟨S0, H0, S, ρ, Φ, R, ⟨o, ho, h⟩, k⟩ => by
  obtain ⟨p, h1, h2, h3, h4⟩ := R.at ho
  exact ⟨_, h1, k.ro o h p S H R.wd h2 h3 h4⟩
def sIf (c : TTd) (t u : TSd) : TSd := fun Φ ρ => c ρ (fun b => if b = true then t Φ ρ else u Φ ρ) (fun C fs => Φ.xc C fs ρ)
theorem ds_if {c : Expr} {a b : List Stmt} {tc : TTd} (hc : DT X W c tc) (ha : DSs X W a t) (hb : DSs X W b u) : DS X W (.If c a b pos) (sIf tc t u) := PS.weak (ps_if hc ha hb) fun D σ H ⟨S0, H0, S, ρ, Φ, R, h, k⟩ =>
  ⟨S0, H0, S, ρ, _, _, R, h, fun b hb S1 H1 w1 => by
    cases b with
    | true => rw [if_pos rfl] at hb ⊢; exact ⟨S0, H0, S1, ρ, Φ, R.grow w1, hb, k.mono w1.ss⟩
    | false => rw [if_neg Bool.false_ne_true] at hb ⊢; exact ⟨S0, H0, S1, ρ, Φ, R.grow w1, hb, k.mono w1.ss⟩, k.x R⟩
/-! ### targets -/
abbrev TGd := D → En → (En → Prop) → Prop
abbrev TGsd := List D → En → (En → Prop) → Prop
def liftG (mg : Mg) (vs : List Nat) (tg : TGd) : TG := fun v σ H Q => ∃ S0 H0 S ρ d P, RE mg S0 H0 S H σ ρ ∧ Rep mg S v d ∧ tg d ρ P ∧ ∀ ρ', P ρ' → ∀ σ' S' H', RE mg S0 H0 S' H' σ' ρ' → wipe σ' vs = wipe σ vs → Wd S H S' H' → Q σ' H'
def liftGs (mg : Mg) (vs : List Nat) (tg : TGsd) : TGs := fun us σ H Q => ∃ S0 H0 S ρ ds P, RE mg S0 H0 S H σ ρ ∧ Reps mg S us ds ∧ tg ds ρ P ∧ ∀ ρ', P ρ' → ∀ σ' S' H', RE mg S0 H0 S' H' σ' ρ' → wipe σ' vs = wipe σ vs → Wd S H S' H' → Q σ' H'
abbrev DG (X : Cx) (vs : List Nat) (e : Expr) (tg : TGd) : Prop := PG X e (liftG (gd X) vs tg)
abbrev DGs (X : Cx) (vs : List Nat) (es : List Expr) (tg : TGsd) : Prop := PGs X es (liftGs (gd X) vs tg)
theorem PG.weak {X : Cx} {e : Expr} {t t' : TG} (h : PG X e t) (w : ∀ v σ H Q, t' v σ H Q → t v σ H Q) : PG X e t' := ⟨fun p s σ H v u Q I r q => h.run p s σ H v u Q I r (w v σ H Q q)⟩
theorem PGs.weak {X : Cx} {e : List Expr} {t t' : TGs} (h : PGs X e t) (w : ∀ v σ H Q, t' v σ H Q → t v σ H Q) : PGs X e t' := ⟨fun p s σ H v u Q I r q => h.run p s σ H v u Q I r (w v σ H Q q)⟩
theorem wipe_get (σ : L2.St) (j : Nat) : ∀ vs : List Nat, (wipe σ vs)[j]? = if j ∈ vs ∧ j < σ.length then some none else σ[j]?
  | [] => by simp [wipe]
  | v :: vs => by
    have ih := wipe_get σ j vs
    have hl : (wipe σ vs).length = σ.length := wipe_length σ vs
    unfold wipe
    by_cases c : v = j
    · subst c
      by_cases hj : v < σ.length
      · rw [List.getElem?_set_self (by rw [hl]; exact hj), if_pos ⟨List.mem_cons_self, hj⟩]
      · rw [if_neg (fun z => hj z.2), List.getElem?_eq_none (by simpa [hl] using hj), List.getElem?_eq_none (by simpa using hj)]
    · rw [List.getElem?_set_ne c, ih]
      have q : (j ∈ v :: vs ∧ j < σ.length) ↔ (j ∈ vs ∧ j < σ.length) := by
        constructor
        · rintro ⟨a, b⟩
          rcases List.mem_cons.mp a with z | z
          · exact absurd z.symm c
          · exact ⟨z, b⟩
        · rintro ⟨a, b⟩; exact ⟨List.mem_cons_of_mem _ a, b⟩
      simp only [q]
theorem wipe_set {σ : L2.St} {i : Nat} {x : Option V} {vs : List Nat} (h : i ∈ vs) : wipe (σ.set i x) vs = wipe σ vs := by
  apply List.ext_getElem?
  intro j
  rw [wipe_get, wipe_get, List.length_set]
  by_cases c : j ∈ vs ∧ j < σ.length
  · rw [if_pos c, if_pos c]
  · rw [if_neg c, if_neg c]
    by_cases q : i = j
    · subst q
      have hj : ¬ i < σ.length := fun z => c ⟨h, z⟩
      rw [List.getElem?_eq_none (by simpa using hj), List.getElem?_eq_none (by simpa using hj)]
    · rw [List.getElem?_set_ne q]
theorem wipe_wipe {σ : L2.St} {vs : List Nat} : wipe (wipe σ vs) vs = wipe σ vs := by
  apply List.ext_getElem?
  intro j
  rw [wipe_get, wipe_length, wipe_get]
  by_cases c : j ∈ vs ∧ j < σ.length
  · simp only [if_pos c]
  · simp only [if_neg c]
def gN (i : Nat) : TGd := fun d ρ P => P (ρ.set i (.val d))
theorem dg_name {i : Nat} {x : Str} {vs : List Nat} (hN : X.N.Nodup) (hi : X.N[i]? = some x) (hx : Loc X.env.scope x) (hf : X.fn x = true ∨ X.env.scope.names.lookup x = some .local := by first | exact .inl rfl | exact .inr rfl | assumption) (hv : i ∈ vs := by decide) : DG X vs (.Name x pos) (gN i) :=
  PG.weak (pg_name hN hi hx hf) fun v σ H Q ⟨S0, H0, S, ρ, d, P, R, r, h, k⟩ => k _ h _ S H (R.set r) (wipe_set hv) (.refl R.wd.sh)
def gsNil : TGsd := fun ds ρ P => ds = [] ∧ P ρ
def gsCons (t : TGd) (u : TGsd) : TGsd := fun ds ρ P => match ds with | d :: r => t d ρ fun ρ' => u r ρ' P | [] => False
def asTup (d : D) (n : Nat) (P : List D → Prop) : Prop := match d with | .tup l => l.length = n ∧ P l | _ => False
theorem dgs_nil {vs : List Nat} : DGs X vs [] gsNil := PGs.weak pgs_nil fun us σ H Q ⟨S0, H0, S, ρ, ds, P, R, r, h, k⟩ => by
  obtain ⟨rfl, h⟩ := h
  cases r
  exact ⟨rfl, k _ h _ S H R rfl (.refl R.wd.sh)⟩
theorem dgs_cons {vs : List Nat} {es : List Expr} {t : TGd} {u : TGsd} (h1 : DG X vs e t) (h2 : DGs X vs es u) (hs : (assignEach (e :: es) X.env).map (·.2) = assign e X.env :: (assignEach es X.env).map (·.2) := by rfl) : DGs X vs (e :: es) (gsCons t u) :=
  PGs.weak (pgs_cons h1 h2 hs) fun us σ H Q ⟨S0, H0, S, ρ, ds, P, R, r, h, k⟩ => by
    cases r with
    | nil => exact h.elim
    | cons r rs => exact ⟨_, _, rfl, S0, H0, S, ρ, _, _, R, r, h, fun ρ' h' σ' S' H' R' wi w => ⟨S0, H0, S', ρ', _, P, R', rs.mono w.ss, h', fun ρ2 h2 σ2 S2 H2 R2 wi2 w2 => k ρ2 h2 σ2 S2 H2 R2 (wi2.trans wi) (w.trans w2)⟩⟩
def gTup (n : Nat) (t : TGsd) : TGd := fun d ρ P => asTup d n fun l => t l ρ P
theorem dg_tup {vs : List Nat} {es : List Expr} {k : Nat} {t : TGsd} {n : Nat} (hc : X.calm = true) (h : DGs X vs es t)
    (hn : (assignEach es X.env).length = n := by rfl) (hst : (assignEach es X.env).findIdx? (·.1) = none := by rfl) : DG X vs (.Tuple es k pos) (gTup n t) :=
  PG.weak (pg_tup hc h hn hst) fun v σ H Q ⟨S0, H0, S, ρ, d, P, R, r, h, k⟩ => by
    cases r with
    | tup e r => exact ⟨_, _, rfl, .inl (.inl (R.wd.sh _ _ e)), r.length.trans h.1, S0, H0, S, ρ, _, P, R, r, h.2, k⟩
    | _ => exact h.elim
/-! ### assignment -/
def sAsg (te : TEd) (tg : TGd) : TSd := fun Φ ρ => te ρ (fun d => tg d ρ Φ.nx) (fun C fs => Φ.xc C fs ρ)
theorem lift_asg {vs : List Nat} {tg : TGd} (D : Ends) (σ : L2.St) (H : Hp) (h : liftS mg W (sAsg te tg) D σ H) : L2.tAsg (liftE mg W te) (liftG mg vs tg) D σ H := by
  obtain ⟨S0, H0, S, ρ, Φ, R, h, k⟩ := h
  exact ⟨S0, H0, S, ρ, _, _, R, h, fun d hd v S1 H1 w1 r1 => ⟨S0, H0, S1, ρ, d, _, R.grow w1, r1, hd, fun ρ' h' σ' S' H' R' _ w => k.nx ρ' h' σ' S' H' R' (w1.ss.trans w.ss)⟩, k.x R⟩
theorem ds_asg {vs : List Nat} {tg : Expr} {g : TGd} (he : DE X W e te) (hg : DG X vs tg g) (hs : swapsWithSole [tg] e pos.line X.env = pure false := by rfl) (hw : swappedStores [tg] e X.env = pure none := by rfl)
    (h1 : (assignEach [tg] X.env).map (·.2) = [assign tg X.env] := by rfl) : DS X W (.Assign [tg] e pos) (sAsg te g) := PS.weak (ps_asg he hg hs hw h1) lift_asg
def sSet (te : TEd) (i : Nat) : TSd := fun Φ ρ => te ρ (fun d => Φ.nx (ρ.set i (.val d))) (fun C fs => Φ.xc C fs ρ)
theorem ds_set {i : Nat} {x : Str} {pos' : Pos} (hN : X.N.Nodup) (hi : X.N[i]? = some x) (hx : Loc X.env.scope x) (he : DE X W e te) (hs : swapsWith e (some (.Name x pos')) pos.line X.env = pure false := by rfl) (hf : X.fn x = true ∨ X.env.scope.names.lookup x = some .local := by first | exact .inl rfl | exact .inr rfl | assumption) :
    DS X W (.Assign [.Name x pos'] e pos) (sSet te i) := PS.weak (ps_set hN hi hx he hs hf) fun D σ H ⟨S0, H0, S, ρ, Φ, R, h, k⟩ =>
  ⟨S0, H0, S, ρ, _, _, R, h, fun d hd v S1 H1 w1 r1 => k.nx _ hd _ S1 H1 ((R.grow w1).set r1) w1.ss, k.x R⟩
/-- a new list into a slot, our own -/
def sSetF (tf : TAd) (i : Nat) : TSd := fun Φ ρ => tf ρ (fun l => Φ.nx (ρ.set i (.own (.lst l)))) (fun C fs => Φ.xc C fs ρ)
theorem ds_setF {i : Nat} {x : Str} {pos' : Pos} (hN : X.N.Nodup) (hi : X.N[i]? = some x) (hx : Loc X.env.scope x) (he : DF X W e tf) (hs : swapsWith e (some (.Name x pos')) pos.line X.env = pure false := by rfl) (hf : X.fn x = true ∨ X.env.scope.names.lookup x = some .local := by first | exact .inl rfl | exact .inr rfl | assumption) :
    DS X W (.Assign [.Name x pos'] e pos) (sSetF tf i) := PS.weak (ps_set hN hi hx he hs hf) fun D σ H ⟨S0, H0, S, ρ, Φ, R, h, k⟩ =>
  ⟨S0, H0, S, ρ, _, _, R, h, fun l hd p vs S1 H1 w1 hp hs e1 r1 => k.nx _ hd _ S1 H1 (R.setOwn w1 hp hs ⟨vs, e1, r1⟩) w1.ss, k.x R⟩
/-- slot i is changed no more -/
def sFrz (i : Nat) (t : TSd) : TSd := fun Φ ρ => match ρ[i]? with | some (.own o) => t Φ (ρ.set i (.val o.d)) | _ => t Φ ρ
theorem lift_frz {i : Nat} (D : Ends) (σ : L2.St) (H : Hp) (h : liftS mg W (sFrz i t) D σ H) : liftS mg W t D σ H := by
  obtain ⟨S0, H0, S, ρ, Φ, R, h, k⟩ := h
  unfold sFrz at h
  split at h
  · rename_i o ho
    obtain ⟨S', w, ss, R'⟩ := R.frz ho
    exact ⟨S0, H0, S', _, Φ, R', h, k.mono ss⟩
  · exact ⟨S0, H0, S, ρ, Φ, R, h, k⟩
theorem ds_frz (i : Nat) (h : DS X W st t) : DS X W st (sFrz i t) := PS.weak h lift_frz
/-- name op= e -/
def sAug (i : Nat) (te : TEd) (o : O2) : TSd := fun Φ ρ => te ρ (fun y => ∃ x, ρ[i]? = some (.val x) ∧ o x y fun d => Φ.nx (ρ.set i (.val d))) (fun C fs => Φ.xc C fs ρ)
/-! ### our own lists changed -/
theorem tyV_list {K : PySem.W.Frag} {H : Hp} {p : Addr} {vs : List V} (h : H p = some (.lst vs)) : tyV K "list" (.ref p) H := .inl ⟨rfl, _, .inl (.inl h)⟩
def sApp (i : Nat) (te : TEd) : TSd := fun Φ ρ => ∃ l, ρ[i]? = some (.own (.lst l)) ∧ te ρ (fun d => l.length < sizeLine ∧ Φ.nx (ρ.set i (.own (.lst (l ++ [d]))))) (fun C fs => Φ.xc C fs ρ)
theorem lift_app {K : PySem.W.Frag} {i : Nat} (D : Ends) (σ : L2.St) (H : Hp) (h : liftS mg W (sApp i te) D σ H) : L2.tDrop (tBM K "list" rAppend (tVar i) (L2.tCons (liftE mg W te) L2.tNil)) D σ H := by
  obtain ⟨S0, H0, S, ρ, Φ, R, ⟨l, hl, h⟩, k⟩ := h
  obtain ⟨p, h1, h2, h3, vs, h4, h5⟩ := R.at hl
  refine ⟨_, h1, tyV_list h4, S0, H0, S, ρ, _, _, R, h, fun d hd v S1 H1 w1 r1 => ?_, k.x R⟩
  have R1 := R.grow w1
  have e1 := w1.hh _ _ h4
  exact ⟨p, vs, v, rfl, rfl, e1, by rw [h5.length]; exact hd.1, k.nx _ hd.2 _ S1 _ (R1.mut hl h1 ⟨_, upd_same, (h5.mono w1.ss).append (.one r1)⟩) w1.ss⟩
/-- x.append(e), x in slot i -/
theorem ds_app {o : Expr} {i : Nat} {apos cpos : Pos} (ho : PE X o (tVar i)) (he : DE X W e te) (hbase : attributeBase o "append" X.env (eval o X.env) = eval o X.env := by rfl)
    (hfew : ((backTo cpos (starEach [e] X.env)).all (fun x => !x.1) && (backToKw cpos (keywordEach [] X.env)).all (fun x => x.1.isSome)
      && decide (([e] : List Expr).length + ([] : List Keyword).length + (if ([] : List Keyword).isEmpty then 0 else 1) < 30)) = true := by rfl)
    (hline : (apos.endLine == cpos.line) = true := by rfl) (hs : starEach [e] X.env = (false, eval e X.env) :: starEach [] X.env := by rfl) (hplain : (backTo cpos (starEach [] X.env)).any (·.1) = false := by rfl)
    (hsw : swapsWith (.Call (.Attribute o "append" apos) [e] [] cpos) none pos.line X.env = pure false := by rfl) : DS X W (.Expr (.Call (.Attribute o "append" apos) [e] [] cpos) pos) (sApp i te) :=
  PS.weak (ps_expr (pe_bm PySem.F.plainAttrs_list PySem.F.slot_list_append PySem.F.type_list_append mt_append ho (pa_cons he pa_nil hs) hbase hfew hline hs hplain) hsw) lift_app
/-- x[a] = e, x in slot i -/
def sSetIx (i : Nat) (tix te : TEd) : TSd := fun Φ ρ => te ρ (fun d => ∃ l, ρ[i]? = some (.own (.lst l)) ∧ tix ρ (fun z => ∃ n j, z = .int n ∧ ixN l.length n = some j ∧ Φ.nx (ρ.set i (.own (.lst (l.set j d))))) (fun C fs => Φ.xc C fs ρ)) (fun C fs => Φ.xc C fs ρ)
theorem lift_setIx {i : Nat} {tix : TEd} (D : Ends) (σ : L2.St) (H : Hp) (h : liftS mg W (sSetIx i tix te) D σ H) : L2.tAsg (liftE mg W te) (gSub (tVar i) (liftE mg W tix) rSetL) D σ H := by
  obtain ⟨S0, H0, S, ρ, Φ, R, h, k⟩ := h
  refine ⟨S0, H0, S, ρ, _, _, R, h, fun d hd v S1 H1 w1 r1 => ?_, k.x R⟩
  obtain ⟨l, hl, h⟩ := hd
  have R1 := R.grow w1
  obtain ⟨p, h1, h2, h3, vs, h4, h5⟩ := R1.at hl
  refine ⟨_, h1, S0, H0, S1, ρ, _, _, R1, h, fun z hz v2 S2 H2 w2 r2 => ?_, (k.mono w1.ss).x R1⟩
  obtain ⟨n, j, rfl, hj, hn⟩ := hz
  have R2 := R1.grow w2
  refine ⟨p, vs, n, j, rfl, r2.int_inv, w2.hh _ _ h4, by rw [h5.length]; exact hj, ?_⟩
  exact k.nx _ hn _ S2 _ (R2.mut hl h1 ⟨_, upd_same, (h5.mono w2.ss).set (r1.mono w2.ss) j⟩) (w1.ss.trans w2.ss)
theorem ds_setIx {o ix : Expr} {i : Nat} {tix : TEd} {tpos : Pos} (ho : PE X o (tVar i)) (hi : DE X W ix tix) (he : DE X W e te)
    (ha : ∀ v, assign (.Subscript o ix tpos) X.env v = (do
      let ov ← holding [v] (eval o X.env)
      let iv ← holding [v, ov] (eval ix X.env)
      standAt tpos
      holding [v, ov, iv] (setItem ov iv v)
      release [v, ov, iv] []) := by intro _; rfl)
    (hs : swapsWithSole [.Subscript o ix tpos] e pos.line X.env = pure false := by rfl) (hw : swappedStores [.Subscript o ix tpos] e X.env = pure none := by rfl)
    (h1 : (assignEach [.Subscript o ix tpos] X.env).map (·.2) = [assign (.Subscript o ix tpos) X.env] := by rfl) : DS X W (.Assign [.Subscript o ix tpos] e pos) (sSetIx i tix te) :=
  PS.weak (ps_asg he (pg_sub ho hi set_list ha) hs hw h1) lift_setIx
/-! ### loops -/
/-- an iterator of these items -/
structure ItOk (mg : Mg) (J : It) (S : Hp) (items : List D) : Prop where
  go : ∀ i H, Same S H → i < items.length → J.go i H
  stop : ∀ i H, Same S H → items.length ≤ i → J.stop i H
  yld : ∀ (i : Nat) S1 H x H', Same S S1 → Same S1 H → J.yld i H x H' → ∀ d, items[i]? = some d → ∃ S2, Wd S1 H S2 H' ∧ Rep mg S2 x d
def liftI (mg : Mg) (W : WX) (ti : TAd) : TI := fun σ H Q => ∃ S0 H0 S ρ P Xp, RE mg S0 H0 S H σ ρ ∧ ti ρ P Xp ∧ (∀ items, P items → ∀ J S' H', Wd S H S' H' → ItOk mg J S' items → Q J H') ∧ xOk mg W σ S H Xp
abbrev DI (X : Cx) (W : WX) (tg it : Expr) (ti : TAd) : Prop := PI X tg it (liftI (gd X) W ti)
theorem PI.weak {X : Cx} {e i : Expr} {t t' : TI} (h : PI X e i t) (w : ∀ σ H Q, t' σ H Q → t σ H Q) : PI X e i t' := ⟨fun p s σ H Q I q => h.run p s σ H Q I (w σ H Q q)⟩
def sFor (ti : TAd) (tg : TGd) (tb : TSd) : TSd := fun Φ ρ => ti ρ (fun items => ∃ I : Nat → En → Prop, I 0 ρ ∧
  (∀ (i : Nat) x ρ', items[i]? = some x → I i ρ' → tg x ρ' fun ρ2 => tb { Φ with nx := I (i + 1), ct := I (i + 1), bk := Φ.nx } ρ2) ∧ ∀ ρ', I items.length ρ' → Φ.nx ρ') (fun C fs => Φ.xc C fs ρ)
theorem lift_for {ti : TAd} {tg : TGd} {tb : TSd} {vs : List Nat} (D : Ends) (σ : L2.St) (H : Hp) (h : liftS mg W (sFor ti tg tb) D σ H) : L2.tFor (liftI mg W ti) (liftG mg vs tg) (liftS mg W tb) D σ H := by
  obtain ⟨S0, H0, S, ρ, Φ, R, h, k⟩ := h
  refine ⟨S0, H0, S, ρ, _, _, R, h, fun items ⟨I, i0, iS, iE⟩ J S1 H1 w1 ok => ?_, k.x R⟩
  refine ⟨fun i m σ' H' => ∃ S' ρ', RE mg S0 H0 S' H' σ' ρ' ∧ Same S1 S' ∧ I i ρ' ∧ i + m = items.length, ⟨items.length, S1, ρ, R.grow w1, Same.refl _, i0, by omega⟩, fun i m σ' H' ⟨S', ρ', R', s', hI, em⟩ => ?_⟩
  by_cases hi : i < items.length
  · refine .inr ⟨ok.go i H' (s'.trans R'.wd.sh) hi, fun σ2 H2 => ∃ S2 ρ2, RE mg S0 H0 S2 H2 σ2 ρ2 ∧ Same S1 S2 ∧ I (i + 1) ρ2, fun σ2 H2 ⟨S2, ρ2, R2, s2, hI2⟩ => ⟨m - 1, by omega, S2, ρ2, R2, s2, hI2, by omega⟩, fun x H2 hy => ?_⟩
    obtain ⟨S2, w2, r2⟩ := ok.yld i S' H' x H2 s' R'.wd.sh hy _ (List.getElem?_eq_getElem hi)
    refine ⟨S0, H0, S2, ρ', _, _, R'.grow w2, r2, iS i _ ρ' (List.getElem?_eq_getElem hi) hI, fun ρ3 h3 σ3 S3 H3 R3 _ w3 => ?_⟩
    have s3 : Same S1 S3 := s'.trans (w2.ss.trans w3.ss)
    exact ⟨S0, H0, S3, ρ3, _, R3, h3, { nx := fun ρ4 h4 σ4 S4 H4 R4 s4 => ⟨S4, ρ4, R4, s3.trans s4, h4⟩, rt := k.rt, ro := k.ro, bk := fun ρ4 h4 σ4 S4 H4 R4 s4 => k.nx ρ4 h4 σ4 S4 H4 R4 (w1.ss.trans (s3.trans s4)), ct := fun ρ4 h4 σ4 S4 H4 R4 s4 => ⟨S4, ρ4, R4, s3.trans s4, h4⟩, xc := k.xc }⟩
  · have ei : i = items.length := by omega
    subst ei
    exact .inl ⟨ok.stop _ H' (s'.trans R'.wd.sh) (Nat.le_refl _), k.nx ρ' (iE ρ' hI) σ' S' H' R' (w1.ss.trans s')⟩
theorem ds_for {vs : List Nat} {tg iter : Expr} {body : List Stmt} {ti : TAd} {g : TGd} {tb : TSd} (hp : PassesOwn (model X.prog X.w) X.A X.env X.xe) (hc : X.calm = true) (hi : DI X W tg iter ti) (hg : DG X vs tg g) (hb : DSs X W body tb)
    (hs : ∀ x, foldedSetIterable iter X.env x = pure x := by intro _; rfl) : DS X W (.For tg iter body [] pos) (sFor ti g tb) := PS.weak (ps_for hp hc hi hg hb hs) lift_for
def sWhile (c : TTd) (tb : TSd) : TSd := fun Φ ρ => ∃ I : Nat → En → Prop, (∃ m, I m ρ) ∧ ∀ m ρ', I m ρ' → c ρ' (fun b => if b = true then tb { Φ with nx := fun r => ∃ m', m' < m ∧ I m' r, ct := fun r => ∃ m', m' < m ∧ I m' r, bk := Φ.nx } ρ' else Φ.nx ρ') (fun C fs => Φ.xc C fs ρ')
theorem lift_while {c : TTd} {tb : TSd} (D : Ends) (σ : L2.St) (H : Hp) (h : liftS mg W (sWhile c tb) D σ H) : L2.tWhile (liftT mg W c) (liftS mg W tb) D σ H := by
  obtain ⟨S0, H0, S, ρ, Φ, R, ⟨I, ⟨m, i0⟩, iS⟩, k⟩ := h
  refine ⟨fun m σ' H' => ∃ S' ρ', RE mg S0 H0 S' H' σ' ρ' ∧ Same S S' ∧ I m ρ', ⟨m, S, ρ, R, Same.refl _, i0⟩, fun m σ' H' ⟨S', ρ', R', s', hI⟩ => ?_⟩
  refine ⟨S0, H0, S', ρ', _, _, R', iS m ρ' hI, fun b hb S1 H1 w1 => ?_, (k.mono s').x R'⟩
  cases b with
  | true =>
    rw [if_pos rfl] at hb ⊢
    have s1 := s'.trans w1.ss
    refine ⟨fun σ2 H2 => ∃ S2 ρ2, RE mg S0 H0 S2 H2 σ2 ρ2 ∧ Same S S2 ∧ ∃ m', m' < m ∧ I m' ρ2, fun σ2 H2 ⟨S2, ρ2, R2, s2, m', hm, hI2⟩ => ⟨m', hm, S2, ρ2, R2, s2, hI2⟩, S0, H0, S1, ρ', _, R'.grow w1, hb, ?_⟩
    exact { nx := fun ρ4 h4 σ4 S4 H4 R4 s4 => ⟨S4, ρ4, R4, s1.trans s4, h4⟩, rt := k.rt, ro := k.ro, bk := fun ρ4 h4 σ4 S4 H4 R4 s4 => k.nx ρ4 h4 σ4 S4 H4 R4 (s1.trans s4), ct := fun ρ4 h4 σ4 S4 H4 R4 s4 => ⟨S4, ρ4, R4, s1.trans s4, h4⟩, xc := k.xc }
  | false =>
    rw [if_neg Bool.false_ne_true] at hb ⊢
    exact k.nx ρ' hb σ' S1 H1 (R'.grow w1) (s'.trans w1.ss)
theorem ds_while {c : Expr} {body : List Stmt} {tc : TTd} {tb : TSd} (hp : PassesOwn (model X.prog X.w) X.A X.env X.xe) (hc : DT X W c tc) (hb : DSs X W body tb) : DS X W (.While c body [] pos) (sWhile tc tb) := PS.weak (ps_while hp hc hb) lift_while
/-! ### what is walked -/
theorem itl_ok {K : PySem.W.Frag} {S : Hp} {a : Addr} {vs : List V} {ds : List D} (h : SqL K S a vs) (r : Reps mg S vs ds) : ItOk mg (Itl K a) S ds where
  go := fun i H s hi => by
    have hi' : i < vs.length := by rw [r.length]; exact hi
    exact ⟨vs, vs[i], sq_mono s h, List.getElem?_eq_getElem hi'⟩
  stop := fun i H s hi => ⟨vs, sq_mono s h, by rw [r.length]; exact hi⟩
  yld := fun i S1 H x H' s1 s2 hy d hd => by
    obtain ⟨rfl, hy⟩ := hy
    obtain ⟨v, hv, rv⟩ := r.get hd
    have e := hy vs (sq_mono (s1.trans s2) h)
    rw [hv] at e
    cases e
    exact ⟨S1, .refl s2, rv.mono s1⟩
theorem itt_ok {K : PySem.W.Frag} {S : Hp} {a : Addr} {vs : List V} {ds : List D} (h : S a = some (.tup vs)) (r : Reps mg S vs ds) : ItOk mg (Itt K a) S ds where
  go := fun i H s hi => by
    have hi' : i < vs.length := by rw [r.length]; exact hi
    exact ⟨vs, vs[i], .inl (.inl (s _ _ h)), List.getElem?_eq_getElem hi'⟩
  stop := fun i H s hi => ⟨vs, .inl (.inl (s _ _ h)), by rw [r.length]; exact hi⟩
  yld := fun i S1 H x H' s1 s2 hy d hd => by
    obtain ⟨rfl, hy⟩ := hy
    obtain ⟨v, hv, rv⟩ := r.get hd
    have e := hy vs (.inl (.inl (s2 _ _ (s1 _ _ h))))
    rw [hv] at e
    cases e
    exact ⟨S1, .refl s2, rv.mono s1⟩
def rangeD (lo : Int) (n : Nat) : List D := (List.range n).map fun i => .int (lo + (i : Nat))
theorem rangeD_get {lo : Int} {n i : Nat} {d : D} (h : (rangeD lo n)[i]? = some d) : i < n ∧ d = .int (lo + (i : Nat)) := by
  unfold rangeD at h
  rw [List.getElem?_map] at h
  by_cases c : i < n
  · rw [List.getElem?_range c] at h
    exact ⟨c, (Option.some.inj h).symm⟩
  · rw [List.getElem?_eq_none (by simpa using c)] at h; cases h
theorem rangeD_length {lo : Int} {n : Nat} : (rangeD lo n).length = n := by unfold rangeD; simp
theorem itr_ok {S : Hp} {lo : Int} {n : Nat} : ItOk mg (Itr lo n) S (rangeD lo n) where
  go := fun i H s hi => by rw [rangeD_length] at hi; exact hi
  stop := fun i H s hi => by rw [rangeD_length] at hi; exact hi
  yld := fun i S1 H x H' s1 s2 hy d hd => by
    obtain ⟨rfl, rfl⟩ := hy
    obtain ⟨_, rfl⟩ := rangeD_get hd
    exact ⟨S1, .refl s2, .int _⟩
/-- a list or a tuple that stands: which of the two the caller says (the library's rules are two) -/
def iLst (te : TEd) : TAd := fun ρ P Xp => te ρ (fun d => match d with | .lst l => P l | _ => False) Xp
def iTup (te : TEd) : TAd := fun ρ P Xp => te ρ (fun d => match d with | .tup l => P l | _ => False) Xp
variable {tg l : Expr} {ta : TAd} {a b : Expr} {p : Pos}
theorem di_list (hl : DE X W l te) : DI X W tg l (iLst te) := PI.weak (pi_list hl) fun σ H Q ⟨S0, H0, S, ρ, P, Xp, R, h, k, x⟩ => ⟨S0, H0, S, ρ, _, Xp, R, h, fun d hd v S1 H1 w1 r1 => by
  cases r1 with
  | lst e r => exact ⟨_, rfl, ⟨_, .inl (rd_mono w1.sh e)⟩, k _ hd _ S1 H1 w1 (itl_ok (.inl e) r)⟩
  | _ => exact hd.elim, x⟩
theorem di_tup (hl : DE X W l te) : DI X W tg l (iTup te) := PI.weak (pi_tup hl) fun σ H Q ⟨S0, H0, S, ρ, P, Xp, R, h, k, x⟩ => ⟨S0, H0, S, ρ, _, Xp, R, h, fun d hd v S1 H1 w1 r1 => by
  cases r1 with
  | tup e r => exact ⟨_, rfl, ⟨_, .inl (.inl (w1.sh _ _ e))⟩, k _ hd _ S1 H1 w1 (itt_ok e r)⟩
  | _ => exact hd.elim, x⟩
/-- our own list in slot i, not changed by the loop -/
def iOwn (i : Nat) : TAd := fun ρ P _ => ∃ l, ρ[i]? = some (.own (.lst l)) ∧ P l
def rng1 (ds : List D) (P : List D → Prop) : Prop := match ds with | [.int j] => -(2 ^ 62) ≤ j ∧ j < 2 ^ 62 ∧ P (rangeD 0 j.toNat) | _ => False
def rng2 (ds : List D) (P : List D → Prop) : Prop := match ds with | [.int i, .int j] => (-(2 ^ 62) ≤ i ∧ i < 2 ^ 62 ∧ -(2 ^ 62) ≤ j ∧ j < 2 ^ 62) ∧ P (rangeD i (j - i).toNat) | _ => False
def iRng1 (ta : TAd) : TAd := fun ρ P Xp => ta ρ (fun ds => rng1 ds P) Xp
def iRng2 (ta : TAd) : TAd := fun ρ P Xp => ta ρ (fun ds => rng2 ds P) Xp
theorem Reps.one_inv {S : Hp} {vs : List V} {d : D} (h : Reps mg S vs [d]) : ∃ v, vs = [v] ∧ Rep mg S v d := by
  cases h with
  | cons h r => cases r; exact ⟨_, rfl, h⟩
theorem Reps.two_inv {S : Hp} {vs : List V} {d e : D} (h : Reps mg S vs [d, e]) : ∃ v u, vs = [v, u] ∧ Rep mg S v d ∧ Rep mg S u e := by
  cases h with
  | cons h r => cases r with
    | cons h2 r => cases r; exact ⟨_, _, rfl, h, h2⟩
theorem di_rng1 {pos : Pos} (hg : Gl X "range") (hm : X.mg "range" = none) (ha : DA X W [a] ta) (hs : starEach [a] X.env = [(false, eval a X.env)] := by rfl) : DI X W tg (.Call (.Name "range" p) [a] [] pos) (iRng1 ta) :=
  PI.weak (pi_range1 hg hm ha hs) fun σ H Q ⟨S0, H0, S, ρ, P, Xp, R, h, k, x⟩ => ⟨S0, H0, S, ρ, _, Xp, R, h, fun ds hd vs S1 H1 w1 r1 => by
    match ds, hd with
    | [.int j], hd =>
      obtain ⟨v, rfl, rv⟩ := r1.one_inv
      cases rv
      exact ⟨j, rfl, hd.1, hd.2.1, k _ hd.2.2 _ S1 H1 w1 itr_ok⟩, x⟩
theorem di_rng2 {pos : Pos} (hg : Gl X "range") (hm : X.mg "range" = none) (ha : DA X W [a, b] ta) (hs : starEach [a, b] X.env = [(false, eval a X.env), (false, eval b X.env)] := by rfl) (hs2 : starEach [b] X.env = [(false, eval b X.env)] := by rfl) :
    DI X W tg (.Call (.Name "range" p) [a, b] [] pos) (iRng2 ta) :=
  PI.weak (pi_range2 hg hm ha hs hs2) fun σ H Q ⟨S0, H0, S, ρ, P, Xp, R, h, k, x⟩ => ⟨S0, H0, S, ρ, _, Xp, R, h, fun ds hd vs S1 H1 w1 r1 => by
    match ds, hd with
    | [.int i, .int j], hd =>
      obtain ⟨v, u, rfl, rv, ru⟩ := r1.two_inv
      cases rv
      cases ru
      exact ⟨i, j, rfl, hd.1, k _ hd.2 _ S1 H1 w1 itr_ok⟩, x⟩
end
/-! ### comprehensions -/
def wipeD (ρ : En) : List Nat → En
  | [] => ρ
  | v :: vs => (wipeD ρ vs).set v .em
theorem wipeD_length (ρ : En) : ∀ vs : List Nat, (wipeD ρ vs).length = ρ.length
  | [] => rfl
  | v :: vs => by unfold wipeD; rw [List.length_set, wipeD_length ρ vs]
theorem wipeD_get (ρ : En) (j : Nat) : ∀ vs : List Nat, (wipeD ρ vs)[j]? = if j ∈ vs ∧ j < ρ.length then some .em else ρ[j]?
  | [] => by simp [wipeD]
  | v :: vs => by
    have ih := wipeD_get ρ j vs
    have hl : (wipeD ρ vs).length = ρ.length := wipeD_length ρ vs
    unfold wipeD
    by_cases c : v = j
    · subst c
      by_cases hj : v < ρ.length
      · rw [List.getElem?_set_self (by rw [hl]; exact hj), if_pos ⟨List.mem_cons_self, hj⟩]
      · rw [if_neg (fun z => hj z.2), List.getElem?_eq_none (by simpa [hl] using hj), List.getElem?_eq_none (by simpa using hj)]
    · rw [List.getElem?_set_ne c, ih]
      have q : (j ∈ v :: vs ∧ j < ρ.length) ↔ (j ∈ vs ∧ j < ρ.length) := by
        constructor
        · rintro ⟨a, b⟩
          rcases List.mem_cons.mp a with z | z
          · exact absurd z.symm c
          · exact ⟨z, b⟩
        · rintro ⟨a, b⟩; exact ⟨List.mem_cons_of_mem _ a, b⟩
      simp only [q]
theorem RE.wipe {mg : Mg} {S0 H0 S H : Hp} {σ : L2.St} {ρ : En} (R : RE mg S0 H0 S H σ ρ) (vs : List Nat) : RE mg S0 H0 S H (L2.wipe σ vs) (wipeD ρ vs) := by
  have old : ∀ (i : Nat) (s : Sl), (wipeD ρ vs)[i]? = some s → s = .em ∨ (ρ[i]? = some s ∧ (L2.wipe σ vs)[i]? = σ[i]?) := fun i s e => by
    rw [wipeD_get] at e
    rw [wipe_get, ← R.len]
    by_cases c : i ∈ vs ∧ i < ρ.length
    · rw [if_pos c] at e; exact .inl (Option.some.inj e).symm
    · rw [if_neg c] at e ⊢; exact .inr ⟨e, rfl⟩
  obtain ⟨A, h1, h2⟩ := R.own
  have o1 : ∀ (i : Nat) (o : Ow), (wipeD ρ vs)[i]? = some (.own o) → ρ[i]? = some (.own o) ∧ (L2.wipe σ vs)[i]? = σ[i]? := fun i o e => (old i _ e).resolve_left (by intro z; cases z)
  refine ⟨R.wd, by rw [wipeD_length, wipe_length]; exact R.len, fun i d e => ?_, A, fun i o e => ?_, fun i j o o' a b => h2 i j o o' (o1 i o a).1 (o1 j o' b).1⟩
  · have q := (old i _ e).resolve_left (by intro z; cases z)
    rw [q.2]; exact R.val i d q.1
  · have q := o1 i o e
    rw [q.2]; exact h1 i o q.1
/-- [elt for target in iter if ..] -/
def fLc (ti : TAd) (tg : TGd) (tt : TTd) (te : TEd) (vs : List Nat) : TAd := fun ρ P Xp => ti ρ (fun items => ∃ I : Nat → List D → Prop, I 0 [] ∧
  (∀ (i : Nat) x acc, items[i]? = some x → I i acc → tg x (wipeD ρ vs) fun ρ2 => tt ρ2 (fun b => if b = true then te ρ2 (fun y => acc.length < sizeLine ∧ I (i + 1) (acc ++ [y])) NoX else I (i + 1) acc) NoX) ∧ ∀ acc, I items.length acc → P acc) Xp
theorem lift_lc {mg : Mg} {W : WX} {ti : TAd} {tg : TGd} {tt : TTd} {te : TEd} {vs : List Nat} (σ : L2.St) (H : Hp) (Q : VK) (h : liftF mg W (fLc ti tg tt te vs) σ H Q) : tLc (liftI mg W ti) (liftG mg vs tg) (liftT mg W0 tt) (liftE mg W0 te) vs σ H Q := by
  obtain ⟨S0, H0, S, ρ, P, Xp, R, h, k, x⟩ := h
  refine ⟨S0, H0, S, ρ, _, Xp, R, h, fun items ⟨I, i0, iS, iE⟩ J S1 H1 w1 ok D hD => ?_, x⟩
  have hDH : H D = none := w1.free hD
  refine ⟨fun i m H' => ∃ S' acc vl, Wd S H S' H' ∧ Same S1 S' ∧ S' D = none ∧ H' D = some (.lst vl) ∧ Reps mg S' vl acc ∧ I i acc ∧ i + m = items.length,
    ⟨items.length, S1, [], [], w1.mut _ hDH (w1.sfree hD), Same.refl _, w1.sfree hD, upd_same, .nil, i0, by omega⟩, fun i m H' ⟨S', acc, vl, w', s', hs', e', r', hI, em⟩ => ?_⟩
  by_cases hi : i < items.length
  · refine .inr ⟨ok.go i H' (s'.trans w'.sh) hi, fun H2 => ∃ S2 acc2 vl2, Wd S H S2 H2 ∧ Same S1 S2 ∧ S2 D = none ∧ H2 D = some (.lst vl2) ∧ Reps mg S2 vl2 acc2 ∧ I (i + 1) acc2, fun H2 ⟨S2, acc2, vl2, w2, s2, hs2, e2, r2, hI2⟩ => ⟨m - 1, by omega, S2, acc2, vl2, w2, s2, hs2, e2, r2, hI2, by omega⟩, fun v H2 hy => ?_⟩
    obtain ⟨S2, w2, r2⟩ := ok.yld i S' H' v H2 s' w'.sh hy _ (List.getElem?_eq_getElem hi)
    have w02 := w'.trans w2
    have hsD : ∀ S3 H3, Wd S' H' S3 H3 → S3 D = none := fun S3 H3 w => w.nw D hs' (by rw [e']; intro z; cases z)
    refine ⟨S0, H0, S2, _, _, _, (R.grow w02).wipe vs, r2, iS i _ acc (List.getElem?_eq_getElem hi) hI, fun ρ3 h3 σ3 S3 H3 R3 ew w3 => ⟨ew.trans wipe_wipe, ?_⟩⟩
    have w23 := w2.trans w3
    refine ⟨S0, H0, S3, ρ3, _, _, R3, h3, fun b hb S4 H4 w4 => ?_, xOk.no⟩
    have w24 := w23.trans w4
    cases b with
    | true =>
      rw [if_pos rfl] at hb
      refine iteT ?_
      refine ⟨S0, H0, S4, ρ3, _, _, R3.grow w4, hb, fun y hy v5 S5 H5 w5 r5 => ?_, xOk.no⟩
      have w25 := w24.trans w5
      have e5 : H5 D = some (.lst vl) := w25.hh _ _ e'
      have s5 : S5 D = none := hsD _ _ w25
      refine ⟨vl, e5, by rw [r'.length]; exact hy.1, S5, acc ++ [y], vl ++ [v5], (w'.trans w25).mut _ hDH s5, s'.trans w25.ss, s5, upd_same, (r'.mono w25.ss).append (.one r5), hy.2⟩
    | false =>
      rw [if_neg Bool.false_ne_true] at hb
      refine iteF ?_
      exact ⟨S4, acc, vl, w'.trans w24, s'.trans w24.ss, hsD _ _ w24, w24.hh _ _ e', r'.mono w24.ss, hb⟩
  · have ei : i = items.length := by omega
    subst ei
    exact .inl ⟨ok.stop _ H' (s'.trans w'.sh) (Nat.le_refl _), k acc (iE acc hI) D vl S' H' w' hDH hs' e' r'⟩
def tYes : TTd := fun _ P _ => P true
abbrev DTs (X : Cx) (ifs : List Expr) (tt : TTd) : Prop := PTs X ifs (liftT (gd X) W0 tt)
section
variable {X : Cx} {W : WX} {elt tg iter : Expr} {ifs : List Expr} {scope : Scope} {own : List (Str × Nat)} {pos : Pos} {ti : TAd} {g : TGd} {tt : TTd} {te : TEd}
theorem dts_nil : DTs X [] tYes := ⟨fun pins s σ H Q I ⟨S0, H0, S, ρ, P, Xp, R, h, k, x⟩ => pts_nil.run pins s σ H Q I (k _ h S H (.refl R.wd.sh))⟩
theorem dts_one {c : Expr} (h : DT X W0 c tt) : DTs X [c] tt := pts_one h
theorem df_lc (hc : X.calm = true) (hN : X.N.Nodup) (hi : DI X W tg iter ti) (ok : BlkOk X.N X.env.scope scope own)
    (hg : ∀ (s : Shared) (H : Hp) (C : Addr) (cl : List (Str × Addr)) (fp : List Addr), DG (X.blk s H scope (compEnvC scope cl C X.env) fp) (own.map (·.2)) tg g) (ht : ∀ (s : Shared) (H : Hp) (C : Addr) (cl : List (Str × Addr)) (fp : List Addr), DTs (X.blk s H scope (compEnvC scope cl C X.env) fp) ifs tt)
    (he : ∀ (s : Shared) (H : Hp) (C : Addr) (cl : List (Str × Addr)) (fp : List Addr), DE (X.blk s H scope (compEnvC scope cl C X.env) fp) W0 elt te) (hs : ∀ x, foldedSetIterable iter X.env x = pure x := by intro _; rfl) :
    DF X W (.ListComp elt [⟨tg, iter, ifs, 0⟩] scope pos) (fLc ti g tt te (own.map (·.2))) := PE.weak (pe_lc hc hN hi ok hg ht he hs) lift_lc
end
/-! ### defs -/
def startD (n : Nat) (ds : List D) : En := ds.map Sl.val ++ List.replicate (n - ds.length) .em
theorem startD_val : ∀ {ds : List D} {n i : Nat} {d : D}, (startD n ds)[i]? = some (.val d) → ds[i]? = some d := fun {ds n i d} h => by
  unfold startD at h
  by_cases c : i < ds.length
  · rw [List.getElem?_append_left (by simpa using c), List.getElem?_map] at h
    cases e : ds[i]? with
    | none => rw [e] at h; cases h
    | some x => rw [e] at h; cases h; rfl
  · rw [List.getElem?_append_right (by simpa using c)] at h
    rw [List.getElem?_replicate] at h
    split at h
    · cases h
    · cases h
theorem startD_own {ds : List D} {n i : Nat} {o : Ow} (h : (startD n ds)[i]? = some (.own o)) : False := by
  unfold startD at h
  by_cases c : i < ds.length
  · rw [List.getElem?_append_left (by simpa using c), List.getElem?_map] at h
    cases e : ds[i]? with
    | none => rw [e] at h; cases h
    | some x => rw [e] at h; cases h
  · rw [List.getElem?_append_right (by simpa using c)] at h
    rw [List.getElem?_replicate] at h
    split at h
    · cases h
    · cases h
theorem RE.start {mg : Mg} {S H : Hp} (hs : Same S H) {N : List Str} {vs : List V} {ds : List D} (r : Reps mg S vs ds) : RE mg S H S H (L2.start N vs) (startD N.length ds) where
  wd := .refl hs
  len := by unfold startD L2.start; simp [r.length]
  val := fun i d e => by
    obtain ⟨v, hv, rv⟩ := r.get (startD_val e)
    refine ⟨v, ?_, rv⟩
    unfold L2.start
    have hi : i < vs.length := (List.getElem?_eq_some_iff.mp hv).1
    rw [List.getElem?_append_left (by simpa using hi), List.getElem?_map, hv]
    rfl
  own := ⟨fun _ => 0, fun i o e => (startD_own e).elim, fun i j o o' e => (startD_own e).elim⟩
/-- a def keeps its promise: from its body's walk -/
theorem ok_def {P : Program} {w : World} {K : PySem.W.Frag} {mg : Str → Option Value} {base : Heap} {x qual : Str} {st : Stmt} {f : Addr} {fd : FuncData} {N ps : List Str} {k : Nat} {sp : Spd} {t : TSd} (F : Fun K x qual st f fd) (S : FnScope N ps (defScope st))
    (body : ∀ (cdv : Value) (A : Around) (outer : List Env) (s : Shared) (H : Hp) (E : XK) (W : WX), Room k (A.deeper (envOfC qual (defScope st) s.heap.objs.size f cdv)) → (∀ c d σ H, W c d σ H = E c d H) → Takes (cxOf (L2.CX P w) P w K mg base N qual (defScope st) f cdv A outer s H E) W → DSs (cxOf (L2.CX P w) P w K mg base N qual (defScope st) f cdv A outer s H E) W (defBody st) t)
    (pure : ∀ ds Q Xp, ds.length = ps.length → sp ds Q Xp → t { nx := fun _ => Q .non, rt := Q, ro := fun o => Q o.d, xc := fun C fs _ => Xp C fs } (startD N.length ds)) :
    FnOk P w K mg base (L2.CX P w) (k + 1) f fd ps (spL ⟨K, mg⟩ ps.length sp) := by
  refine F.okX S (fun vs H Q E h => h.1) (fun cdv A outer s H vs Q E hr h => ?_)
  obtain ⟨hl, S1, ds, P1, Xp, sh, r, hsp, kv, kx⟩ := h
  have tk : Takes (cxOf (L2.CX P w) P w K mg base N qual (defScope st) f cdv A outer s H E) (fun c d _ H => E c d H) := takes_of rfl rfl rfl rfl
  refine ⟨_, body cdv A outer s H E _ hr (fun _ _ _ _ => rfl) tk, S1, H, S1, _, _, RE.start sh r, pure ds P1 Xp (by rw [← r.length]; exact hl) hsp, ?_⟩
  exact { nx := fun ρ' h' σ' S' H' R' _ => kv _ h' _ S' H' R'.wd .non,
          rt := fun d hd v S' H' w' r' => kv d hd v S' H' w' r',
          ro := fun o ho p S' H' w' hp hs' ow => by
            obtain ⟨u, hu, hr'⟩ := ow.ho
            have ss : Same S' (upd S' p u) := fun q v e => by rw [upd_ne (ne_of_none e hs')]; exact e
            exact kv _ ho _ _ _ (w'.frz hp hu hs') (hr' _ ss upd_same),
          bk := fun _ h => h.elim, ct := fun _ h => h.elim,
          xc := fun C fs ρ' h' c d' σ' S' H' e R' rx => kx C fs h' c d' S' H' e R'.wd rx }
/-- .. one that hands back a new list -/
theorem ok_defF {P : Program} {w : World} {K : PySem.W.Frag} {mg : Str → Option Value} {base : Heap} {x qual : Str} {st : Stmt} {f : Addr} {fd : FuncData} {N ps : List Str} {k : Nat} {sp : Spf} {t : TSd} (F : Fun K x qual st f fd) (S : FnScope N ps (defScope st))
    (body : ∀ (cdv : Value) (A : Around) (outer : List Env) (s : Shared) (H : Hp) (E : XK) (W : WX), Room k (A.deeper (envOfC qual (defScope st) s.heap.objs.size f cdv)) → (∀ c d σ H, W c d σ H = E c d H) → Takes (cxOf (L2.CX P w) P w K mg base N qual (defScope st) f cdv A outer s H E) W → DSs (cxOf (L2.CX P w) P w K mg base N qual (defScope st) f cdv A outer s H E) W (defBody st) t)
    (pure : ∀ ds Q Xp, ds.length = ps.length → sp ds Q Xp → t { nx := fun _ => False, rt := fun _ => False, ro := fun o => match o with | .lst l => Q l | _ => False, xc := fun C fs _ => Xp C fs } (startD N.length ds)) :
    FnOk P w K mg base (L2.CX P w) (k + 1) f fd ps (spF ⟨K, mg⟩ ps.length sp) := by
  refine F.okX S (fun vs H Q E h => h.1) (fun cdv A outer s H vs Q E hr h => ?_)
  obtain ⟨hl, S1, ds, P1, Xp, sh, r, hsp, kv, kx⟩ := h
  have tk : Takes (cxOf (L2.CX P w) P w K mg base N qual (defScope st) f cdv A outer s H E) (fun c d _ H => E c d H) := takes_of rfl rfl rfl rfl
  refine ⟨_, body cdv A outer s H E _ hr (fun _ _ _ _ => rfl) tk, S1, H, S1, _, _, RE.start sh r, pure ds P1 Xp (by rw [← r.length]; exact hl) hsp, ?_⟩
  exact { nx := fun ρ' h' => h'.elim, rt := fun d hd => hd.elim,
          ro := fun o ho p S' H' w' hp hs' ow => by
            cases o with
            | lst l => obtain ⟨vs', e1, r1⟩ := ow; exact kv l ho p vs' S' H' w' hp hs' e1 r1
            | ins C fs => exact ho.elim,
          bk := fun _ h => h.elim, ct := fun _ h => h.elim,
          xc := fun C fs ρ' h' c d' σ' S' H' e R' rx => kx C fs h' c d' S' H' e R'.wd rx }
end Z

/-! Z: operators, comparisons, built-ins, told of data. -/
namespace Z
open PySem PySem.Spec PyProof.Rows L2
section
variable {X : Cx} {mg : Mg}
/-! ### ints -/
def oI (C : Int → Int → Prop) (g : Int → Int → Int) : O2 := fun x y P => match x, y with | .int i, .int j => C i j ∧ P (.int (g i j)) | _, _ => False
theorem or_I {f : Value → Value → Sem Value} {C : Int → Int → Prop} {g : Int → Int → Int} (h : OpR X f (rI C fun i j => .int (g i j))) : OpR X f (rL (gd X) (oI C g)) := by
  intro pins s σ H x y v u Q I rx ry ⟨S, dx, dy, P, sh, r1, r2, ho, k⟩
  cases dx <;> cases dy <;> first | exact ho.elim | skip
  cases r1; cases r2
  exact h pins s σ H _ _ v u Q I rx ry ⟨_, _, rfl, rfl, ho.1, k _ ho.2 _ S H (.refl sh) (.int _)⟩
theorem or_I0 {f : Value → Value → Sem Value} {g : Int → Int → Int} (h : OpR X f (rI0 fun i j => .int (g i j))) : OpR X f (rL (gd X) (oI (fun _ _ => True) g)) := by
  intro pins s σ H x y v u Q I rx ry ⟨S, dx, dy, P, sh, r1, r2, ho, k⟩
  cases dx <;> cases dy <;> first | exact ho.elim | skip
  cases r1; cases r2
  exact h pins s σ H _ _ v u Q I rx ry ⟨_, _, rfl, rfl, k _ ho.2 _ S H (.refl sh) (.int _)⟩
/-- // by any divisor below 2 ^ 9000 -/
def CDivX (_ j : Int) : Prop := j ≠ 0 ∧ j.natAbs.log2 < 9000
theorem op_fdivX : OpR X (binaryOp .FloorDiv) (rI CDivX fun i j => .int (i.fdiv j)) := opI fun _ _ _ _ _ _ _ hc q => floordiv_int hc.1 q (.inl (PyProof.noPylong_of_log2 hc.2))
abbrev oSub : O2 := oI (fun _ _ => True) fun i j => i - j
abbrev oMul : O2 := oI CMulW fun i j => i * j
abbrev oFdiv : O2 := oI CDivX fun i j => i.fdiv j
abbrev oMod : O2 := oI (fun _ j => j ≠ 0) fun i j => i.fmod j
abbrev oPow : O2 := oI CPow fun i j => i ^ j.toNat
theorem or_sub : OpR X (binaryOp .Sub) (rL (gd X) oSub) := or_I0 op_sub
theorem or_mul : OpR X (binaryOp .Mult) (rL (gd X) oMul) := or_I op_mulW
theorem or_fdiv : OpR X (binaryOp .FloorDiv) (rL (gd X) oFdiv) := or_I op_fdivX
theorem or_mod : OpR X (binaryOp .Mod) (rL (gd X) oMod) := or_I op_modN
theorem or_pow : OpR X (binaryOp .Pow) (rL (gd X) oPow) := or_I op_pow
def oNeg : D → (D → Prop) → Prop := fun x P => match x with | .int i => P (.int (-i)) | _ => False
theorem ur_neg : UnR X (unaryOp .USub) (uL (gd X) oNeg) := by
  intro pins s σ H x v Q I rx ⟨S, dx, P, sh, r1, ho, k⟩
  cases dx <;> first | exact ho.elim | skip
  cases r1
  exact un_neg pins s σ H _ v Q I rx ⟨_, rfl, k _ ho _ S H (.refl sh) (.int _)⟩
/-- + of ints, texts, lists; of tuples where the first is not empty -/
def oAdd : O2 := fun x y P => match x, y with
  | .int i, .int j => P (.int (i + j))
  | .str i, .str j => i.length + j.length ≤ sizeLine ∧ P (.str (i ++ j))
  | .lst a, .lst b => a.length + b.length ≤ sizeLine ∧ P (.lst (a ++ b))
  | .tup a, .tup b => a ≠ [] ∧ a.length + b.length ≤ sizeLine ∧ P (.tup (a ++ b))
  | _, _ => False
theorem Inv.lstR {X : Cx} {pins : List (Addr × Obj)} {σ : L2.St} {H : Hp} {s : Shared} {l : Addr} {xs : List V} (I : Inv X pins σ H s) (hH : Rd H l (.lst xs)) : xs.length ≤ sizeLine ∧ ∃ (its : List Value) (n : Nat), Vals xs its ∧ xs.length = its.length ∧ s.heap.get? l = some { cls := .type "list", data := .seq its.toArray n } := by
  obtain ⟨h1, its, n, h2, h3⟩ := hH.ok I.hok
  exact ⟨h1, its, n, h2, h2.length, h3⟩
theorem cat_ok {pins : List (Addr × Obj)} {s : Shared} {σ : L2.St} {H : Hp} {l b : Addr} {xs zs : List V} {Q : VK} {v u : Value} (I : Inv X pins σ H s) (rx : RelV (.ref l) v) (ry : RelV (.ref b) u) (hH : Rd H l (.lst xs)) (hB : Rd H b (.lst zs)) (hz : xs.length + zs.length ≤ sizeLine)
    (q : ∀ p, H p = none → Q (.ref p) (upd H p (.lst (xs ++ zs)))) : wpAny (model X.prog X.w) X.A (binaryOp .Add v u) (EP X pins σ Q) X.xe s := by
  cases rx
  cases ry
  obtain ⟨z, its, n, r, hl, e⟩ := Inv.lstR I hH
  obtain ⟨z2, its2, n2, r2, hl2, e2⟩ := Inv.lstR I hB
  refine PySem.P.add_list e e2 ?_ (by rw [List.size_toArray, List.size_toArray]; omega)
  have ea : its.toArray ++ its2.toArray = (its ++ its2).toArray := by simp
  rw [ea]
  exact ⟨.ref _, _, I.lnew (t' := s.toks) (r.append r2) (by rw [List.length_append]; omega), rfl, q _ I.fresh⟩
theorem Reps.nil_iff {S : Hp} {vs : List V} {ds : List D} (h : Reps mg S vs ds) : vs = [] ↔ ds = [] := by
  cases h <;> simp
theorem or_add : OpR X (binaryOp .Add) (rL (gd X) oAdd) := by
  intro pins s σ H x y v u Q I rx ry ⟨S, dx, dy, P, sh, r1, r2, ho, k⟩
  cases dx <;> cases dy <;> first | exact ho.elim | skip
  · cases r1; cases r2
    exact op_add pins s σ H _ _ v u Q I rx ry ⟨_, _, rfl, rfl, k _ ho _ S H (.refl sh) (.int _)⟩
  · cases r1; cases r2
    exact op_add_str pins s σ H _ _ v u Q I rx ry ⟨_, _, rfl, rfl, ho.1, k _ ho.2 _ S H (.refl sh) (.str _)⟩
  · cases r1 with
    | tup e1 q1 => cases r2 with
      | tup e2 q2 =>
        refine op_catT pins s σ H _ _ v u Q I rx ry ⟨_, _, _, _, rfl, rfl, .inl (.inl (sh _ _ e1)), .inl (.inl (sh _ _ e2)), fun z => ho.1 (q1.nil_iff.mp z), by rw [q1.length, q2.length]; exact ho.2.1, fun z => ?_, fun z p hp => k.tup (.refl sh) (q1.append q2) ho.2.2 hp⟩
        have z' := q2.nil_iff.mp z
        have h3 := ho.2.2
        rw [z', List.append_nil] at h3
        exact k _ h3 _ S H (.refl sh) (.tup e1 q1)
  · cases r1 with
    | lst e1 q1 => cases r2 with
      | lst e2 q2 =>
        refine cat_ok I rx ry (rd_mono sh e1) (rd_mono sh e2) (by rw [q1.length, q2.length]; exact ho.1) fun p hp => ?_
        have hs : S p = none := Same.free sh hp
        exact vOk.frz k _ ho.2 p _ S _ ((Wd.refl sh).mut _ hp hs) hp hs upd_same (q1.append q2)
/-! ### comparisons -/
def oC (g : Int → Int → Bool) : O2 := fun x y P => match x, y with | .int i, .int j => P (.bl (g i j)) | _, _ => False
theorem or_C {f : Value → Value → Sem Value} {g : Int → Int → Bool} (h : OpR X f (rI0 fun i j => .bl (g i j))) : OpR X f (rL (gd X) (oC g)) := by
  intro pins s σ H x y v u Q I rx ry ⟨S, dx, dy, P, sh, r1, r2, ho, k⟩
  cases dx <;> cases dy <;> first | exact ho.elim | skip
  cases r1; cases r2
  exact h pins s σ H _ _ v u Q I rx ry ⟨_, _, rfl, rfl, k _ ho _ S H (.refl sh) (.bl _)⟩
abbrev oLt : O2 := oC fun i j => decide (i < j)
abbrev oLe : O2 := oC fun i j => decide (i ≤ j)
abbrev oGt : O2 := oC fun i j => decide (j < i)
abbrev oGe : O2 := oC fun i j => decide (j ≤ i)
theorem or_lt : OpR X (compareOp .Lt) (rL (gd X) oLt) := or_C op_lt
theorem or_le : OpR X (compareOp .LtE) (rL (gd X) oLe) := or_C op_le
theorem or_gt : OpR X (compareOp .Gt) (rL (gd X) oGt) := or_C op_gt
theorem or_ge : OpR X (compareOp .GtE) (rL (gd X) oGe) := or_C op_ge
end
/-! ### data at any depth -/
mutual
def pyOf : D → PyData
  | .non => .none
  | .bl b => .bool b
  | .int i => .int i
  | .str x => .str x
  | .tup l => .tuple (pyAll l)
  | .lst l => .list (pyAll l)
  | .ty _ => .none
  | .gl _ => .none
  | .ins _ _ => .none
  | .scr _ => .none
def pyAll : List D → List PyData
  | [] => []
  | d :: r => pyOf d :: pyAll r
end
mutual
def dataD : D → Bool
  | .non => true
  | .bl _ => true
  | .int _ => true
  | .str _ => true
  | .tup l => dataAll l
  | .lst l => dataAll l
  | .ty _ => false
  | .gl _ => false
  | .ins _ _ => false
  | .scr _ => false
def dataAll : List D → Bool
  | [] => true
  | d :: r => dataD d && dataAll r
end
section
variable {X : Cx} {mg : Mg}
mutual
theorem Rep.dp {K : PySem.W.Frag} {S H : Hp} (sh : Same S H) : ∀ {d : D} {v : V}, Rep mg S v d → dataD d = true → Dp K H v (pyOf d)
  | _, _, .non, _ => by rw [pyOf]; exact .non
  | _, _, .bl b, _ => by rw [pyOf]; exact .bl b
  | _, _, .int i, _ => by rw [pyOf]; exact .int i
  | _, _, .str x, _ => by rw [pyOf]; exact .str x
  | _, _, .ty n, h => by rw [dataD] at h; cases h
  | _, _, .gl _, h => by rw [dataD] at h; cases h
  | _, _, .tup e r, h => by rw [dataD] at h; rw [pyOf]; exact .tup (.inl (.inl (sh _ _ e))) (Reps.dp sh r h)
  | _, _, .lst e r, h => by rw [dataD] at h; rw [pyOf]; exact .lst (.inl (rd_mono sh e)) (Reps.dp sh r h)
  | _, _, .ins _ _ _, h => by rw [dataD] at h; cases h
  | _, _, .scr _ _, h => by rw [dataD] at h; cases h
theorem Reps.dp {K : PySem.W.Frag} {S H : Hp} (sh : Same S H) : ∀ {ds : List D} {vs : List V}, Reps mg S vs ds → dataAll ds = true → DpAll K H vs (pyAll ds)
  | _, _, .nil, _ => by rw [pyAll]; exact .nil
  | _, _, .cons h r, e => by
    rw [dataAll, Bool.and_eq_true] at e
    rw [pyAll]
    exact .cons (Rep.dp sh h e.1) (Reps.dp sh r e.2)
end
/-- what may be compared: data of small depth -/
def okD (d : D) : Prop := dataD d = true ∧ SeqAt.shaped (pyOf d) = true
def eqD (x y : D) : Bool := PyData.eqv (pyOf x) (pyOf y)
/-- == of ints, texts, bools, None directly; of lists and tuples as data -/
def oEqN (neg : Bool) : O2 := fun x y P => match x, y with
  | .int i, .int j => P (.bl (if neg then !decide (i = j) else decide (i = j)))
  | .str i, .str j => P (.bl (if neg then !decide (i = j) else decide (i = j)))
  | .bl i, .bl j => P (.bl (if neg then !decide (i = j) else decide (i = j)))
  | x, y => okD x ∧ okD y ∧ P (.bl (if neg then !eqD x y else eqD x y))
abbrev oEq : O2 := oEqN false
abbrev oNe : O2 := oEqN true
theorem eq_data (hu : X.A.units + 64 < cLine) {pins : List (Addr × Obj)} {s : Shared} {σ : L2.St} {H S : Hp} {x y : V} {v u : Value} {Q : VK} {dx dy : D} {P : D → Prop} (I : Inv X pins σ H s) (rx : RelV x v) (ry : RelV y u) (sh : Same S H) (r1 : Rep (gd X) S x dx) (r2 : Rep (gd X) S y dy) (k : vOk (gd X) S H P Q)
    (ho : okD dx ∧ okD dy ∧ P (.bl (eqD dx dy))) : wpAny (model X.prog X.w) X.A (compareOp .Eq v u) (EP X pins σ Q) X.xe s :=
  op_eqD hu pins s σ H x y v u Q I rx ry ⟨_, _, r1.dp sh ho.1.1, r2.dp sh ho.2.1.1, ho.1.2, ho.2.1.2, k _ ho.2.2 _ S H (.refl sh) (.bl _)⟩
theorem ne_data (hu : X.A.units + 64 < cLine) {pins : List (Addr × Obj)} {s : Shared} {σ : L2.St} {H S : Hp} {x y : V} {v u : Value} {Q : VK} {dx dy : D} {P : D → Prop} (I : Inv X pins σ H s) (rx : RelV x v) (ry : RelV y u) (sh : Same S H) (r1 : Rep (gd X) S x dx) (r2 : Rep (gd X) S y dy) (k : vOk (gd X) S H P Q)
    (ho : okD dx ∧ okD dy ∧ P (.bl (!eqD dx dy))) : wpAny (model X.prog X.w) X.A (compareOp .NotEq v u) (EP X pins σ Q) X.xe s :=
  op_neD hu pins s σ H x y v u Q I rx ry ⟨_, _, r1.dp sh ho.1.1, r2.dp sh ho.2.1.1, ho.1.2, ho.2.1.2, k _ ho.2.2 _ S H (.refl sh) (.bl _)⟩
theorem dec_inj {α : Type} [DecidableEq α] {f : α → V} (hf : ∀ a b, f a = f b → a = b) (a b : α) : decide (f a = f b) = decide (a = b) := by
  by_cases h : a = b
  · subst h; simp
  · rw [decide_eq_false h, decide_eq_false fun z => h (hf _ _ z)]
theorem or_eq (hu : X.A.units + 64 < cLine) : OpR X (compareOp .Eq) (rL (gd X) oEq) := by
  intro pins s σ H x y v u Q I rx ry ⟨S, dx, dy, P, sh, r1, r2, ho, k⟩
  cases dx <;> cases dy <;> first | exact eq_data hu I rx ry sh r1 r2 k ho | skip
  · cases r1; cases r2
    refine op_eq pins s σ H _ _ v u Q I rx ry ⟨rfl, ?_⟩
    rw [dec_inj (f := V.bl) (fun _ _ z => by injection z)]
    exact k _ ho _ S H (.refl sh) (.bl _)
  · cases r1; cases r2
    refine op_eq pins s σ H _ _ v u Q I rx ry ⟨rfl, ?_⟩
    rw [dec_inj (f := V.int) (fun _ _ z => by injection z)]
    exact k _ ho _ S H (.refl sh) (.bl _)
  · cases r1; cases r2
    refine op_eq pins s σ H _ _ v u Q I rx ry ⟨rfl, ?_⟩
    rw [dec_inj (f := V.str) (fun _ _ z => by injection z)]
    exact k _ ho _ S H (.refl sh) (.bl _)
theorem or_ne (hu : X.A.units + 64 < cLine) : OpR X (compareOp .NotEq) (rL (gd X) oNe) := by
  intro pins s σ H x y v u Q I rx ry ⟨S, dx, dy, P, sh, r1, r2, ho, k⟩
  cases dx <;> cases dy <;> first | exact ne_data hu I rx ry sh r1 r2 k ho | skip
  · cases r1; cases r2
    refine op_ne pins s σ H _ _ v u Q I rx ry ⟨rfl, ?_⟩
    rw [dec_inj (f := V.bl) (fun _ _ z => by injection z)]
    exact k _ ho _ S H (.refl sh) (.bl _)
  · cases r1; cases r2
    refine op_ne pins s σ H _ _ v u Q I rx ry ⟨rfl, ?_⟩
    rw [dec_inj (f := V.int) (fun _ _ z => by injection z)]
    exact k _ ho _ S H (.refl sh) (.bl _)
  · cases r1; cases r2
    refine op_ne pins s σ H _ _ v u Q I rx ry ⟨rfl, ?_⟩
    rw [dec_inj (f := V.str) (fun _ _ z => by injection z)]
    exact k _ ho _ S H (.refl sh) (.bl _)
/-! ### x in a list or tuple of flat items -/
def flatD : D → Bool
  | .non => true
  | .bl _ => true
  | .int _ => true
  | .str _ => true
  | _ => false
def eqF : D → D → Bool
  | .non, .non => true
  | .bl a, .bl b => a == b
  | .bl a, .int b => (if a then 1 else 0) == b
  | .int a, .bl b => a == (if b then 1 else 0)
  | .int a, .int b => a == b
  | .str a, .str b => a == b
  | _, _ => false
theorem Rep.flat {S : Hp} {v : V} {d : D} (h : Rep mg S v d) (f : flatD d = true) : flatV v = true := by cases h <;> first | rfl | cases f
theorem Rep.eqF {S : Hp} {v u : V} {d e : D} (h : Rep mg S v d) (h2 : Rep mg S u e) (f : flatD d = true) (f2 : flatD e = true) : eqV v u = eqF d e := by
  cases h <;> cases h2 <;> first | rfl | cases f | cases f2
theorem Reps.flat {S : Hp} : ∀ {vs : List V} {ds : List D}, Reps mg S vs ds → ds.all flatD = true → vs.all flatV = true
  | _, _, .nil, _ => rfl
  | _, _, .cons h r, f => by
    rw [List.all_cons, Bool.and_eq_true] at f ⊢
    exact ⟨h.flat f.1, Reps.flat r f.2⟩
def inD (x : D) (l : List D) : Bool := l.any fun y => eqF y x
theorem Reps.inD {S : Hp} {v : V} {d : D} (h : Rep mg S v d) (f : flatD d = true) : ∀ {vs : List V} {ds : List D}, Reps mg S vs ds → ds.all flatD = true → inV v vs = Z.inD d ds
  | _, _, .nil, _ => rfl
  | _, _, .cons q r, g => by
    rw [List.all_cons, Bool.and_eq_true] at g
    have ih := Reps.inD h f r g.2
    unfold inV at ih ⊢
    unfold Z.inD at ih ⊢
    rw [List.any_cons, List.any_cons, ih, q.eqF h g.1 f]
def oInN (neg : Bool) : O2 := fun x y P => match y with
  | .lst l => flatD x = true ∧ l.all flatD = true ∧ P (.bl (if neg then !inD x l else inD x l))
  | .tup l => flatD x = true ∧ l.all flatD = true ∧ P (.bl (if neg then !inD x l else inD x l))
  | _ => False
theorem or_inN (neg : Bool) {f : Value → Value → Sem Value} (h : OpR X f (rIn X.K neg)) : OpR X f (rL (gd X) (oInN neg)) := by
  intro pins s σ H x y v u Q I rx ry ⟨S, dx, dy, P, sh, r1, r2, ho, k⟩
  cases r2 with
  | lst e r => exact h pins s σ H _ _ v u Q I rx ry ⟨_, _, rfl, .inl (.inl (rd_mono sh e)), r1.flat ho.1, r.flat ho.2.1, by rw [Reps.inD r1 ho.1 r ho.2.1]; exact k _ ho.2.2 _ S H (.refl sh) (.bl _)⟩
  | tup e r => exact h pins s σ H _ _ v u Q I rx ry ⟨_, _, rfl, .inr (.inl (.inl (sh _ _ e))), r1.flat ho.1, r.flat ho.2.1, by rw [Reps.inD r1 ho.1 r ho.2.1]; exact k _ ho.2.2 _ S H (.refl sh) (.bl _)⟩
  | _ => exact ho.elim
abbrev oIn : O2 := oInN false
abbrev oNotIn : O2 := oInN true
theorem or_in : OpR X (compareOp .In) (rL (gd X) oIn) := or_inN false op_in_seq
theorem or_notIn : OpR X (compareOp .NotIn) (rL (gd X) oNotIn) := or_inN true op_notIn_seq
/-! ### subscripts -/
def oIx : O2 := fun x y P => match x, y with
  | .lst l, .int i => ∃ d, atI l i = some d ∧ P d
  | .tup l, .int i => ∃ d, atI l i = some d ∧ P d
  | .scr l, .int i => ∃ d, atI l i = some d ∧ P d
  | .str z, .int i => z.length ≤ sizeLine ∧ ∃ c, atI z.cps.toList i = some c ∧ P (.str ⟨#[c]⟩)
  | _, _ => False
theorem Reps.at {S : Hp} {vs : List V} {ds : List D} (r : Reps mg S vs ds) {i : Int} {d : D} (h : atI ds i = some d) : ∃ v, atI vs i = some v ∧ Rep mg S v d := by
  unfold atI at h ⊢
  rw [r.length]
  cases e : ixN ds.length i with
  | none => rw [e] at h; cases h
  | some j =>
    rw [e] at h
    exact r.get h
theorem ir_ix : IxR X (rL (gd X) oIx) := by
  intro value slice pins s σ H x y v u Q I rx ry ⟨S, dx, dy, P, sh, r1, r2, ho, k⟩ hs
  cases dy <;> cases dx <;> first | exact ho.elim | skip
  all_goals cases r2
  · cases r1
    obtain ⟨hz, c, hc, hP⟩ := ho
    exact ix_str value slice pins s σ H _ _ v u Q I rx ry ⟨_, _, c, rfl, rfl, hz, hc, k _ hP _ S H (.refl sh) (.str _)⟩ hs
  · cases r1 with
    | tup e r =>
      obtain ⟨d, hd, hP⟩ := ho
      obtain ⟨w, hw, rw'⟩ := r.at hd
      exact ix_tup value slice pins s σ H _ _ v u Q I rx ry ⟨_, _, _, w, rfl, rfl, .inl (.inl (sh _ _ e)), hw, k _ hP _ S H (.refl sh) rw'⟩ hs
  · cases r1 with
    | lst e r =>
      obtain ⟨d, hd, hP⟩ := ho
      obtain ⟨w, hw, rw'⟩ := r.at hd
      exact ix_list value slice pins s σ H _ _ v u Q I rx ry ⟨_, _, _, w, rfl, rfl, .inl (rd_mono sh e), hw, k _ hP _ S H (.refl sh) rw'⟩ hs
  · cases r1 with
    | scr e r =>
      obtain ⟨d, hd, hP⟩ := ho
      obtain ⟨w, hw, rw'⟩ := r.at hd
      exact ix_list value slice pins s σ H _ _ v u Q I rx ry ⟨_, _, _, w, rfl, rfl, sq_mono sh e, hw, k _ hP _ S H (.refl sh) rw'⟩ hs
/-! ### built-ins -/
def cLen : Cd := fun ds P => match ds with
  | [.lst l] => P (.int l.length)
  | [.tup l] => P (.int l.length)
  | [.scr l] => P (.int l.length)
  | [.str x] => x.length ≤ sizeLine ∧ P (.int x.length)
  | _ => False
theorem cr_len : CallR X (.builtin "len") (cL (gd X) cLen) := by
  intro pins s σ H xs us Q I r ⟨S, ds, P, sh, r1, ho, k⟩
  match ds, ho with
  | [.lst l], ho =>
    obtain ⟨v, rfl, q⟩ := r1.one_inv
    cases q with
    | lst e q => exact call_len pins s σ H _ us Q I r ⟨_, _, rfl, .inl ⟨_, .inl (rd_mono sh e), rfl⟩, by rw [q.length]; exact k _ ho _ S H (.refl sh) (.int _)⟩
  | [.tup l], ho =>
    obtain ⟨v, rfl, q⟩ := r1.one_inv
    cases q with
    | tup e q => exact call_len pins s σ H _ us Q I r ⟨_, _, rfl, .inr ⟨_, .inl (.inl (sh _ _ e)), rfl⟩, by rw [q.length]; exact k _ ho _ S H (.refl sh) (.int _)⟩
  | [.scr l], ho =>
    obtain ⟨v, rfl, q⟩ := r1.one_inv
    cases q with
    | scr e q => exact call_len pins s σ H _ us Q I r ⟨_, _, rfl, .inl ⟨_, sq_mono sh e, rfl⟩, by rw [q.length]; exact k _ ho _ S H (.refl sh) (.int _)⟩
  | [.str x], ho =>
    obtain ⟨v, rfl, q⟩ := r1.one_inv
    cases q
    exact call_len pins s σ H _ us Q I r ⟨_, _, rfl, ⟨ho.1, rfl⟩, k _ ho.2 _ S H (.refl sh) (.int _)⟩
def cAbs : Cd := fun ds P => match ds with | [.int i] => P (.int (if i < 0 then -i else i)) | _ => False
theorem cr_abs : CallR X (.builtin "abs") (cL (gd X) cAbs) := by
  intro pins s σ H xs us Q I r ⟨S, ds, P, sh, r1, ho, k⟩
  match ds, ho with
  | [.int i], ho =>
    obtain ⟨v, rfl, q⟩ := r1.one_inv
    cases q
    exact call_abs pins s σ H _ us Q I r ⟨_, rfl, k _ ho _ S H (.refl sh) (.int _)⟩
def cInt : Cd := fun ds P => match ds with | [.int i] => P (.int i) | [.bl b] => P (.int (if b then 1 else 0)) | _ => False
theorem cr_int : CallR X (.type "int") (cL (gd X) cInt) := by
  intro pins s σ H xs us Q I r ⟨S, ds, P, sh, r1, ho, k⟩
  match ds, ho with
  | [.int i], ho =>
    obtain ⟨v, rfl, q⟩ := r1.one_inv
    cases q
    exact call_int1 pins s σ H _ us Q I r (.inl ⟨_, rfl, k _ ho _ S H (.refl sh) (.int _)⟩)
  | [.bl i], ho =>
    obtain ⟨v, rfl, q⟩ := r1.one_inv
    cases q
    exact call_int1 pins s σ H _ us Q I r (.inr ⟨_, rfl, k _ ho _ S H (.refl sh) (.int _)⟩)
/-- max(a, b), min(a, b); max(list) -/
def cMax : Cd := fun ds P => match ds with
  | [.int i, .int j] => P (.int (if j > i then j else i))
  | [.lst l] => ∃ ns : List Int, l = ns.map D.int ∧ 0 < ns.length ∧ ∀ m, m ∈ ns → (∀ y, y ∈ ns → y ≤ m) → P (.int m)
  | _ => False
def cMin : Cd := fun ds P => match ds with
  | [.int i, .int j] => P (.int (if j < i then j else i))
  | [.lst l] => ∃ ns : List Int, l = ns.map D.int ∧ 0 < ns.length ∧ ∀ m, m ∈ ns → (∀ y, y ∈ ns → m ≤ y) → P (.int m)
  | _ => False
theorem cr_maxD (hc : X.calm = true) : CallR X (.builtin "max") (cL (gd X) cMax) := by
  intro pins s σ H xs us Q I r ⟨S, ds, P, sh, r1, ho, k⟩
  match ds, ho with
  | [.int i, .int j], ho =>
    obtain ⟨v, u, rfl, q, q2⟩ := r1.two_inv
    cases q; cases q2
    exact call_max2 hc pins s σ H _ us Q I r ⟨_, _, rfl, k _ ho _ S H (.refl sh) (.int _)⟩
  | [.lst l], ho =>
    obtain ⟨ns, rfl, h0, ho⟩ := ho
    obtain ⟨v, rfl, q⟩ := r1.one_inv
    cases q with
    | lst e q =>
      have q' := q.ints_inv
      subst q'
      exact cr_max hc pins s σ H _ us Q I r ⟨_, ns, rfl, .inl (rd_mono sh e), h0, fun m h1 h2 => k _ (ho m h1 h2) _ S H (.refl sh) (.int _)⟩
theorem cr_minD (hc : X.calm = true) : CallR X (.builtin "min") (cL (gd X) cMin) := by
  intro pins s σ H xs us Q I r ⟨S, ds, P, sh, r1, ho, k⟩
  match ds, ho with
  | [.int i, .int j], ho =>
    obtain ⟨v, u, rfl, q, q2⟩ := r1.two_inv
    cases q; cases q2
    exact call_min2 hc pins s σ H _ us Q I r ⟨_, _, rfl, k _ ho _ S H (.refl sh) (.int _)⟩
  | [.lst l], ho =>
    obtain ⟨ns, rfl, h0, ho⟩ := ho
    obtain ⟨v, rfl, q⟩ := r1.one_inv
    cases q with
    | lst e q =>
      have q' := q.ints_inv
      subst q'
      exact cr_min hc pins s σ H _ us Q I r ⟨_, ns, rfl, .inl (rd_mono sh e), h0, fun m h1 h2 => k _ (ho m h1 h2) _ S H (.refl sh) (.int _)⟩
def cSum : Cd := fun ds P => match ds with
  | [.lst l] => ∃ ns : List Int, l = ns.map D.int ∧ P (.int ns.sum)
  | _ => False
theorem cr_sumD (hc : X.calm = true) : CallR X (.builtin "sum") (cL (gd X) cSum) := by
  intro pins s σ H xs us Q I r ⟨S, ds, P, sh, r1, ho, k⟩
  match ds, ho with
  | [.lst l], ho =>
    obtain ⟨ns, rfl, ho⟩ := ho
    obtain ⟨v, rfl, q⟩ := r1.one_inv
    cases q with
    | lst e q =>
      have q' := q.ints_inv
      subst q'
      exact cr_sum hc pins s σ H _ us Q I r ⟨_, ns, rfl, .inl (rd_mono sh e), k _ ho _ S H (.refl sh) (.int _)⟩
def cAny : Cd := fun ds P => match ds with
  | [.lst l] => ∃ bs : List Bool, l = bs.map D.bl ∧ P (.bl (bs.any id))
  | _ => False
def cAll : Cd := fun ds P => match ds with
  | [.lst l] => ∃ bs : List Bool, l = bs.map D.bl ∧ P (.bl (bs.all id))
  | _ => False
theorem cr_anyD (hc : X.calm = true) : CallR X (.builtin "any") (cL (gd X) cAny) := by
  intro pins s σ H xs us Q I r ⟨S, ds, P, sh, r1, ho, k⟩
  match ds, ho with
  | [.lst l], ho =>
    obtain ⟨ns, rfl, ho⟩ := ho
    obtain ⟨v, rfl, q⟩ := r1.one_inv
    cases q with
    | lst e q =>
      have q' := q.bls_inv
      subst q'
      exact cr_any hc pins s σ H _ us Q I r ⟨_, ns, rfl, .inl (rd_mono sh e), k _ ho _ S H (.refl sh) (.bl _)⟩
theorem cr_allD (hc : X.calm = true) : CallR X (.builtin "all") (cL (gd X) cAll) := by
  intro pins s σ H xs us Q I r ⟨S, ds, P, sh, r1, ho, k⟩
  match ds, ho with
  | [.lst l], ho =>
    obtain ⟨ns, rfl, ho⟩ := ho
    obtain ⟨v, rfl, q⟩ := r1.one_inv
    cases q with
    | lst e q =>
      have q' := q.bls_inv
      subst q'
      exact cr_all hc pins s σ H _ us Q I r ⟨_, ns, rfl, .inl (rd_mono sh e), k _ ho _ S H (.refl sh) (.bl _)⟩
/-- tuple(x) -/
def cTup : Cd := fun ds P => match ds with | [.lst l] => P (.tup l) | [.tup l] => P (.tup l) | _ => False
theorem cr_tup : CallR X (.type "tuple") (cL (gd X) cTup) := by
  intro pins s σ H xs us Q I r ⟨S, ds, P, sh, r1, ho, k⟩
  match ds, ho with
  | [.lst l], ho =>
    obtain ⟨v, rfl, q⟩ := r1.one_inv
    cases q with
    | lst e q => exact call_tuple_of pins s σ H _ us Q I r ⟨_, _, rfl, .inl ⟨.inl (rd_mono sh e), fun p hp => k.tup (.refl sh) q ho hp⟩⟩
  | [.tup l], ho =>
    obtain ⟨v, rfl, q⟩ := r1.one_inv
    cases q with
    | tup e q => exact call_tuple_of pins s σ H _ us Q I r ⟨_, _, rfl, .inr ⟨.inl (.inl (sh _ _ e)), k _ ho _ S H (.refl sh) (.tup e q)⟩⟩
/-- list(x): a new list -/
def cLst : Fd := fun ds P => match ds with | [.lst l] => P l | [.tup l] => P l | [.scr l] => P l | _ => False
theorem cr_lst : CallR X (.type "list") (cF (gd X) cLst) := by
  intro pins s σ H xs us Q I r ⟨S, ds, P, sh, r1, ho, k⟩
  match ds, ho with
  | [.lst l], ho =>
    obtain ⟨v, rfl, q⟩ := r1.one_inv
    cases q with
    | lst e q => exact call_list_of pins s σ H _ us Q I r ⟨_, _, rfl, .inl (.inl (rd_mono sh e)), fun p hp => k.new (.refl sh) q ho hp⟩
  | [.tup l], ho =>
    obtain ⟨v, rfl, q⟩ := r1.one_inv
    cases q with
    | tup e q => exact call_list_of pins s σ H _ us Q I r ⟨_, _, rfl, .inr (.inl (.inl (sh _ _ e))), fun p hp => k.new (.refl sh) q ho hp⟩
  | [.scr l], ho =>
    obtain ⟨v, rfl, q⟩ := r1.one_inv
    cases q with
    | scr e q => exact call_list_of pins s σ H _ us Q I r ⟨_, _, rfl, .inl (sq_mono sh e), fun p hp => k.new (.refl sh) q ho hp⟩
def cGcd : Cd := fun ds P => match ds with | [.int a, .int b] => P (.int ((Nat.gcd a.natAbs b.natAbs : Nat) : Int)) | _ => False
theorem cr_gcdD : CallR X (.builtin "math.gcd") (cL (gd X) cGcd) := by
  intro pins s σ H xs us Q I r ⟨S, ds, P, sh, r1, ho, k⟩
  match ds, ho with
  | [.int i, .int j], ho =>
    obtain ⟨v, u, rfl, q, q2⟩ := r1.two_inv
    cases q; cases q2
    exact cr_gcd pins s σ H _ us Q I r ⟨_, _, rfl, k _ ho _ S H (.refl sh) (.int _)⟩
/-! ### isinstance -/
/-- the built-in type of data -/
def tyD : D → Option String
  | .non => some "NoneType"
  | .bl _ => some "bool"
  | .int _ => some "int"
  | .str _ => some "str"
  | .lst _ => some "list"
  | .tup _ => some "tuple"
  | _ => none
theorem Rep.tyx {K : PySem.W.Frag} {S H : Hp} (sh : Same S H) {v : V} {d : D} (h : Rep mg S v d) {t : String} (e : tyD d = some t) : TyX K H v (.type t) := by
  cases h with
  | non => cases e; exact .base .non
  | bl b => cases e; exact .base (.bl b)
  | int b => cases e; exact .base (.int b)
  | str b => cases e; exact .base (.str b)
  | tup e1 _ => cases e; exact .base (.tup (sh _ _ e1))
  | lst e1 _ =>
    cases e
    rcases e1 with e1 | ⟨o, e1⟩
    · exact .base (.lst (sh _ _ e1))
    · exact .base (.frz (sh _ _ e1))
  | _ => cases e
/-- isinstance(x, T) for data x and a built-in T -/
def cIsi : Cd := fun ds P => match ds with | [x, .ty n] => ∃ t b, tyD x = some t ∧ kitB t n = some b ∧ P (.bl b) | _ => False
theorem cr_isi : CallR X (.builtin "isinstance") (cL (gd X) cIsi) := by
  intro pins s σ H xs us Q I r ⟨S, ds, P, sh, r1, ho, k⟩
  match ds, ho with
  | [x, .ty n], ho =>
    obtain ⟨t, b, h1, h2, h3⟩ := ho
    obtain ⟨v, u, rfl, q, q2⟩ := r1.two_inv
    cases q2
    exact call_isi pins s σ H _ us Q I r ⟨v, _, _, _, b, rfl, .ty n, q.tyx sh h1, kit_ty h2, k _ h3 _ S H (.refl sh) (.bl _)⟩
end
end Z

/-! Z: walks over a list or a tuple; our own lists read; name op= e. -/
namespace Z
open PySem PySem.Spec PyProof.Rows L2
section
variable {X : Cx} {W : WX} {mg : Mg} {tg : Expr} {pos p : Pos} {te : TEd}
/-- a list or a tuple, whichever it is -/
theorem pi_any {l : Expr} {tl : TE} (hl : PE X l tl) : PI X tg l (fun σ H R => tl σ H fun x H1 => ∃ a, x = .ref a ∧ (((∃ xs, SqL X.K H1 a xs) ∧ R (Itl X.K a) H1) ∨ ((∃ xs, SqT X.K H1 a xs) ∧ R (Itt X.K a) H1))) := by
  refine ⟨fun pins s σ H R I h => ?_⟩
  refine thn (hl.run pins s σ H _ I h) fun v s1 ⟨x, H1, I1, r1, q1⟩ => ?_
  obtain ⟨a, e, q1⟩ := q1
  subst e
  cases r1
  rcases q1 with ⟨⟨xs, hq⟩, q⟩ | ⟨⟨xs, hq⟩, q⟩
  · obtain ⟨its, rv, p, hz⟩ := I1.list hq
    refine wpAny_pyIter_list p.isList ?_
    refine ⟨s1.heap.objs.size, [s1.heap.objs.size], _, _, H1, rfl, I1.kept (t' := s1.toks) fun b o e => Heap.get?_push_of_some _ e, turn_list a _, ⟨_, Heap.get?_push_size _ rfl, rfl, rfl⟩, fun b hb => ?_, q⟩
    have e : b = s1.heap.objs.size := by simpa using hb
    subst e
    exact I1.fpOk (Nat.le_refl _) (I1.hok.fresh (Nat.le_refl _))
  · obtain ⟨its, rv, p, hz⟩ := I1.tuple hq
    refine wpAny_pyIter_tuple (show s1.heap.IsTuple a its.toArray from p) ?_
    refine ⟨s1.heap.objs.size, [s1.heap.objs.size], _, _, H1, rfl, I1.kept (t' := s1.toks) fun b o e => Heap.get?_push_of_some _ e, turn_tuple a _, ⟨_, Heap.get?_push_size _ rfl, rfl, rfl⟩, fun b hb => ?_, q⟩
    have e : b = s1.heap.objs.size := by simpa using hb
    subst e
    exact I1.fpOk (Nat.le_refl _) (I1.hok.fresh (Nat.le_refl _))
def itemsD (d : D) (P : List D → Prop) : Prop := match d with | .lst l => P l | .tup l => P l | .scr l => P l | _ => False
def iSeq (te : TEd) : TAd := fun ρ P Xp => te ρ (fun d => itemsD d P) Xp
theorem di_seq {l : Expr} (hl : DE X W l te) : DI X W tg l (iSeq te) := PI.weak (pi_any hl) fun σ H Q ⟨S0, H0, S, ρ, P, Xp, R, h, k, x⟩ => ⟨S0, H0, S, ρ, _, Xp, R, h, fun d hd v S1 H1 w1 r1 => by
  cases r1 with
  | lst e r => exact ⟨_, rfl, .inl ⟨⟨_, .inl (rd_mono w1.sh e)⟩, k _ hd _ S1 H1 w1 (itl_ok (.inl e) r)⟩⟩
  | scr e r => exact ⟨_, rfl, .inl ⟨⟨_, sq_mono w1.sh e⟩, k _ hd _ S1 H1 w1 (itl_ok e r)⟩⟩
  | tup e r => exact ⟨_, rfl, .inr ⟨⟨_, .inl (.inl (w1.sh _ _ e))⟩, k _ hd _ S1 H1 w1 (itt_ok e r)⟩⟩
  | _ => exact hd.elim, x⟩
/-! ### our own lists read -/
def ixD (z : D) (P : Int → Prop) : Prop := match z with | .int n => P n | _ => False
/-- x[e], x in slot i -/
def eIxO (i : Nat) (te : TEd) : TEd := fun ρ P Xp => ∃ l, ρ[i]? = some (.own (.lst l)) ∧ te ρ (fun z => ixD z fun n => ∃ d, atI l n = some d ∧ P d) Xp
theorem de_ixO {a b : Expr} {i : Nat} (ha : PE X a (tVar i)) (hb : DE X W b te) (hs : PlainIx b) : DE X W (.Subscript a b pos) (eIxO i te) := PE.weak (pe_ix ix_list ha hb hs) fun σ H Q ⟨S0, H0, S, ρ, P, Xp, R, ⟨l, hl, h⟩, k, x⟩ => by
  obtain ⟨q, h1, h2, h3, vs, h4, h5⟩ := R.at hl
  refine ⟨_, h1, S0, H0, S, ρ, _, Xp, R, h, fun z hz v S1 H1 w1 r1 => ?_, x⟩
  cases r1 <;> first | exact hz.elim | skip
  obtain ⟨d, hd, hP⟩ := hz
  obtain ⟨u, hu, ru⟩ := h5.at hd
  exact ⟨q, vs, _, u, rfl, rfl, .inl (.inl (w1.hh _ _ h4)), hu, k _ hP _ S1 H1 w1 (ru.mono w1.ss)⟩
/-- len(x), x in slot i -/
def eLenO (i : Nat) : TEd := fun ρ P _ => ∃ l, ρ[i]? = some (.own (.lst l)) ∧ P (.int l.length)
theorem de_lenO {a : Expr} {i : Nat} {x : Str} (ha : PE X a (tVar i)) (hg : Gl X "len") (hm : X.mg "len" = none)
    (he : starEach [a] X.env = (false, eval a X.env) :: starEach [] X.env := by rfl) (hpl : (backTo pos (starEach [] X.env)).any (·.1) = false := by rfl) : DE X W (.Call (.Name "len" p) [a] [] pos) (eLenO i) :=
  PE.weak (pe_callB call_len_seq hg hm PySem.boot_len (pa_cons ha pa_nil he) (by decide) (by decide) he hpl) fun σ H Q ⟨S0, H0, S, ρ, P, Xp, R, ⟨l, hl, h⟩, k, x⟩ => by
    obtain ⟨q, h1, h2, h3, vs, h4, h5⟩ := R.at hl
    exact ⟨_, h1, q, vs, rfl, .inl (.inl (.inl h4)), by rw [h5.length]; exact k.now R h (.int _)⟩
/-- len(x), x[e]: of our own or not -/
def eVarO (i : Nat) : TEd := fun ρ P _ => ∃ d, (ρ[i]? = some (.val d) ∨ ∃ o, ρ[i]? = some (.own o) ∧ d = o.d) ∧ P d
/-- name op= e -/
theorem ip_of {op : Operator} {r : R2} (h : OpR X (inplaceOp op) r) : PIp X op r := h
theorem ds_aug {i : Nat} {x : Str} {e : Expr} {op : Operator} {o : O2} {pos' : Pos} (hN : X.N.Nodup) (hi : X.N[i]? = some x) (hx : Loc X.env.scope x) (he : DE X W e te) (ho : OpR X (inplaceOp op) (rL (gd X) o)) (hf : X.fn x = true ∨ X.env.scope.names.lookup x = some .local := by first | exact .inl rfl | exact .inr rfl | assumption) :
    DS X W (.AugAssign (.Name x pos') op e pos) (fun Φ ρ => ∃ x, ρ[i]? = some (.val x) ∧ te ρ (fun y => o x y fun d => Φ.nx (ρ.set i (.val d))) (fun C fs => Φ.xc C fs ρ)) :=
  PS.weak (ps_aug hN hi hx he (ip_of ho) hf) fun D σ H ⟨S0, H0, S, ρ, Φ, R, ⟨x, hx, h⟩, k⟩ => by
    obtain ⟨v, hv, rv⟩ := R.val _ _ hx
    exact ⟨v, hv, S0, H0, S, ρ, _, _, R, h, fun y hy u S1 H1 w1 r1 => ⟨S1, x, y, _, w1.sh, rv.mono w1.ss, r1, hy, fun d hd z S2 H2 w2 r2 => k.nx _ hd _ S2 H2 ((R.grow (w1.trans w2)).set r2) (w1.ss.trans w2.ss)⟩, k.x R⟩
abbrev oIadd : O2 := oI (fun _ _ => True) fun i j => i + j
theorem or_iadd : OpR X (inplaceOp .Add) (rL (gd X) oIadd) := or_I0 iop_add
end
end Z

/-! Z: name = [comprehension]. -/
namespace Z
open PySem PySem.Spec PyProof.Rows L2
section
variable {X : Cx} {W : WX} {elt tg iter : Expr} {ifs : List Expr} {scope : Scope} {own : List (Str × Nat)} {pos : Pos} {ti : TAd} {g : TGd} {tt : TTd} {te : TEd}
/-- y = [..] on one line, y a plain local: our own list -/
theorem ds_setLc {i : Nat} {y : Str} {py spos : Pos} (hc : X.calm = true) (hN : X.N.Nodup) (hy : X.N[i]? = some y) (hyl : X.env.scope.names.lookup y = some .local)
    (hsw : swapsWith (.ListComp elt [⟨tg, iter, ifs, 0⟩] scope pos) (some (.Name y py)) spos.line X.env = pure true) (hi : DI X W tg iter ti) (ok : BlkOk X.N X.env.scope scope own)
    (hg : ∀ (s : Shared) (H : Hp) (C : Addr) (cl : List (Str × Addr)) (fp : List Addr), DG (X.blk s H scope (compEnvC scope cl C X.env) fp) (own.map (·.2)) tg g) (ht : ∀ (s : Shared) (H : Hp) (C : Addr) (cl : List (Str × Addr)) (fp : List Addr), DTs (X.blk s H scope (compEnvC scope cl C X.env) fp) ifs tt)
    (he : ∀ (s : Shared) (H : Hp) (C : Addr) (cl : List (Str × Addr)) (fp : List Addr), DE (X.blk s H scope (compEnvC scope cl C X.env) fp) W0 elt te) (hs : ∀ x, foldedSetIterable iter X.env x = pure x := by intro _; rfl) :
    DS X W (.Assign [.Name y py] (.ListComp elt [⟨tg, iter, ifs, 0⟩] scope pos) spos) (sSetF (fLc ti g tt te (own.map (·.2))) i) :=
  PS.weak (ps_setLc hc hN hy hyl hsw hi ok hg ht he hs) fun D σ H ⟨S0, H0, S, ρ, Φ, R, h, k⟩ =>
    lift_lc σ H _ ⟨S0, H0, S, ρ, _, _, R, h, fun l hd p vs S1 H1 w1 hp hs e1 r1 => k.nx _ hd _ S1 H1 (R.setOwn w1 hp hs ⟨vs, e1, r1⟩) w1.ss, k.x R⟩
/-- .. that is changed no more -/
theorem ds_setLcV {i : Nat} {y : Str} {py spos : Pos} (hc : X.calm = true) (hN : X.N.Nodup) (hy : X.N[i]? = some y) (hyl : X.env.scope.names.lookup y = some .local)
    (hsw : swapsWith (.ListComp elt [⟨tg, iter, ifs, 0⟩] scope pos) (some (.Name y py)) spos.line X.env = pure true) (hi : DI X W tg iter ti) (ok : BlkOk X.N X.env.scope scope own)
    (hg : ∀ (s : Shared) (H : Hp) (C : Addr) (cl : List (Str × Addr)) (fp : List Addr), DG (X.blk s H scope (compEnvC scope cl C X.env) fp) (own.map (·.2)) tg g) (ht : ∀ (s : Shared) (H : Hp) (C : Addr) (cl : List (Str × Addr)) (fp : List Addr), DTs (X.blk s H scope (compEnvC scope cl C X.env) fp) ifs tt)
    (he : ∀ (s : Shared) (H : Hp) (C : Addr) (cl : List (Str × Addr)) (fp : List Addr), DE (X.blk s H scope (compEnvC scope cl C X.env) fp) W0 elt te) (hs : ∀ x, foldedSetIterable iter X.env x = pure x := by intro _; rfl) :
    DS X W (.Assign [.Name y py] (.ListComp elt [⟨tg, iter, ifs, 0⟩] scope pos) spos) (sSet (eF (fLc ti g tt te (own.map (·.2)))) i) :=
  PS.weak (ps_setLc hc hN hy hyl hsw hi ok hg ht he hs) fun D σ H ⟨S0, H0, S, ρ, Φ, R, h, k⟩ =>
    lift_lc σ H _ ⟨S0, H0, S, ρ, _, _, R, h, vOk.frz (P := fun d => Φ.nx (ρ.set i (.val d))) fun d hd v S1 H1 w1 r1 => k.nx _ hd _ S1 H1 ((R.grow w1).set r1) w1.ss, k.x R⟩
end
end Z

/-! Z: readings, computed where the values are known. -/
namespace Z
open PySem PySem.Spec PyProof.Rows L2
section
variable {b : Bool} {i j : Int} {x y : Str} {l m : List D} {P : D → Prop} {PB : Bool → Prop} {PL : List D → Prop} {T F : Prop} {C : Int → Int → Prop} {g : Int → Int → Int} {gb : Int → Int → Bool} {neg : Bool} {d : D} {n : Nat}
theorem isBl_bl : isBl (.bl b) PB = PB b := rfl
theorem caseB_t : caseB (.bl true) T F = T := rfl
theorem caseB_f : caseB (.bl false) T F = F := rfl
theorem caseB_b : caseB (.bl b) T F = if b = true then T else F := by cases b <;> simp [caseB]
theorem truP_bl : truP (.bl b) PB = PB b := rfl
theorem truP_int : truP (.int i) PB = PB (i != 0) := rfl
theorem truP_non : truP .non PB = PB false := rfl
theorem truP_lst : truP (.lst l) PB = PB (!l.isEmpty) := rfl
theorem truP_tup : truP (.tup l) PB = PB (!l.isEmpty) := rfl
theorem oI_int : oI C g (.int i) (.int j) P = (C i j ∧ P (.int (g i j))) := rfl
theorem oC_int : oC gb (.int i) (.int j) P = P (.bl (gb i j)) := rfl
theorem oNeg_int : oNeg (.int i) P = P (.int (-i)) := rfl
theorem oAdd_int : oAdd (.int i) (.int j) P = P (.int (i + j)) := rfl
theorem oAdd_str : oAdd (.str x) (.str y) P = (x.length + y.length ≤ sizeLine ∧ P (.str (x ++ y))) := rfl
theorem oAdd_lst : oAdd (.lst l) (.lst m) P = (l.length + m.length ≤ sizeLine ∧ P (.lst (l ++ m))) := rfl
theorem oAdd_tup : oAdd (.tup l) (.tup m) P = (l ≠ [] ∧ l.length + m.length ≤ sizeLine ∧ P (.tup (l ++ m))) := rfl
theorem oEq_int : oEqN false (.int i) (.int j) P = P (.bl (decide (i = j))) := rfl
theorem oNe_int : oEqN true (.int i) (.int j) P = P (.bl (!decide (i = j))) := rfl
theorem oEq_str : oEqN false (.str x) (.str y) P = P (.bl (decide (x = y))) := rfl
theorem oNe_str : oEqN true (.str x) (.str y) P = P (.bl (!decide (x = y))) := rfl
theorem oEq_bl {c : Bool} : oEqN false (.bl b) (.bl c) P = P (.bl (decide (b = c))) := rfl
theorem oNe_bl {c : Bool} : oEqN true (.bl b) (.bl c) P = P (.bl (!decide (b = c))) := rfl
theorem oEq_lst : oEqN false (.lst l) (.lst m) P = (okD (.lst l) ∧ okD (.lst m) ∧ P (.bl (eqD (.lst l) (.lst m)))) := rfl
theorem oNe_lst : oEqN true (.lst l) (.lst m) P = (okD (.lst l) ∧ okD (.lst m) ∧ P (.bl (!eqD (.lst l) (.lst m)))) := rfl
theorem oEq_tup : oEqN false (.tup l) (.tup m) P = (okD (.tup l) ∧ okD (.tup m) ∧ P (.bl (eqD (.tup l) (.tup m)))) := rfl
theorem oNe_tup : oEqN true (.tup l) (.tup m) P = (okD (.tup l) ∧ okD (.tup m) ∧ P (.bl (!eqD (.tup l) (.tup m)))) := rfl
theorem oIn_tup : oInN neg d (.tup l) P = (flatD d = true ∧ l.all flatD = true ∧ P (.bl (if neg then !inD d l else inD d l))) := rfl
theorem oIn_lst : oInN neg d (.lst l) P = (flatD d = true ∧ l.all flatD = true ∧ P (.bl (if neg then !inD d l else inD d l))) := rfl
theorem oIx_lst : oIx (.lst l) (.int i) P = ∃ d, atI l i = some d ∧ P d := rfl
theorem oIx_tup : oIx (.tup l) (.int i) P = ∃ d, atI l i = some d ∧ P d := rfl
theorem oIx_scr : oIx (.scr l) (.int i) P = ∃ d, atI l i = some d ∧ P d := rfl
theorem oIx_str : oIx (.str x) (.int i) P = (x.length ≤ sizeLine ∧ ∃ c, atI x.cps.toList i = some c ∧ P (.str ⟨#[c]⟩)) := rfl
theorem ixD_int {PI : Int → Prop} : ixD (.int i) PI = PI i := rfl
theorem cLen_lst : cLen [.lst l] P = P (.int l.length) := rfl
theorem cLen_tup : cLen [.tup l] P = P (.int l.length) := rfl
theorem cLen_scr : cLen [.scr l] P = P (.int l.length) := rfl
theorem cLen_str : cLen [.str x] P = (x.length ≤ sizeLine ∧ P (.int x.length)) := rfl
theorem cAbs_int : cAbs [.int i] P = P (.int (if i < 0 then -i else i)) := rfl
theorem cInt_int : cInt [.int i] P = P (.int i) := rfl
theorem cInt_bl : cInt [.bl b] P = P (.int (if b then 1 else 0)) := rfl
theorem cMax_2 : cMax [.int i, .int j] P = P (.int (if j > i then j else i)) := rfl
theorem cMin_2 : cMin [.int i, .int j] P = P (.int (if j < i then j else i)) := rfl
theorem cMax_l : cMax [.lst l] P = ∃ ns : List Int, l = ns.map D.int ∧ 0 < ns.length ∧ ∀ m, m ∈ ns → (∀ y, y ∈ ns → y ≤ m) → P (.int m) := rfl
theorem cMin_l : cMin [.lst l] P = ∃ ns : List Int, l = ns.map D.int ∧ 0 < ns.length ∧ ∀ m, m ∈ ns → (∀ y, y ∈ ns → m ≤ y) → P (.int m) := rfl
theorem cTup_lst : cTup [.lst l] P = P (.tup l) := rfl
theorem cTup_tup : cTup [.tup l] P = P (.tup l) := rfl
theorem cLst_lst : cLst [.lst l] PL = PL l := rfl
theorem cLst_tup : cLst [.tup l] PL = PL l := rfl
theorem cLst_scr : cLst [.scr l] PL = PL l := rfl
theorem cGcd_int : cGcd [.int i, .int j] P = P (.int ((Nat.gcd i.natAbs j.natAbs : Nat) : Int)) := rfl
theorem itemsD_lst : itemsD (.lst l) PL = PL l := rfl
theorem itemsD_tup : itemsD (.tup l) PL = PL l := rfl
theorem itemsD_scr : itemsD (.scr l) PL = PL l := rfl
theorem rng1_int : rng1 [.int j] PL = (-(2 ^ 62) ≤ j ∧ j < 2 ^ 62 ∧ PL (rangeD 0 j.toNat)) := rfl
theorem rng2_int : rng2 [.int i, .int j] PL = ((-(2 ^ 62) ≤ i ∧ i < 2 ^ 62 ∧ -(2 ^ 62) ≤ j ∧ j < 2 ^ 62) ∧ PL (rangeD i (j - i).toNat)) := rfl
theorem asTup_tup : asTup (.tup l) n PL = (l.length = n ∧ PL l) := rfl
theorem isi_of {t s : String} {r : Bool} (h : tyD d = some t) (k : kitB t s = some r) (q : P (.bl r)) : cIsi [d, .ty s] P := ⟨t, r, h, k, q⟩
theorem cIsi_eq {t s : String} {r : Bool} (h : tyD d = some t) (k : kitB t s = some r) : cIsi [d, .ty s] P = P (.bl r) := propext ⟨fun ⟨t2, r2, h2, k2, q⟩ => by rw [h] at h2; cases h2; rw [k] at k2; cases k2; exact q, isi_of h k⟩
theorem cIsi_non_int : cIsi [.non, .ty "int"] P = P (.bl false) := cIsi_eq rfl (by decide +kernel)
theorem cIsi_non_bool : cIsi [.non, .ty "bool"] P = P (.bl false) := cIsi_eq rfl (by decide +kernel)
theorem cIsi_non_str : cIsi [.non, .ty "str"] P = P (.bl false) := cIsi_eq rfl (by decide +kernel)
theorem cIsi_non_list : cIsi [.non, .ty "list"] P = P (.bl false) := cIsi_eq rfl (by decide +kernel)
theorem cIsi_non_tuple : cIsi [.non, .ty "tuple"] P = P (.bl false) := cIsi_eq rfl (by decide +kernel)
theorem cIsi_bl_int : cIsi [(.bl b), .ty "int"] P = P (.bl true) := cIsi_eq rfl (by decide +kernel)
theorem cIsi_bl_bool : cIsi [(.bl b), .ty "bool"] P = P (.bl true) := cIsi_eq rfl (by decide +kernel)
theorem cIsi_bl_str : cIsi [(.bl b), .ty "str"] P = P (.bl false) := cIsi_eq rfl (by decide +kernel)
theorem cIsi_bl_list : cIsi [(.bl b), .ty "list"] P = P (.bl false) := cIsi_eq rfl (by decide +kernel)
theorem cIsi_bl_tuple : cIsi [(.bl b), .ty "tuple"] P = P (.bl false) := cIsi_eq rfl (by decide +kernel)
theorem cIsi_int_int : cIsi [(.int i), .ty "int"] P = P (.bl true) := cIsi_eq rfl (by decide +kernel)
theorem cIsi_int_bool : cIsi [(.int i), .ty "bool"] P = P (.bl false) := cIsi_eq rfl (by decide +kernel)
theorem cIsi_int_str : cIsi [(.int i), .ty "str"] P = P (.bl false) := cIsi_eq rfl (by decide +kernel)
theorem cIsi_int_list : cIsi [(.int i), .ty "list"] P = P (.bl false) := cIsi_eq rfl (by decide +kernel)
theorem cIsi_int_tuple : cIsi [(.int i), .ty "tuple"] P = P (.bl false) := cIsi_eq rfl (by decide +kernel)
theorem cIsi_str_int : cIsi [(.str x), .ty "int"] P = P (.bl false) := cIsi_eq rfl (by decide +kernel)
theorem cIsi_str_bool : cIsi [(.str x), .ty "bool"] P = P (.bl false) := cIsi_eq rfl (by decide +kernel)
theorem cIsi_str_str : cIsi [(.str x), .ty "str"] P = P (.bl true) := cIsi_eq rfl (by decide +kernel)
theorem cIsi_str_list : cIsi [(.str x), .ty "list"] P = P (.bl false) := cIsi_eq rfl (by decide +kernel)
theorem cIsi_str_tuple : cIsi [(.str x), .ty "tuple"] P = P (.bl false) := cIsi_eq rfl (by decide +kernel)
theorem cIsi_lst_int : cIsi [(.lst l), .ty "int"] P = P (.bl false) := cIsi_eq rfl (by decide +kernel)
theorem cIsi_lst_bool : cIsi [(.lst l), .ty "bool"] P = P (.bl false) := cIsi_eq rfl (by decide +kernel)
theorem cIsi_lst_str : cIsi [(.lst l), .ty "str"] P = P (.bl false) := cIsi_eq rfl (by decide +kernel)
theorem cIsi_lst_list : cIsi [(.lst l), .ty "list"] P = P (.bl true) := cIsi_eq rfl (by decide +kernel)
theorem cIsi_lst_tuple : cIsi [(.lst l), .ty "tuple"] P = P (.bl false) := cIsi_eq rfl (by decide +kernel)
theorem cIsi_tup_int : cIsi [(.tup l), .ty "int"] P = P (.bl false) := cIsi_eq rfl (by decide +kernel)
theorem cIsi_tup_bool : cIsi [(.tup l), .ty "bool"] P = P (.bl false) := cIsi_eq rfl (by decide +kernel)
theorem cIsi_tup_str : cIsi [(.tup l), .ty "str"] P = P (.bl false) := cIsi_eq rfl (by decide +kernel)
theorem cIsi_tup_list : cIsi [(.tup l), .ty "list"] P = P (.bl false) := cIsi_eq rfl (by decide +kernel)
theorem cIsi_tup_tuple : cIsi [(.tup l), .ty "tuple"] P = P (.bl true) := cIsi_eq rfl (by decide +kernel)
theorem for_of {ti : TAd} {tg : TGd} {tb : TSd} {Φ : Ed} {ρ : En} (items : List D) (I : Nat → En → Prop) (hi : ∀ (P : List D → Prop) Xp, P items → ti ρ P Xp) (h0 : I 0 ρ)
    (hs : ∀ (i : Nat) x ρ', items[i]? = some x → I i ρ' → tg x ρ' fun ρ2 => tb { Φ with nx := I (i + 1), ct := I (i + 1), bk := Φ.nx } ρ2) (hd : ∀ ρ', I items.length ρ' → Φ.nx ρ') : sFor ti tg tb Φ ρ := hi _ _ ⟨I, h0, hs, hd⟩
/-- over range(n) -/
theorem for_rng {ti : TAd} {tg : TGd} {tb : TSd} {Φ : Ed} {ρ : En} (n : Nat) (I : Nat → En → Prop) (hi : ∀ (P : List D → Prop) Xp, P (rangeD 0 n) → ti ρ P Xp) (h0 : I 0 ρ)
    (hs : ∀ (i : Nat) ρ', i < n → I i ρ' → tg (.int (i : Nat)) ρ' fun ρ2 => tb { Φ with nx := I (i + 1), ct := I (i + 1), bk := Φ.nx } ρ2) (hd : ∀ ρ', I n ρ' → Φ.nx ρ') : sFor ti tg tb Φ ρ :=
  for_of (rangeD 0 n) I hi h0 (fun i x ρ' hx hI => by
    obtain ⟨h1, rfl⟩ := rangeD_get hx
    rw [Int.zero_add]
    exact hs i ρ' h1 hI) (fun ρ' h => hd ρ' (by rw [rangeD_length] at h; exact h))
theorem while_of {tc : TTd} {tb : TSd} {Φ : Ed} {ρ : En} (I : Nat → En → Prop) (m : Nat) (h0 : I m ρ)
    (hs : ∀ m ρ', I m ρ' → tc ρ' (fun b => if b = true then tb { Φ with nx := fun r => ∃ m', m' < m ∧ I m' r, ct := fun r => ∃ m', m' < m ∧ I m' r, bk := Φ.nx } ρ' else Φ.nx ρ') (fun C fs => Φ.xc C fs ρ')) : sWhile tc tb Φ ρ := ⟨I, ⟨m, h0⟩, hs⟩
theorem one_le' : (0 + 1 : Nat) ≤ sizeLine := by decide
theorem two_le' : (0 + 1 + 1 : Nat) ≤ sizeLine := by decide
end
end Z

local macro_rules | `(tactic| walk_at "zz") => `(tactic| try simp only [Z.sNext, Z.sSeq, Z.sSet, Z.sSetF, Z.sAsg, Z.sIf, Z.sRet, Z.sRetF, Z.sRetO, Z.sRetN, Z.sDrop, Z.sBrk, Z.sCont, Z.sFrz, Z.sApp, Z.sSetIx, Z.eVar, Z.eC, Z.eOp, Z.eUn, Z.eCh, Z.tBl, Z.tTr, Z.tAnd, Z.tOr, Z.tNot, Z.eAnd, Z.eOr, Z.eNot, Z.eIf, Z.aNil, Z.aCons, Z.eTup, Z.fLst, Z.eF, Z.eCB, Z.fCB, Z.eCall, Z.fCall, Z.gN, Z.gTup, Z.gsCons, Z.gsNil, Z.iSeq, Z.iRng1, Z.iRng2, Z.eIxO, Z.eLenO, Z.startD, Z.Ow.d, Z.tYes, Z.isBl_bl, Z.caseB_t, Z.caseB_f, Z.truP_bl, Z.truP_int, Z.truP_non, Z.truP_lst, Z.truP_tup, Z.oI_int, Z.oC_int, Z.oNeg_int, Z.oAdd_int, Z.oAdd_str, Z.oAdd_lst, Z.oAdd_tup, Z.oEq_int, Z.oNe_int, Z.oEq_str, Z.oNe_str, Z.oEq_lst, Z.oNe_lst, Z.oEq_tup, Z.oNe_tup, Z.oIn_tup, Z.oIn_lst, Z.oIx_lst, Z.oIx_tup, Z.oIx_scr, Z.oIx_str, Z.cLen_lst, Z.cLen_tup, Z.cLen_scr, Z.cLen_str, Z.cAbs_int, Z.cInt_int, Z.cInt_bl, Z.cMax_2, Z.cMin_2, Z.cMax_l, Z.cMin_l, Z.cTup_lst, Z.cTup_tup, Z.cLst_lst, Z.cLst_tup, Z.cLst_scr, Z.cGcd_int, Z.itemsD_lst, Z.itemsD_tup, Z.itemsD_scr, Z.rng1_int, Z.rng2_int, Z.asTup_tup, Z.cIsi_non_int, Z.cIsi_non_bool, Z.cIsi_non_str, Z.cIsi_non_list, Z.cIsi_non_tuple, Z.cIsi_bl_int, Z.cIsi_bl_bool, Z.cIsi_bl_str, Z.cIsi_bl_list, Z.cIsi_bl_tuple, Z.cIsi_int_int, Z.cIsi_int_bool, Z.cIsi_int_str, Z.cIsi_int_list, Z.cIsi_int_tuple, Z.cIsi_str_int, Z.cIsi_str_bool, Z.cIsi_str_str, Z.cIsi_str_list, Z.cIsi_str_tuple, Z.cIsi_lst_int, Z.cIsi_lst_bool, Z.cIsi_lst_str, Z.cIsi_lst_list, Z.cIsi_lst_tuple, Z.cIsi_tup_int, Z.cIsi_tup_bool, Z.cIsi_tup_str, Z.cIsi_tup_list, Z.cIsi_tup_tuple, Z.oEq_bl, Z.oNe_bl, Z.ixD_int, List.map_cons, List.map_nil, List.length_cons, List.length_nil, List.replicate, List.cons_append, List.nil_append, List.set_cons_zero, List.set_cons_succ, List.getElem?_cons_zero, List.getElem?_cons_succ, Option.some.injEq, Z.Sl.val.injEq, Z.Sl.own.injEq, Z.Ow.lst.injEq, Z.D.int.injEq, exists_eq_left', exists_eq_left, true_and, and_true, if_true, if_false, Bool.false_eq_true, decide_eq_true_eq, Bool.not_true, Bool.not_false, Bool.not_eq_true', decide_eq_false_iff_not])
/-! The walk of law k55: printed by gen.py. -/
namespace K55
open PySem PySem.Spec PyProof.Rows L2 Z
def topS (i : Nat) : Stmt := PySem.Challenge.pw_manysights_k55_ratios_whole.main.body.getD i (.Pass ⟨0, 0, 0, 0⟩)
abbrev st__law_digits : Stmt := topS 10
abbrev st__law_cell : Stmt := topS 9
abbrev st__law_number : Stmt := topS 11
abbrev st__law_top : Stmt := topS 12
abbrev st__law_bottom : Stmt := topS 13
abbrev st__law_draw_pairs : Stmt := topS 16
abbrev st_compared : Stmt := topS 6
abbrev st__law_whole : Stmt := topS 8
abbrev st__law_shared : Stmt := topS 14
abbrev st__law_stands : Stmt := topS 15
abbrev st_ratio : Stmt := topS 2
abbrev st_added : Stmt := topS 3
abbrev st_multiplied : Stmt := topS 4
abbrev st_divided : Stmt := topS 5
abbrev st__law_right : Stmt := topS 17
abbrev st__law_back : Stmt := topS 18
abbrev st_law : Stmt := topS 19
/-- what the top has written -/
structure Txt (K : PySem.W.Frag) (mg : Str → Option Value) where
  a__law_digits : Addr
  d__law_digits : FuncData
  F__law_digits : Fun K "_law_digits" "_law_digits" st__law_digits a__law_digits d__law_digits
  g__law_digits : mg "_law_digits" = some (.ref a__law_digits)
  b__law_digits : Binds K d__law_digits ["_law_cell_here", "_law_sizes"] []
  a__law_cell : Addr
  d__law_cell : FuncData
  F__law_cell : Fun K "_law_cell" "_law_cell" st__law_cell a__law_cell d__law_cell
  g__law_cell : mg "_law_cell" = some (.ref a__law_cell)
  b__law_cell : Binds K d__law_cell ["_law_script", "_law_k"] []
  a__law_number : Addr
  d__law_number : FuncData
  F__law_number : Fun K "_law_number" "_law_number" st__law_number a__law_number d__law_number
  g__law_number : mg "_law_number" = some (.ref a__law_number)
  b__law_number : Binds K d__law_number ["_law_cell_here", "_law_limit"] []
  a__law_top : Addr
  d__law_top : FuncData
  F__law_top : Fun K "_law_top" "_law_top" st__law_top a__law_top d__law_top
  g__law_top : mg "_law_top" = some (.ref a__law_top)
  b__law_top : Binds K d__law_top ["_law_cell_here", "_law_style"] []
  a__law_bottom : Addr
  d__law_bottom : FuncData
  F__law_bottom : Fun K "_law_bottom" "_law_bottom" st__law_bottom a__law_bottom d__law_bottom
  g__law_bottom : mg "_law_bottom" = some (.ref a__law_bottom)
  b__law_bottom : Binds K d__law_bottom ["_law_cell_here", "_law_style"] []
  a__law_draw_pairs : Addr
  d__law_draw_pairs : FuncData
  F__law_draw_pairs : Fun K "_law_draw_pairs" "_law_draw_pairs" st__law_draw_pairs a__law_draw_pairs d__law_draw_pairs
  g__law_draw_pairs : mg "_law_draw_pairs" = some (.ref a__law_draw_pairs)
  b__law_draw_pairs : Binds K d__law_draw_pairs ["_law_script"] []
  a_compared : Addr
  d_compared : FuncData
  F_compared : Fun K "compared" "compared" st_compared a_compared d_compared
  g_compared : mg "compared" = some (.ref a_compared)
  b_compared : Binds K d_compared ["one", "two"] []
  a__law_whole : Addr
  d__law_whole : FuncData
  F__law_whole : Fun K "_law_whole" "_law_whole" st__law_whole a__law_whole d__law_whole
  g__law_whole : mg "_law_whole" = some (.ref a__law_whole)
  b__law_whole : Binds K d__law_whole ["_law_value"] []
  a__law_shared : Addr
  d__law_shared : FuncData
  F__law_shared : Fun K "_law_shared" "_law_shared" st__law_shared a__law_shared d__law_shared
  g__law_shared : mg "_law_shared" = some (.ref a__law_shared)
  b__law_shared : Binds K d__law_shared ["_law_one", "_law_two"] []
  a__law_stands : Addr
  d__law_stands : FuncData
  F__law_stands : Fun K "_law_stands" "_law_stands" st__law_stands a__law_stands d__law_stands
  g__law_stands : mg "_law_stands" = some (.ref a__law_stands)
  b__law_stands : Binds K d__law_stands ["_law_value", "_law_top_here", "_law_bottom_here"] []
  a_ratio : Addr
  d_ratio : FuncData
  F_ratio : Fun K "ratio" "ratio" st_ratio a_ratio d_ratio
  g_ratio : mg "ratio" = some (.ref a_ratio)
  b_ratio : Binds K d_ratio ["top", "bottom"] []
  a_added : Addr
  d_added : FuncData
  F_added : Fun K "added" "added" st_added a_added d_added
  g_added : mg "added" = some (.ref a_added)
  b_added : Binds K d_added ["one", "two"] []
  a_multiplied : Addr
  d_multiplied : FuncData
  F_multiplied : Fun K "multiplied" "multiplied" st_multiplied a_multiplied d_multiplied
  g_multiplied : mg "multiplied" = some (.ref a_multiplied)
  b_multiplied : Binds K d_multiplied ["one", "two"] []
  a_divided : Addr
  d_divided : FuncData
  F_divided : Fun K "divided" "divided" st_divided a_divided d_divided
  g_divided : mg "divided" = some (.ref a_divided)
  b_divided : Binds K d_divided ["one", "two"] []
  a__law_right : Addr
  d__law_right : FuncData
  F__law_right : Fun K "_law_right" "_law_right" st__law_right a__law_right d__law_right
  g__law_right : mg "_law_right" = some (.ref a__law_right)
  b__law_right : Binds K d__law_right ["_law_one", "_law_two"] []
  a__law_back : Addr
  d__law_back : FuncData
  F__law_back : Fun K "_law_back" "_law_back" st__law_back a__law_back d__law_back
  g__law_back : mg "_law_back" = some (.ref a__law_back)
  b__law_back : Binds K d__law_back ["_law_one", "_law_two"] []
  a_law : Addr
  d_law : FuncData
  F_law : Fun K "law" "law" st_law a_law d_law
  g_law : mg "law" = some (.ref a_law)
  b_law : Binds K d_law ["_law_script"] []
  z_abs : mg "abs" = none
  z_bool : mg "bool" = none
  z_int : mg "int" = none
  z_isinstance : mg "isinstance" = none
  z_len : mg "len" = none
  z_list : mg "list" = none
  z_range : mg "range" = none
  z_tuple : mg "tuple" = none
  l_gcd : mg "gcd" = some (.builtin "math.gcd")
theorem sc__law_digits : FnScope ["_law_cell_here", "_law_sizes", "_law_row", "_law_rest", "_law_seed", "_law_k", "_law_size", "_law_twice"] ["_law_cell_here", "_law_sizes"] (defScope st__law_digits) := ⟨rfl, rfl, rfl, by decide +kernel, rfl, by decide +kernel, by decide +kernel⟩
def t__law_digits : TSd :=
  (sSeq (sSetF (fLst aNil) 2)
  (sSeq (sSet (eCB cInt (aCons (eVar 0) aNil)) 3)
  (sSeq (sIf (tBl (eOp oGe (eVar 3) (eOp oPow (eC (.int 10)) (eC (.int 18)))))
  (sSeq (sSet (eOp oSub (eVar 3) (eOp oPow (eC (.int 10)) (eC (.int 18)))) 3)
  (sSeq (sFor (iSeq (eVar 1)) (gN 6)
  (sSeq (sApp 2 (eOp oMod (eCB cInt (aCons (eVar 3) aNil)) (eVar 6)))
  (sSet (eOp oFdiv (eCB cInt (aCons (eVar 3) aNil)) (eVar 6)) 3)))
  (sRetO 2)))
  sNext)
  (sSeq (sSet (eOp oMod (eCB cInt (aCons (eVar 3) aNil)) (eC (.int 2147483629))) 4)
  (sSeq (sFor (iRng1 (aCons (eCB cLen (aCons (eVar 1) aNil)) aNil)) (gN 5)
  (sSeq (sSet (eOp oMod (eCB cInt (aCons (eOp oAdd (eOp oAdd (eOp oMul (eVar 4) (eC (.int 48271))) (eOp oMul (eC (.int 974711)) (eVar 5))) (eC (.int 12345))) aNil)) (eC (.int 2147483647))) 4)
  (sSeq (sSet (eOp oMod (eCB cInt (aCons (eOp oMul (eVar 4) (eOp oAdd (eOp oFdiv (eVar 4) (eC (.int 65537))) (eC (.int 3)))) aNil)) (eC (.int 2147483629))) 7)
  (sApp 2 (eOp oMod (eOp oFdiv (eVar 7) (eC (.int 19))) (eOp oIx (eVar 1) (eVar 5)))))))
  (sRetO 2))))))
def w__law_digits : Spf := fun ds P Xp => t__law_digits { nx := fun _ => False, rt := fun _ => False, ro := fun o => match o with | .lst l => P l | _ => False, xc := fun C fs _ => Xp C fs } (startD 8 ds)
theorem ok__law_digits {P : Program} {w : World} {K : PySem.W.Frag} {mg : Str → Option Value} {base : Heap} (T : Txt K mg) : FnOk P w K mg base (L2.CX P w) 1 T.a__law_digits T.d__law_digits ["_law_cell_here", "_law_sizes"] (spF ⟨K, mg⟩ 2 w__law_digits) :=
  ok_defF (k := 0) T.F__law_digits sc__law_digits (fun cdv A outer s H E W hr hW tk =>
    (dss_cons (ds_setF (i := 2) sc__law_digits.nd rfl (.inl rfl) (df_lst da_nil))
    (dss_cons (ds_set (i := 3) sc__law_digits.nd rfl (.inl rfl) (de_callTy cr_int rfl T.z_int (by decide +kernel) (da_cons (de_name (pv 0)) da_nil)))
    (dss_cons (ds_if (dt_cmp or_ge (de_name (pv 3)) (de_op or_pow de_int de_int) (nomark _))
    (dss_cons (ds_set (i := 3) sc__law_digits.nd rfl (.inl rfl) (de_op or_sub (de_name (pv 3)) (de_op or_pow de_int de_int)))
    (dss_cons (ds_for (vs := [6]) (passes_of rfl) rfl (di_seq (de_name (pv 1))) (dg_name (i := 6) sc__law_digits.nd rfl (.inl rfl))
    (dss_cons (ds_app (i := 2) (pv 2) (de_op or_mod (de_callTy cr_int rfl T.z_int (by decide +kernel) (da_cons (de_name (pv 3)) da_nil)) (de_name (pv 6))))
    (dss_one (ds_set (i := 3) sc__law_digits.nd rfl (.inl rfl) (de_op or_fdiv (de_callTy cr_int rfl T.z_int (by decide +kernel) (da_cons (de_name (pv 3)) da_nil)) (de_name (pv 6)))))))
    (dss_one (ds_retO (i := 2) (pv 2)))))
    dss_nil)
    (dss_cons (ds_set (i := 4) sc__law_digits.nd rfl (.inl rfl) (de_op or_mod (de_callTy cr_int rfl T.z_int (by decide +kernel) (da_cons (de_name (pv 3)) da_nil)) de_int))
    (dss_cons (ds_for (vs := [5]) (passes_of rfl) rfl (di_rng1 rfl T.z_range (da_cons (de_callB cr_len rfl T.z_len (by decide +kernel) (da_cons (de_name (pv 1)) da_nil)) da_nil)) (dg_name (i := 5) sc__law_digits.nd rfl (.inl rfl))
    (dss_cons (ds_set (i := 4) sc__law_digits.nd rfl (.inl rfl) (de_op or_mod (de_callTy cr_int rfl T.z_int (by decide +kernel) (da_cons (de_op or_add (de_op or_add (de_op or_mul (de_name (pv 4)) de_int) (de_op or_mul de_int (de_name (pv 5)))) de_int) da_nil)) de_int))
    (dss_cons (ds_set (i := 7) sc__law_digits.nd rfl (.inl rfl) (de_op or_mod (de_callTy cr_int rfl T.z_int (by decide +kernel) (da_cons (de_op or_mul (de_name (pv 4)) (de_op or_add (de_op or_fdiv (de_name (pv 4)) de_int) de_int)) da_nil)) de_int))
    (dss_one (ds_app (i := 2) (pv 2) (de_op or_mod (de_op or_fdiv (de_name (pv 7)) de_int) (de_ix ir_ix (de_name (pv 1)) (de_name (pv 5)) (fun _ _ => rfl))))))))
    (dss_one (ds_retO (i := 2) (pv 2))))))))) (fun _ _ _ _ h => h)
theorem sc__law_cell : FnScope ["_law_script", "_law_k", "_law_seed", "_law_cell_here"] ["_law_script", "_law_k"] (defScope st__law_cell) := ⟨rfl, rfl, rfl, by decide +kernel, rfl, by decide +kernel, by decide +kernel⟩
def t__law_cell : TSd :=
  (sSeq (sIf (tBl (eOp oLt (eVar 1) (eCB cLen (aCons (eVar 0) aNil))))
  (sRet (eOp oIx (eVar 0) (eVar 1)))
  sNext)
  (sSeq (sSet (eC (.int 17)) 2)
  (sSeq (sFor (iSeq (eVar 0)) (gN 3)
  (sSet (eOp oMod (eCB cInt (aCons (eOp oAdd (eOp oMul (eVar 2) (eC (.int 31))) (eOp oMod (eCB cInt (aCons (eVar 3) aNil)) (eC (.int 1000003)))) aNil)) (eC (.int 1000003))) 2))
  (sRet (eOp oMod (eCB cInt (aCons (eOp oMul (eOp oMul (eOp oAdd (eVar 2) (eC (.int 7))) (eOp oAdd (eVar 1) (eC (.int 3)))) (eC (.int 69621))) aNil)) (eC (.int 2147483647)))))))
def w__law_cell : Spd := fun ds P Xp => t__law_cell { nx := fun _ => P .non, rt := P, ro := fun o => P o.d, xc := fun C fs _ => Xp C fs } (startD 4 ds)
theorem ok__law_cell {P : Program} {w : World} {K : PySem.W.Frag} {mg : Str → Option Value} {base : Heap} (T : Txt K mg) : FnOk P w K mg base (L2.CX P w) 1 T.a__law_cell T.d__law_cell ["_law_script", "_law_k"] (spL ⟨K, mg⟩ 2 w__law_cell) :=
  ok_def (k := 0) T.F__law_cell sc__law_cell (fun cdv A outer s H E W hr hW tk =>
    (dss_cons (ds_if (dt_cmp or_lt (de_name (pv 1)) (de_callB cr_len rfl T.z_len (by decide +kernel) (da_cons (de_name (pv 0)) da_nil)) (nomark _))
    (dss_one (ds_ret (de_ix ir_ix (de_name (pv 0)) (de_name (pv 1)) (fun _ _ => rfl))))
    dss_nil)
    (dss_cons (ds_set (i := 2) sc__law_cell.nd rfl (.inl rfl) de_int)
    (dss_cons (ds_for (vs := [3]) (passes_of rfl) rfl (di_seq (de_name (pv 0))) (dg_name (i := 3) sc__law_cell.nd rfl (.inl rfl))
    (dss_one (ds_set (i := 2) sc__law_cell.nd rfl (.inl rfl) (de_op or_mod (de_callTy cr_int rfl T.z_int (by decide +kernel) (da_cons (de_op or_add (de_op or_mul (de_name (pv 2)) de_int) (de_op or_mod (de_callTy cr_int rfl T.z_int (by decide +kernel) (da_cons (de_name (pv 3)) da_nil)) de_int)) da_nil)) de_int))))
    (dss_one (ds_ret (de_op or_mod (de_callTy cr_int rfl T.z_int (by decide +kernel) (da_cons (de_op or_mul (de_op or_mul (de_op or_add (de_name (pv 2)) de_int) (de_op or_add (de_name (pv 1)) de_int)) de_int) da_nil)) de_int))))))) (fun _ _ _ _ h => h)
theorem sc__law_number : FnScope ["_law_cell_here", "_law_limit", "_law_rest"] ["_law_cell_here", "_law_limit"] (defScope st__law_number) := ⟨rfl, rfl, rfl, by decide +kernel, rfl, by decide +kernel, by decide +kernel⟩
def t__law_number : TSd :=
  (sSeq (sSet (eCB cInt (aCons (eVar 0) aNil)) 2)
  (sSeq (sIf (tBl (eOp oGe (eVar 2) (eOp oPow (eC (.int 10)) (eC (.int 18)))))
  (sRet (eOp oMod (eCB cInt (aCons (eOp oSub (eVar 2) (eOp oPow (eC (.int 10)) (eC (.int 18)))) aNil)) (eVar 1)))
  sNext)
  (sSeq (sSet (eOp oAdd (eOp oMod (eCB cInt (aCons (eVar 2) aNil)) (eC (.int 2147483629))) (eC (.int 5))) 2)
  (sRet (eOp oMod (eOp oFdiv (eCB cInt (aCons (eOp oAdd (eOp oAdd (eOp oMul (eOp oPow (eVar 2) (eC (.int 5))) (eC (.int 48271))) (eOp oMul (eVar 2) (eC (.int 974711)))) (eC (.int 12345))) aNil)) (eC (.int 7))) (eVar 1))))))
def w__law_number : Spd := fun ds P Xp => t__law_number { nx := fun _ => P .non, rt := P, ro := fun o => P o.d, xc := fun C fs _ => Xp C fs } (startD 3 ds)
theorem ok__law_number {P : Program} {w : World} {K : PySem.W.Frag} {mg : Str → Option Value} {base : Heap} (T : Txt K mg) : FnOk P w K mg base (L2.CX P w) 1 T.a__law_number T.d__law_number ["_law_cell_here", "_law_limit"] (spL ⟨K, mg⟩ 2 w__law_number) :=
  ok_def (k := 0) T.F__law_number sc__law_number (fun cdv A outer s H E W hr hW tk =>
    (dss_cons (ds_set (i := 2) sc__law_number.nd rfl (.inl rfl) (de_callTy cr_int rfl T.z_int (by decide +kernel) (da_cons (de_name (pv 0)) da_nil)))
    (dss_cons (ds_if (dt_cmp or_ge (de_name (pv 2)) (de_op or_pow de_int de_int) (nomark _))
    (dss_one (ds_ret (de_op or_mod (de_callTy cr_int rfl T.z_int (by decide +kernel) (da_cons (de_op or_sub (de_name (pv 2)) (de_op or_pow de_int de_int)) da_nil)) (de_name (pv 1)))))
    dss_nil)
    (dss_cons (ds_set (i := 2) sc__law_number.nd rfl (.inl rfl) (de_op or_add (de_op or_mod (de_callTy cr_int rfl T.z_int (by decide +kernel) (da_cons (de_name (pv 2)) da_nil)) de_int) de_int))
    (dss_one (ds_ret (de_op or_mod (de_op or_fdiv (de_callTy cr_int rfl T.z_int (by decide +kernel) (da_cons (de_op or_add (de_op or_add (de_op or_mul (de_op or_pow (de_name (pv 2)) de_int) de_int) (de_op or_mul (de_name (pv 2)) de_int)) de_int) da_nil)) de_int) (de_name (pv 1))))))))) (fun _ _ _ _ h => h)
theorem sc__law_top : FnScope ["_law_cell_here", "_law_style", "_law_span"] ["_law_cell_here", "_law_style"] (defScope st__law_top) := ⟨rfl, rfl, rfl, by decide +kernel, rfl, by decide +kernel, by decide +kernel⟩
def t__law_top : TSd :=
  (sSeq (sSet (eOp oIx (eF (fLst (aCons (eC (.int 9)) (aCons (eC (.int 999)) (aCons (eOp oSub (eOp oPow (eC (.int 10)) (eC (.int 40))) (eC (.int 1))) aNil))))) (eVar 1)) 2)
  (sRet (eOp oSub (eCall 2 w__law_number (aCons (eVar 0) (aCons (eOp oAdd (eOp oMul (eC (.int 2)) (eVar 2)) (eC (.int 1))) aNil))) (eVar 2))))
def w__law_top : Spd := fun ds P Xp => t__law_top { nx := fun _ => P .non, rt := P, ro := fun o => P o.d, xc := fun C fs _ => Xp C fs } (startD 3 ds)
theorem ok__law_top {P : Program} {w : World} {K : PySem.W.Frag} {mg : Str → Option Value} {base : Heap} (T : Txt K mg) : FnOk P w K mg base (L2.CX P w) 2 T.a__law_top T.d__law_top ["_law_cell_here", "_law_style"] (spL ⟨K, mg⟩ 2 w__law_top) :=
  ok_def (k := 1) T.F__law_top sc__law_top (fun cdv A outer s H E W hr hW tk =>
    (dss_cons (ds_set (i := 2) sc__law_top.nd rfl (.inl rfl) (de_ix ir_ix (de_f (df_lst (da_cons de_int (da_cons de_int (da_cons (de_op or_sub (de_op or_pow de_int de_int) de_int) da_nil))))) (de_name (pv 1)) (fun _ _ => rfl)))
    (dss_one (ds_ret (de_op or_sub (de_call (ok__law_number T) (hr.mono (by decide)) rfl T.g__law_number T.F__law_number.kp T.b__law_number tk (da_cons (de_name (pv 0)) (da_cons (de_op or_add (de_op or_mul de_int (de_name (pv 2))) de_int) da_nil))) (de_name (pv 2))))))) (fun _ _ _ _ h => h)
theorem sc__law_bottom : FnScope ["_law_cell_here", "_law_style"] ["_law_cell_here", "_law_style"] (defScope st__law_bottom) := ⟨rfl, rfl, rfl, by decide +kernel, rfl, by decide +kernel, by decide +kernel⟩
def t__law_bottom : TSd :=
  (sRet (eOp oAdd (eC (.int 1)) (eCall 2 w__law_number (aCons (eVar 0) (aCons (eOp oIx (eF (fLst (aCons (eC (.int 9)) (aCons (eC (.int 999)) (aCons (eOp oSub (eOp oPow (eC (.int 10)) (eC (.int 40))) (eC (.int 1))) aNil))))) (eVar 1)) aNil)))))
def w__law_bottom : Spd := fun ds P Xp => t__law_bottom { nx := fun _ => P .non, rt := P, ro := fun o => P o.d, xc := fun C fs _ => Xp C fs } (startD 2 ds)
theorem ok__law_bottom {P : Program} {w : World} {K : PySem.W.Frag} {mg : Str → Option Value} {base : Heap} (T : Txt K mg) : FnOk P w K mg base (L2.CX P w) 2 T.a__law_bottom T.d__law_bottom ["_law_cell_here", "_law_style"] (spL ⟨K, mg⟩ 2 w__law_bottom) :=
  ok_def (k := 1) T.F__law_bottom sc__law_bottom (fun cdv A outer s H E W hr hW tk =>
    (dss_one (ds_ret (de_op or_add de_int (de_call (ok__law_number T) (hr.mono (by decide)) rfl T.g__law_number T.F__law_number.kp T.b__law_number tk (da_cons (de_name (pv 0)) (da_cons (de_ix ir_ix (de_f (df_lst (da_cons de_int (da_cons de_int (da_cons (de_op or_sub (de_op or_pow de_int de_int) de_int) da_nil))))) (de_name (pv 1)) (fun _ _ => rfl)) da_nil))))))) (fun _ _ _ _ h => h)
theorem sc__law_draw_pairs : FnScope ["_law_script", "_law_shape", "_law_one", "_law_two", "_law_factor", "_law_second"] ["_law_script"] (defScope st__law_draw_pairs) := ⟨rfl, rfl, rfl, by decide +kernel, rfl, by decide +kernel, by decide +kernel⟩
def t__law_draw_pairs : TSd :=
  (sSeq (sSet (eF (fCall 2 w__law_digits (aCons (eCall 2 w__law_cell (aCons (eVar 0) (aCons (eC (.int 0)) aNil))) (aCons (eF (fLst (aCons (eC (.int 3)) (aCons (eC (.int 3)) (aCons (eC (.int 9)) (aCons (eC (.int 4)) (aCons (eC (.int 6)) (aCons (eC (.int 2)) (aCons (eC (.int 2)) aNil))))))))) aNil)))) 1)
  (sSeq (sSet (eF (fLst (aCons (eCall 2 w__law_top (aCons (eCall 2 w__law_cell (aCons (eVar 0) (aCons (eC (.int 1)) aNil))) (aCons (eOp oIx (eVar 1) (eC (.int 0))) aNil))) (aCons (eCall 2 w__law_bottom (aCons (eCall 2 w__law_cell (aCons (eVar 0) (aCons (eC (.int 2)) aNil))) (aCons (eOp oIx (eVar 1) (eC (.int 0))) aNil))) aNil)))) 2)
  (sSeq (sSet (eF (fLst (aCons (eCall 2 w__law_top (aCons (eCall 2 w__law_cell (aCons (eVar 0) (aCons (eC (.int 3)) aNil))) (aCons (eOp oIx (eVar 1) (eC (.int 1))) aNil))) (aCons (eCall 2 w__law_bottom (aCons (eCall 2 w__law_cell (aCons (eVar 0) (aCons (eC (.int 4)) aNil))) (aCons (eOp oIx (eVar 1) (eC (.int 1))) aNil))) aNil)))) 3)
  (sSeq (sIf (tBl (eOp oEq (eOp oIx (eVar 1) (eC (.int 2))) (eC (.int 1))))
  (sSet (eF (fLst (aCons (eOp oIx (eVar 2) (eC (.int 0))) (aCons (eOp oIx (eVar 2) (eC (.int 1))) aNil)))) 3)
  sNext)
  (sSeq (sIf (tBl (eOp oEq (eOp oIx (eVar 1) (eC (.int 2))) (eC (.int 2))))
  (sSet (eF (fLst (aCons (eOp oSub (eC (.int 0)) (eOp oIx (eVar 2) (eC (.int 0)))) (aCons (eOp oIx (eVar 2) (eC (.int 1))) aNil)))) 3)
  sNext)
  (sSeq (sIf (tBl (eOp oEq (eOp oIx (eVar 1) (eC (.int 2))) (eC (.int 3))))
  (sSet (eF (fLst (aCons (eC (.int 0)) (aCons (eOp oIx (eVar 3) (eC (.int 1))) aNil)))) 3)
  sNext)
  (sSeq (sIf (tBl (eOp oEq (eOp oIx (eVar 1) (eC (.int 2))) (eC (.int 4))))
  (sSet (eF (fLst (aCons (eOp oAdd (eOp oIx (eVar 2) (eC (.int 0))) (eC (.int 1))) (aCons (eOp oIx (eVar 2) (eC (.int 1))) aNil)))) 3)
  sNext)
  (sSeq (sIf (tAnd (tBl (eOp oEq (eOp oIx (eVar 1) (eC (.int 2))) (eC (.int 5)))) (tBl (eOp oNe (eOp oIx (eVar 2) (eC (.int 0))) (eC (.int 0)))))
  (sSet (eF (fLst (aCons (eOp oIx (eF (fLst (aCons (eOp oIx (eVar 2) (eC (.int 1))) (aCons (eOp oSub (eC (.int 0)) (eOp oIx (eVar 2) (eC (.int 1)))) aNil)))) (eOp oIx (eVar 1) (eC (.int 5)))) (aCons (eCB cAbs (aCons (eOp oIx (eVar 2) (eC (.int 0))) aNil)) aNil)))) 3)
  sNext)
  (sSeq (sSet (eOp oAdd (eC (.int 1)) (eCall 2 w__law_number (aCons (eCall 2 w__law_cell (aCons (eVar 0) (aCons (eC (.int 5)) aNil))) (aCons (eOp oIx (eF (fLst (aCons (eC (.int 6)) (aCons (eC (.int 999)) (aCons (eOp oPow (eC (.int 10)) (eC (.int 20))) (aCons (eC (.int 12)) (aCons (eC (.int 2)) (aCons (eC (.int 30)) aNil)))))))) (eOp oIx (eVar 1) (eC (.int 4)))) aNil)))) 4)
  (sSeq (sIf (tBl (eOp oIn (eOp oIx (eVar 1) (eC (.int 3))) (eTup (aCons (eC (.int 1)) (aCons (eC (.int 3)) aNil)))))
  (sSet (eF (fLst (aCons (eOp oMul (eOp oIx (eVar 2) (eC (.int 0))) (eVar 4)) (aCons (eOp oMul (eOp oIx (eVar 2) (eC (.int 1))) (eVar 4)) aNil)))) 2)
  sNext)
  (sSeq (sIf (tBl (eOp oIn (eOp oIx (eVar 1) (eC (.int 3))) (eTup (aCons (eC (.int 2)) (aCons (eC (.int 3)) aNil)))))
  (sSeq (sSet (eOp oIx (eF (fLst (aCons (eVar 4) (aCons (eOp oAdd (eC (.int 1)) (eOp oFdiv (eVar 4) (eC (.int 2)))) aNil)))) (eOp oIx (eVar 1) (eC (.int 6)))) 5)
  (sSet (eF (fLst (aCons (eOp oMul (eOp oIx (eVar 3) (eC (.int 0))) (eVar 5)) (aCons (eOp oMul (eOp oIx (eVar 3) (eC (.int 1))) (eVar 5)) aNil)))) 3))
  sNext)
  (sRetF (fLst (aCons (eVar 2) (aCons (eVar 3) aNil)))))))))))))))
def w__law_draw_pairs : Spf := fun ds P Xp => t__law_draw_pairs { nx := fun _ => False, rt := fun _ => False, ro := fun o => match o with | .lst l => P l | _ => False, xc := fun C fs _ => Xp C fs } (startD 6 ds)
theorem ok__law_draw_pairs {P : Program} {w : World} {K : PySem.W.Frag} {mg : Str → Option Value} {base : Heap} (T : Txt K mg) : FnOk P w K mg base (L2.CX P w) 3 T.a__law_draw_pairs T.d__law_draw_pairs ["_law_script"] (spF ⟨K, mg⟩ 1 w__law_draw_pairs) :=
  ok_defF (k := 2) T.F__law_draw_pairs sc__law_draw_pairs (fun cdv A outer s H E W hr hW tk =>
    (dss_cons (ds_set (i := 1) sc__law_draw_pairs.nd rfl (.inl rfl) (de_f (df_call (ok__law_digits T) (hr.mono (by decide)) rfl T.g__law_digits T.F__law_digits.kp T.b__law_digits tk (da_cons (de_call (ok__law_cell T) (hr.mono (by decide)) rfl T.g__law_cell T.F__law_cell.kp T.b__law_cell tk (da_cons (de_name (pv 0)) (da_cons de_int da_nil))) (da_cons (de_f (df_lst (da_cons de_int (da_cons de_int (da_cons de_int (da_cons de_int (da_cons de_int (da_cons de_int (da_cons de_int da_nil))))))))) da_nil)))))
    (dss_cons (ds_set (i := 2) sc__law_draw_pairs.nd rfl (.inl rfl) (de_f (df_lst (da_cons (de_call (ok__law_top T) (hr.mono (by decide)) rfl T.g__law_top T.F__law_top.kp T.b__law_top tk (da_cons (de_call (ok__law_cell T) (hr.mono (by decide)) rfl T.g__law_cell T.F__law_cell.kp T.b__law_cell tk (da_cons (de_name (pv 0)) (da_cons de_int da_nil))) (da_cons (de_ix ir_ix (de_name (pv 1)) de_int (fun _ _ => rfl)) da_nil))) (da_cons (de_call (ok__law_bottom T) (hr.mono (by decide)) rfl T.g__law_bottom T.F__law_bottom.kp T.b__law_bottom tk (da_cons (de_call (ok__law_cell T) (hr.mono (by decide)) rfl T.g__law_cell T.F__law_cell.kp T.b__law_cell tk (da_cons (de_name (pv 0)) (da_cons de_int da_nil))) (da_cons (de_ix ir_ix (de_name (pv 1)) de_int (fun _ _ => rfl)) da_nil))) da_nil)))))
    (dss_cons (ds_set (i := 3) sc__law_draw_pairs.nd rfl (.inl rfl) (de_f (df_lst (da_cons (de_call (ok__law_top T) (hr.mono (by decide)) rfl T.g__law_top T.F__law_top.kp T.b__law_top tk (da_cons (de_call (ok__law_cell T) (hr.mono (by decide)) rfl T.g__law_cell T.F__law_cell.kp T.b__law_cell tk (da_cons (de_name (pv 0)) (da_cons de_int da_nil))) (da_cons (de_ix ir_ix (de_name (pv 1)) de_int (fun _ _ => rfl)) da_nil))) (da_cons (de_call (ok__law_bottom T) (hr.mono (by decide)) rfl T.g__law_bottom T.F__law_bottom.kp T.b__law_bottom tk (da_cons (de_call (ok__law_cell T) (hr.mono (by decide)) rfl T.g__law_cell T.F__law_cell.kp T.b__law_cell tk (da_cons (de_name (pv 0)) (da_cons de_int da_nil))) (da_cons (de_ix ir_ix (de_name (pv 1)) de_int (fun _ _ => rfl)) da_nil))) da_nil)))))
    (dss_cons (ds_if (dt_cmp (or_eq hr.units) (de_ix ir_ix (de_name (pv 1)) de_int (fun _ _ => rfl)) de_int (nomark _))
    (dss_one (ds_set (i := 3) sc__law_draw_pairs.nd rfl (.inl rfl) (de_f (df_lst (da_cons (de_ix ir_ix (de_name (pv 2)) de_int (fun _ _ => rfl)) (da_cons (de_ix ir_ix (de_name (pv 2)) de_int (fun _ _ => rfl)) da_nil))))))
    dss_nil)
    (dss_cons (ds_if (dt_cmp (or_eq hr.units) (de_ix ir_ix (de_name (pv 1)) de_int (fun _ _ => rfl)) de_int (nomark _))
    (dss_one (ds_set (i := 3) sc__law_draw_pairs.nd rfl (.inl rfl) (de_f (df_lst (da_cons (de_op or_sub de_int (de_ix ir_ix (de_name (pv 2)) de_int (fun _ _ => rfl))) (da_cons (de_ix ir_ix (de_name (pv 2)) de_int (fun _ _ => rfl)) da_nil))))))
    dss_nil)
    (dss_cons (ds_if (dt_cmp (or_eq hr.units) (de_ix ir_ix (de_name (pv 1)) de_int (fun _ _ => rfl)) de_int (nomark _))
    (dss_one (ds_set (i := 3) sc__law_draw_pairs.nd rfl (.inl rfl) (de_f (df_lst (da_cons de_int (da_cons (de_ix ir_ix (de_name (pv 3)) de_int (fun _ _ => rfl)) da_nil))))))
    dss_nil)
    (dss_cons (ds_if (dt_cmp (or_eq hr.units) (de_ix ir_ix (de_name (pv 1)) de_int (fun _ _ => rfl)) de_int (nomark _))
    (dss_one (ds_set (i := 3) sc__law_draw_pairs.nd rfl (.inl rfl) (de_f (df_lst (da_cons (de_op or_add (de_ix ir_ix (de_name (pv 2)) de_int (fun _ _ => rfl)) de_int) (da_cons (de_ix ir_ix (de_name (pv 2)) de_int (fun _ _ => rfl)) da_nil))))))
    dss_nil)
    (dss_cons (ds_if (dt_w (dw_and (dt_cmp (or_eq hr.units) (de_ix ir_ix (de_name (pv 1)) de_int (fun _ _ => rfl)) de_int (nomark _)) (dw_and1 (dt_cmp (or_ne hr.units) (de_ix ir_ix (de_name (pv 2)) de_int (fun _ _ => rfl)) de_int (nomark _)))))
    (dss_one (ds_set (i := 3) sc__law_draw_pairs.nd rfl (.inl rfl) (de_f (df_lst (da_cons (de_ix ir_ix (de_f (df_lst (da_cons (de_ix ir_ix (de_name (pv 2)) de_int (fun _ _ => rfl)) (da_cons (de_op or_sub de_int (de_ix ir_ix (de_name (pv 2)) de_int (fun _ _ => rfl))) da_nil)))) (de_ix ir_ix (de_name (pv 1)) de_int (fun _ _ => rfl)) (fun _ _ => rfl)) (da_cons (de_callB cr_abs rfl T.z_abs (by decide +kernel) (da_cons (de_ix ir_ix (de_name (pv 2)) de_int (fun _ _ => rfl)) da_nil)) da_nil))))))
    dss_nil)
    (dss_cons (ds_set (i := 4) sc__law_draw_pairs.nd rfl (.inl rfl) (de_op or_add de_int (de_call (ok__law_number T) (hr.mono (by decide)) rfl T.g__law_number T.F__law_number.kp T.b__law_number tk (da_cons (de_call (ok__law_cell T) (hr.mono (by decide)) rfl T.g__law_cell T.F__law_cell.kp T.b__law_cell tk (da_cons (de_name (pv 0)) (da_cons de_int da_nil))) (da_cons (de_ix ir_ix (de_f (df_lst (da_cons de_int (da_cons de_int (da_cons (de_op or_pow de_int de_int) (da_cons de_int (da_cons de_int (da_cons de_int da_nil)))))))) (de_ix ir_ix (de_name (pv 1)) de_int (fun _ _ => rfl)) (fun _ _ => rfl)) da_nil)))))
    (dss_cons (ds_if (dt_cmp or_in (de_ix ir_ix (de_name (pv 1)) de_int (fun _ _ => rfl)) (de_tup (da_cons de_int (da_cons de_int da_nil))) (by with_unfolding_all rfl))
    (dss_one (ds_set (i := 2) sc__law_draw_pairs.nd rfl (.inl rfl) (de_f (df_lst (da_cons (de_op or_mul (de_ix ir_ix (de_name (pv 2)) de_int (fun _ _ => rfl)) (de_name (pv 4))) (da_cons (de_op or_mul (de_ix ir_ix (de_name (pv 2)) de_int (fun _ _ => rfl)) (de_name (pv 4))) da_nil))))))
    dss_nil)
    (dss_cons (ds_if (dt_cmp or_in (de_ix ir_ix (de_name (pv 1)) de_int (fun _ _ => rfl)) (de_tup (da_cons de_int (da_cons de_int da_nil))) (by with_unfolding_all rfl))
    (dss_cons (ds_set (i := 5) sc__law_draw_pairs.nd rfl (.inl rfl) (de_ix ir_ix (de_f (df_lst (da_cons (de_name (pv 4)) (da_cons (de_op or_add de_int (de_op or_fdiv (de_name (pv 4)) de_int)) da_nil)))) (de_ix ir_ix (de_name (pv 1)) de_int (fun _ _ => rfl)) (fun _ _ => rfl)))
    (dss_one (ds_set (i := 3) sc__law_draw_pairs.nd rfl (.inl rfl) (de_f (df_lst (da_cons (de_op or_mul (de_ix ir_ix (de_name (pv 3)) de_int (fun _ _ => rfl)) (de_name (pv 5))) (da_cons (de_op or_mul (de_ix ir_ix (de_name (pv 3)) de_int (fun _ _ => rfl)) (de_name (pv 5))) da_nil)))))))
    dss_nil)
    (dss_one (ds_retF (df_lst (da_cons (de_name (pv 2)) (da_cons (de_name (pv 3)) da_nil))))))))))))))))) (fun _ _ _ _ h => h)
theorem sc_compared : FnScope ["one", "two", "left", "right"] ["one", "two"] (defScope st_compared) := ⟨rfl, rfl, rfl, by decide +kernel, rfl, by decide +kernel, by decide +kernel⟩
def t_compared : TSd :=
  (sSeq (sSet (eOp oMul (eOp oIx (eVar 0) (eC (.int 0))) (eOp oIx (eVar 1) (eC (.int 1)))) 2)
  (sSeq (sSet (eOp oMul (eOp oIx (eVar 1) (eC (.int 0))) (eOp oIx (eVar 0) (eC (.int 1)))) 3)
  (sSeq (sIf (tBl (eOp oLt (eVar 2) (eVar 3)))
  (sRet (eUn oNeg (eC (.int 1))))
  sNext)
  (sSeq (sIf (tBl (eOp oGt (eVar 2) (eVar 3)))
  (sRet (eC (.int 1)))
  sNext)
  (sRet (eC (.int 0)))))))
def w_compared : Spd := fun ds P Xp => t_compared { nx := fun _ => P .non, rt := P, ro := fun o => P o.d, xc := fun C fs _ => Xp C fs } (startD 4 ds)
theorem ok_compared {P : Program} {w : World} {K : PySem.W.Frag} {mg : Str → Option Value} {base : Heap} (T : Txt K mg) : FnOk P w K mg base (L2.CX P w) 1 T.a_compared T.d_compared ["one", "two"] (spL ⟨K, mg⟩ 2 w_compared) :=
  ok_def (k := 0) T.F_compared sc_compared (fun cdv A outer s H E W hr hW tk =>
    (dss_cons (ds_set (i := 2) sc_compared.nd rfl (.inl rfl) (de_op or_mul (de_ix ir_ix (de_name (pv 0)) de_int (fun _ _ => rfl)) (de_ix ir_ix (de_name (pv 1)) de_int (fun _ _ => rfl))))
    (dss_cons (ds_set (i := 3) sc_compared.nd rfl (.inl rfl) (de_op or_mul (de_ix ir_ix (de_name (pv 1)) de_int (fun _ _ => rfl)) (de_ix ir_ix (de_name (pv 0)) de_int (fun _ _ => rfl))))
    (dss_cons (ds_if (dt_cmp or_lt (de_name (pv 2)) (de_name (pv 3)) (nomark _))
    (dss_one (ds_ret (de_un ur_neg de_int)))
    dss_nil)
    (dss_cons (ds_if (dt_cmp or_gt (de_name (pv 2)) (de_name (pv 3)) (nomark _))
    (dss_one (ds_ret de_int))
    dss_nil)
    (dss_one (ds_ret de_int))))))) (fun _ _ _ _ h => h)
theorem sc__law_whole : FnScope ["_law_value"] ["_law_value"] (defScope st__law_whole) := ⟨rfl, rfl, rfl, by decide +kernel, rfl, by decide +kernel, by decide +kernel⟩
def t__law_whole : TSd :=
  (sRet (eAnd (eCB cIsi (aCons (eVar 0) (aCons (eC (.ty "int")) aNil))) (eNot (eCB cIsi (aCons (eVar 0) (aCons (eC (.ty "bool")) aNil))))))
def w__law_whole : Spd := fun ds P Xp => t__law_whole { nx := fun _ => P .non, rt := P, ro := fun o => P o.d, xc := fun C fs _ => Xp C fs } (startD 1 ds)
theorem ok__law_whole {P : Program} {w : World} {K : PySem.W.Frag} {mg : Str → Option Value} {base : Heap} (T : Txt K mg) : FnOk P w K mg base (L2.CX P w) 1 T.a__law_whole T.d__law_whole ["_law_value"] (spL ⟨K, mg⟩ 1 w__law_whole) :=
  ok_def (k := 0) T.F__law_whole sc__law_whole (fun cdv A outer s H E W hr hW tk =>
    (dss_one (ds_ret (de_and (de_callB cr_isi rfl T.z_isinstance (by decide +kernel) (da_cons (de_name (pv 0)) (da_cons (de_ty rfl T.z_int (by decide +kernel)) da_nil))) (de_one (de_not (de_callB cr_isi rfl T.z_isinstance (by decide +kernel) (da_cons (de_name (pv 0)) (da_cons (de_ty rfl T.z_bool (by decide +kernel)) da_nil))))))))) (fun _ _ _ _ h => h)
theorem sc__law_shared : FnScope ["_law_one", "_law_two", "_law_left", "_law_right_here", "_law_turn", "_law_rest"] ["_law_one", "_law_two"] (defScope st__law_shared) := ⟨rfl, rfl, rfl, by decide +kernel, rfl, by decide +kernel, by decide +kernel⟩
def t__law_shared : TSd :=
  (sSeq (sSet (eCB cAbs (aCons (eVar 0) aNil)) 2)
  (sSeq (sSet (eCB cAbs (aCons (eVar 1) aNil)) 3)
  (sSeq (sFor (iRng1 (aCons (eC (.int 4000)) aNil)) (gN 4)
  (sSeq (sIf (tBl (eOp oEq (eVar 3) (eC (.int 0))))
  sBrk
  sNext)
  (sSeq (sSet (eOp oMod (eCB cInt (aCons (eVar 2) aNil)) (eVar 3)) 5)
  (sSeq (sSet (eVar 3) 2)
  (sSet (eVar 5) 3)))))
  (sRet (eVar 2)))))
def w__law_shared : Spd := fun ds P Xp => t__law_shared { nx := fun _ => P .non, rt := P, ro := fun o => P o.d, xc := fun C fs _ => Xp C fs } (startD 6 ds)
theorem ok__law_shared {P : Program} {w : World} {K : PySem.W.Frag} {mg : Str → Option Value} {base : Heap} (T : Txt K mg) : FnOk P w K mg base (L2.CX P w) 1 T.a__law_shared T.d__law_shared ["_law_one", "_law_two"] (spL ⟨K, mg⟩ 2 w__law_shared) :=
  ok_def (k := 0) T.F__law_shared sc__law_shared (fun cdv A outer s H E W hr hW tk =>
    (dss_cons (ds_set (i := 2) sc__law_shared.nd rfl (.inl rfl) (de_callB cr_abs rfl T.z_abs (by decide +kernel) (da_cons (de_name (pv 0)) da_nil)))
    (dss_cons (ds_set (i := 3) sc__law_shared.nd rfl (.inl rfl) (de_callB cr_abs rfl T.z_abs (by decide +kernel) (da_cons (de_name (pv 1)) da_nil)))
    (dss_cons (ds_for (vs := [4]) (passes_of rfl) rfl (di_rng1 rfl T.z_range (da_cons de_int da_nil)) (dg_name (i := 4) sc__law_shared.nd rfl (.inl rfl))
    (dss_cons (ds_if (dt_cmp (or_eq hr.units) (de_name (pv 3)) de_int (nomark _))
    (dss_one ds_break)
    dss_nil)
    (dss_cons (ds_set (i := 5) sc__law_shared.nd rfl (.inl rfl) (de_op or_mod (de_callTy cr_int rfl T.z_int (by decide +kernel) (da_cons (de_name (pv 2)) da_nil)) (de_name (pv 3))))
    (dss_cons (ds_set (i := 2) sc__law_shared.nd rfl (.inl rfl) (de_name (pv 3)))
    (dss_one (ds_set (i := 3) sc__law_shared.nd rfl (.inl rfl) (de_name (pv 5))))))))
    (dss_one (ds_ret (de_name (pv 2)))))))) (fun _ _ _ _ h => h)
theorem sc__law_stands : FnScope ["_law_value", "_law_top_here", "_law_bottom_here"] ["_law_value", "_law_top_here", "_law_bottom_here"] (defScope st__law_stands) := ⟨rfl, rfl, rfl, by decide +kernel, rfl, by decide +kernel, by decide +kernel⟩
def t__law_stands : TSd :=
  (sSeq (sIf (tOr (tNot (tTr (eCB cIsi (aCons (eVar 0) (aCons (eC (.ty "tuple")) aNil))))) (tBl (eOp oNe (eCB cLen (aCons (eVar 0) aNil)) (eC (.int 2)))))
  (sRet (eC (.bl false)))
  sNext)
  (sSeq (sIf (tOr (tNot (tTr (eCall 1 w__law_whole (aCons (eOp oIx (eVar 0) (eC (.int 0))) aNil)))) (tOr (tNot (tTr (eCall 1 w__law_whole (aCons (eOp oIx (eVar 0) (eC (.int 1))) aNil)))) (tBl (eOp oLt (eOp oIx (eVar 0) (eC (.int 1))) (eC (.int 1))))))
  (sRet (eC (.bl false)))
  sNext)
  (sRet (eAnd (eOp oEq (eOp oMul (eOp oIx (eVar 0) (eC (.int 0))) (eVar 2)) (eOp oMul (eVar 1) (eOp oIx (eVar 0) (eC (.int 1))))) (eOp oEq (eCall 2 w__law_shared (aCons (eOp oIx (eVar 0) (eC (.int 0))) (aCons (eOp oIx (eVar 0) (eC (.int 1))) aNil))) (eC (.int 1)))))))
def w__law_stands : Spd := fun ds P Xp => t__law_stands { nx := fun _ => P .non, rt := P, ro := fun o => P o.d, xc := fun C fs _ => Xp C fs } (startD 3 ds)
theorem ok__law_stands {P : Program} {w : World} {K : PySem.W.Frag} {mg : Str → Option Value} {base : Heap} (T : Txt K mg) : FnOk P w K mg base (L2.CX P w) 2 T.a__law_stands T.d__law_stands ["_law_value", "_law_top_here", "_law_bottom_here"] (spL ⟨K, mg⟩ 3 w__law_stands) :=
  ok_def (k := 1) T.F__law_stands sc__law_stands (fun cdv A outer s H E W hr hW tk =>
    (dss_cons (ds_if (dt_w (dw_or (dt_not (dt_tr (de_callB cr_isi rfl T.z_isinstance (by decide +kernel) (da_cons (de_name (pv 0)) (da_cons (de_ty rfl T.z_tuple (by decide +kernel)) da_nil))))) (dw_or1 (dt_cmp (or_ne hr.units) (de_callB cr_len rfl T.z_len (by decide +kernel) (da_cons (de_name (pv 0)) da_nil)) de_int (nomark _)))))
    (dss_one (ds_ret de_bl))
    dss_nil)
    (dss_cons (ds_if (dt_w (dw_or (dt_not (dt_tr (de_call (ok__law_whole T) (hr.mono (by decide)) rfl T.g__law_whole T.F__law_whole.kp T.b__law_whole tk (da_cons (de_ix ir_ix (de_name (pv 0)) de_int (fun _ _ => rfl)) da_nil)))) (dw_or (dt_not (dt_tr (de_call (ok__law_whole T) (hr.mono (by decide)) rfl T.g__law_whole T.F__law_whole.kp T.b__law_whole tk (da_cons (de_ix ir_ix (de_name (pv 0)) de_int (fun _ _ => rfl)) da_nil)))) (dw_or1 (dt_cmp or_lt (de_ix ir_ix (de_name (pv 0)) de_int (fun _ _ => rfl)) de_int (nomark _))))))
    (dss_one (ds_ret de_bl))
    dss_nil)
    (dss_one (ds_ret (de_and (de_cmp (or_eq hr.units) (de_op or_mul (de_ix ir_ix (de_name (pv 0)) de_int (fun _ _ => rfl)) (de_name (pv 2))) (de_op or_mul (de_name (pv 1)) (de_ix ir_ix (de_name (pv 0)) de_int (fun _ _ => rfl))) (nomark _)) (de_one (de_cmp (or_eq hr.units) (de_call (ok__law_shared T) (hr.mono (by decide)) rfl T.g__law_shared T.F__law_shared.kp T.b__law_shared tk (da_cons (de_ix ir_ix (de_name (pv 0)) de_int (fun _ _ => rfl)) (da_cons (de_ix ir_ix (de_name (pv 0)) de_int (fun _ _ => rfl)) da_nil))) de_int (nomark _))))))))) (fun _ _ _ _ h => h)
theorem sc_ratio : FnScope ["top", "bottom", "shared"] ["top", "bottom"] (defScope st_ratio) := ⟨rfl, rfl, rfl, by decide +kernel, rfl, by decide +kernel, by decide +kernel⟩
def t_ratio : TSd :=
  (sSeq (sSet (eCB cGcd (aCons (eVar 0) (aCons (eVar 1) aNil))) 2)
  (sSeq (sIf (tBl (eOp oLt (eVar 1) (eC (.int 0))))
  (sSet (eUn oNeg (eVar 2)) 2)
  sNext)
  (sRet (eTup (aCons (eOp oFdiv (eVar 0) (eVar 2)) (aCons (eOp oFdiv (eVar 1) (eVar 2)) aNil))))))
def w_ratio : Spd := fun ds P Xp => t_ratio { nx := fun _ => P .non, rt := P, ro := fun o => P o.d, xc := fun C fs _ => Xp C fs } (startD 3 ds)
theorem ok_ratio {P : Program} {w : World} {K : PySem.W.Frag} {mg : Str → Option Value} {base : Heap} (T : Txt K mg) : FnOk P w K mg base (L2.CX P w) 1 T.a_ratio T.d_ratio ["top", "bottom"] (spL ⟨K, mg⟩ 2 w_ratio) :=
  ok_def (k := 0) T.F_ratio sc_ratio (fun cdv A outer s H E W hr hW tk =>
    (dss_cons (ds_set (i := 2) sc_ratio.nd rfl (.inl rfl) (de_callBfun cr_gcdD rfl T.l_gcd (da_cons (de_name (pv 0)) (da_cons (de_name (pv 1)) da_nil))))
    (dss_cons (ds_if (dt_cmp or_lt (de_name (pv 1)) de_int (nomark _))
    (dss_one (ds_set (i := 2) sc_ratio.nd rfl (.inl rfl) (de_un ur_neg (de_name (pv 2)))))
    dss_nil)
    (dss_one (ds_ret (de_tup (da_cons (de_op or_fdiv (de_name (pv 0)) (de_name (pv 2))) (da_cons (de_op or_fdiv (de_name (pv 1)) (de_name (pv 2))) da_nil)))))))) (fun _ _ _ _ h => h)
theorem sc_added : FnScope ["one", "two"] ["one", "two"] (defScope st_added) := ⟨rfl, rfl, rfl, by decide +kernel, rfl, by decide +kernel, by decide +kernel⟩
def t_added : TSd :=
  (sRet (eCall 2 w_ratio (aCons (eOp oAdd (eOp oMul (eOp oIx (eVar 0) (eC (.int 0))) (eOp oIx (eVar 1) (eC (.int 1)))) (eOp oMul (eOp oIx (eVar 1) (eC (.int 0))) (eOp oIx (eVar 0) (eC (.int 1))))) (aCons (eOp oMul (eOp oIx (eVar 0) (eC (.int 1))) (eOp oIx (eVar 1) (eC (.int 1)))) aNil))))
def w_added : Spd := fun ds P Xp => t_added { nx := fun _ => P .non, rt := P, ro := fun o => P o.d, xc := fun C fs _ => Xp C fs } (startD 2 ds)
theorem ok_added {P : Program} {w : World} {K : PySem.W.Frag} {mg : Str → Option Value} {base : Heap} (T : Txt K mg) : FnOk P w K mg base (L2.CX P w) 2 T.a_added T.d_added ["one", "two"] (spL ⟨K, mg⟩ 2 w_added) :=
  ok_def (k := 1) T.F_added sc_added (fun cdv A outer s H E W hr hW tk =>
    (dss_one (ds_ret (de_call (ok_ratio T) (hr.mono (by decide)) rfl T.g_ratio T.F_ratio.kp T.b_ratio tk (da_cons (de_op or_add (de_op or_mul (de_ix ir_ix (de_name (pv 0)) de_int (fun _ _ => rfl)) (de_ix ir_ix (de_name (pv 1)) de_int (fun _ _ => rfl))) (de_op or_mul (de_ix ir_ix (de_name (pv 1)) de_int (fun _ _ => rfl)) (de_ix ir_ix (de_name (pv 0)) de_int (fun _ _ => rfl)))) (da_cons (de_op or_mul (de_ix ir_ix (de_name (pv 0)) de_int (fun _ _ => rfl)) (de_ix ir_ix (de_name (pv 1)) de_int (fun _ _ => rfl))) da_nil)))))) (fun _ _ _ _ h => h)
theorem sc_multiplied : FnScope ["one", "two"] ["one", "two"] (defScope st_multiplied) := ⟨rfl, rfl, rfl, by decide +kernel, rfl, by decide +kernel, by decide +kernel⟩
def t_multiplied : TSd :=
  (sRet (eCall 2 w_ratio (aCons (eOp oMul (eOp oIx (eVar 0) (eC (.int 0))) (eOp oIx (eVar 1) (eC (.int 0)))) (aCons (eOp oMul (eOp oIx (eVar 0) (eC (.int 1))) (eOp oIx (eVar 1) (eC (.int 1)))) aNil))))
def w_multiplied : Spd := fun ds P Xp => t_multiplied { nx := fun _ => P .non, rt := P, ro := fun o => P o.d, xc := fun C fs _ => Xp C fs } (startD 2 ds)
theorem ok_multiplied {P : Program} {w : World} {K : PySem.W.Frag} {mg : Str → Option Value} {base : Heap} (T : Txt K mg) : FnOk P w K mg base (L2.CX P w) 2 T.a_multiplied T.d_multiplied ["one", "two"] (spL ⟨K, mg⟩ 2 w_multiplied) :=
  ok_def (k := 1) T.F_multiplied sc_multiplied (fun cdv A outer s H E W hr hW tk =>
    (dss_one (ds_ret (de_call (ok_ratio T) (hr.mono (by decide)) rfl T.g_ratio T.F_ratio.kp T.b_ratio tk (da_cons (de_op or_mul (de_ix ir_ix (de_name (pv 0)) de_int (fun _ _ => rfl)) (de_ix ir_ix (de_name (pv 1)) de_int (fun _ _ => rfl))) (da_cons (de_op or_mul (de_ix ir_ix (de_name (pv 0)) de_int (fun _ _ => rfl)) (de_ix ir_ix (de_name (pv 1)) de_int (fun _ _ => rfl))) da_nil)))))) (fun _ _ _ _ h => h)
theorem sc_divided : FnScope ["one", "two"] ["one", "two"] (defScope st_divided) := ⟨rfl, rfl, rfl, by decide +kernel, rfl, by decide +kernel, by decide +kernel⟩
def t_divided : TSd :=
  (sRet (eCall 2 w_ratio (aCons (eOp oMul (eOp oIx (eVar 0) (eC (.int 0))) (eOp oIx (eVar 1) (eC (.int 1)))) (aCons (eOp oMul (eOp oIx (eVar 0) (eC (.int 1))) (eOp oIx (eVar 1) (eC (.int 0)))) aNil))))
def w_divided : Spd := fun ds P Xp => t_divided { nx := fun _ => P .non, rt := P, ro := fun o => P o.d, xc := fun C fs _ => Xp C fs } (startD 2 ds)
theorem ok_divided {P : Program} {w : World} {K : PySem.W.Frag} {mg : Str → Option Value} {base : Heap} (T : Txt K mg) : FnOk P w K mg base (L2.CX P w) 2 T.a_divided T.d_divided ["one", "two"] (spL ⟨K, mg⟩ 2 w_divided) :=
  ok_def (k := 1) T.F_divided sc_divided (fun cdv A outer s H E W hr hW tk =>
    (dss_one (ds_ret (de_call (ok_ratio T) (hr.mono (by decide)) rfl T.g_ratio T.F_ratio.kp T.b_ratio tk (da_cons (de_op or_mul (de_ix ir_ix (de_name (pv 0)) de_int (fun _ _ => rfl)) (de_ix ir_ix (de_name (pv 1)) de_int (fun _ _ => rfl))) (da_cons (de_op or_mul (de_ix ir_ix (de_name (pv 0)) de_int (fun _ _ => rfl)) (de_ix ir_ix (de_name (pv 1)) de_int (fun _ _ => rfl))) da_nil)))))) (fun _ _ _ _ h => h)
theorem sc__law_right : FnScope ["_law_one", "_law_two", "_law_left", "_law_right_here", "_law_sign", "_law_turn", "_law_top_here", "_law_bottom_here"] ["_law_one", "_law_two"] (defScope st__law_right) := ⟨rfl, rfl, rfl, by decide +kernel, rfl, by decide +kernel, by decide +kernel⟩
def t__law_right : TSd :=
  (sSeq (sSet (eOp oMul (eOp oIx (eVar 0) (eC (.int 0))) (eOp oIx (eVar 1) (eC (.int 1)))) 2)
  (sSeq (sSet (eOp oMul (eOp oIx (eVar 1) (eC (.int 0))) (eOp oIx (eVar 0) (eC (.int 1)))) 3)
  (sSeq (sIf (tNot (tTr (eCall 3 w__law_stands (aCons (eCall 2 w_added (aCons (eVar 0) (aCons (eVar 1) aNil))) (aCons (eOp oAdd (eVar 2) (eVar 3)) (aCons (eOp oMul (eOp oIx (eVar 0) (eC (.int 1))) (eOp oIx (eVar 1) (eC (.int 1)))) aNil))))))
  (sRet (eC (.bl false)))
  sNext)
  (sSeq (sIf (tNot (tTr (eCall 3 w__law_stands (aCons (eCall 2 w_multiplied (aCons (eVar 0) (aCons (eVar 1) aNil))) (aCons (eOp oMul (eOp oIx (eVar 0) (eC (.int 0))) (eOp oIx (eVar 1) (eC (.int 0)))) (aCons (eOp oMul (eOp oIx (eVar 0) (eC (.int 1))) (eOp oIx (eVar 1) (eC (.int 1)))) aNil))))))
  (sRet (eC (.bl false)))
  sNext)
  (sSeq (sIf (tAnd (tBl (eOp oNe (eOp oIx (eVar 1) (eC (.int 0))) (eC (.int 0)))) (tNot (tTr (eCall 3 w__law_stands (aCons (eCall 2 w_divided (aCons (eVar 0) (aCons (eVar 1) aNil))) (aCons (eVar 2) (aCons (eVar 3) aNil)))))))
  (sRet (eC (.bl false)))
  sNext)
  (sSeq (sSet (eCall 2 w_compared (aCons (eVar 0) (aCons (eVar 1) aNil))) 4)
  (sSeq (sIf (tOr (tNot (tTr (eCall 1 w__law_whole (aCons (eVar 4) aNil)))) (tBl (eOp oNe (eVar 4) (eOp oSub (eCB cInt (aCons (eOp oGt (eVar 2) (eVar 3)) aNil)) (eCB cInt (aCons (eOp oLt (eVar 2) (eVar 3)) aNil))))))
  (sRet (eC (.bl false)))
  sNext)
  (sSeq (sFor (iRng1 (aCons (eC (.int 4)) aNil)) (gN 5)
  (sSeq (sSet (eOp oIx (eF (fLst (aCons (eOp oIx (eVar 0) (eC (.int 0))) (aCons (eOp oSub (eC (.int 0)) (eOp oIx (eVar 0) (eC (.int 0)))) aNil)))) (eOp oFdiv (eVar 5) (eC (.int 2)))) 6)
  (sSeq (sSet (eOp oIx (eF (fLst (aCons (eOp oIx (eVar 0) (eC (.int 1))) (aCons (eOp oSub (eC (.int 0)) (eOp oIx (eVar 0) (eC (.int 1)))) aNil)))) (eOp oMod (eVar 5) (eC (.int 2)))) 7)
  (sIf (tNot (tTr (eCall 3 w__law_stands (aCons (eCall 2 w_ratio (aCons (eVar 6) (aCons (eVar 7) aNil))) (aCons (eVar 6) (aCons (eVar 7) aNil))))))
  (sRet (eC (.bl false)))
  sNext))))
  (sRet (eC (.bl true)))))))))))
def w__law_right : Spd := fun ds P Xp => t__law_right { nx := fun _ => P .non, rt := P, ro := fun o => P o.d, xc := fun C fs _ => Xp C fs } (startD 8 ds)
theorem ok__law_right {P : Program} {w : World} {K : PySem.W.Frag} {mg : Str → Option Value} {base : Heap} (T : Txt K mg) : FnOk P w K mg base (L2.CX P w) 3 T.a__law_right T.d__law_right ["_law_one", "_law_two"] (spL ⟨K, mg⟩ 2 w__law_right) :=
  ok_def (k := 2) T.F__law_right sc__law_right (fun cdv A outer s H E W hr hW tk =>
    (dss_cons (ds_set (i := 2) sc__law_right.nd rfl (.inl rfl) (de_op or_mul (de_ix ir_ix (de_name (pv 0)) de_int (fun _ _ => rfl)) (de_ix ir_ix (de_name (pv 1)) de_int (fun _ _ => rfl))))
    (dss_cons (ds_set (i := 3) sc__law_right.nd rfl (.inl rfl) (de_op or_mul (de_ix ir_ix (de_name (pv 1)) de_int (fun _ _ => rfl)) (de_ix ir_ix (de_name (pv 0)) de_int (fun _ _ => rfl))))
    (dss_cons (ds_if (dt_not (dt_tr (de_call (ok__law_stands T) (hr.mono (by decide)) rfl T.g__law_stands T.F__law_stands.kp T.b__law_stands tk (da_cons (de_call (ok_added T) (hr.mono (by decide)) rfl T.g_added T.F_added.kp T.b_added tk (da_cons (de_name (pv 0)) (da_cons (de_name (pv 1)) da_nil))) (da_cons (de_op or_add (de_name (pv 2)) (de_name (pv 3))) (da_cons (de_op or_mul (de_ix ir_ix (de_name (pv 0)) de_int (fun _ _ => rfl)) (de_ix ir_ix (de_name (pv 1)) de_int (fun _ _ => rfl))) da_nil))))))
    (dss_one (ds_ret de_bl))
    dss_nil)
    (dss_cons (ds_if (dt_not (dt_tr (de_call (ok__law_stands T) (hr.mono (by decide)) rfl T.g__law_stands T.F__law_stands.kp T.b__law_stands tk (da_cons (de_call (ok_multiplied T) (hr.mono (by decide)) rfl T.g_multiplied T.F_multiplied.kp T.b_multiplied tk (da_cons (de_name (pv 0)) (da_cons (de_name (pv 1)) da_nil))) (da_cons (de_op or_mul (de_ix ir_ix (de_name (pv 0)) de_int (fun _ _ => rfl)) (de_ix ir_ix (de_name (pv 1)) de_int (fun _ _ => rfl))) (da_cons (de_op or_mul (de_ix ir_ix (de_name (pv 0)) de_int (fun _ _ => rfl)) (de_ix ir_ix (de_name (pv 1)) de_int (fun _ _ => rfl))) da_nil))))))
    (dss_one (ds_ret de_bl))
    dss_nil)
    (dss_cons (ds_if (dt_w (dw_and (dt_cmp (or_ne hr.units) (de_ix ir_ix (de_name (pv 1)) de_int (fun _ _ => rfl)) de_int (nomark _)) (dw_and1 (dt_not (dt_tr (de_call (ok__law_stands T) (hr.mono (by decide)) rfl T.g__law_stands T.F__law_stands.kp T.b__law_stands tk (da_cons (de_call (ok_divided T) (hr.mono (by decide)) rfl T.g_divided T.F_divided.kp T.b_divided tk (da_cons (de_name (pv 0)) (da_cons (de_name (pv 1)) da_nil))) (da_cons (de_name (pv 2)) (da_cons (de_name (pv 3)) da_nil)))))))))
    (dss_one (ds_ret de_bl))
    dss_nil)
    (dss_cons (ds_set (i := 4) sc__law_right.nd rfl (.inl rfl) (de_call (ok_compared T) (hr.mono (by decide)) rfl T.g_compared T.F_compared.kp T.b_compared tk (da_cons (de_name (pv 0)) (da_cons (de_name (pv 1)) da_nil))))
    (dss_cons (ds_if (dt_w (dw_or (dt_not (dt_tr (de_call (ok__law_whole T) (hr.mono (by decide)) rfl T.g__law_whole T.F__law_whole.kp T.b__law_whole tk (da_cons (de_name (pv 4)) da_nil)))) (dw_or1 (dt_cmp (or_ne hr.units) (de_name (pv 4)) (de_op or_sub (de_callTy cr_int rfl T.z_int (by decide +kernel) (da_cons (de_cmp or_gt (de_name (pv 2)) (de_name (pv 3)) (nomark _)) da_nil)) (de_callTy cr_int rfl T.z_int (by decide +kernel) (da_cons (de_cmp or_lt (de_name (pv 2)) (de_name (pv 3)) (nomark _)) da_nil))) (nomark _)))))
    (dss_one (ds_ret de_bl))
    dss_nil)
    (dss_cons (ds_for (vs := [5]) (passes_of rfl) rfl (di_rng1 rfl T.z_range (da_cons de_int da_nil)) (dg_name (i := 5) sc__law_right.nd rfl (.inl rfl))
    (dss_cons (ds_set (i := 6) sc__law_right.nd rfl (.inl rfl) (de_ix ir_ix (de_f (df_lst (da_cons (de_ix ir_ix (de_name (pv 0)) de_int (fun _ _ => rfl)) (da_cons (de_op or_sub de_int (de_ix ir_ix (de_name (pv 0)) de_int (fun _ _ => rfl))) da_nil)))) (de_op or_fdiv (de_name (pv 5)) de_int) (fun _ _ => rfl)))
    (dss_cons (ds_set (i := 7) sc__law_right.nd rfl (.inl rfl) (de_ix ir_ix (de_f (df_lst (da_cons (de_ix ir_ix (de_name (pv 0)) de_int (fun _ _ => rfl)) (da_cons (de_op or_sub de_int (de_ix ir_ix (de_name (pv 0)) de_int (fun _ _ => rfl))) da_nil)))) (de_op or_mod (de_name (pv 5)) de_int) (fun _ _ => rfl)))
    (dss_one (ds_if (dt_not (dt_tr (de_call (ok__law_stands T) (hr.mono (by decide)) rfl T.g__law_stands T.F__law_stands.kp T.b__law_stands tk (da_cons (de_call (ok_ratio T) (hr.mono (by decide)) rfl T.g_ratio T.F_ratio.kp T.b_ratio tk (da_cons (de_name (pv 6)) (da_cons (de_name (pv 7)) da_nil))) (da_cons (de_name (pv 6)) (da_cons (de_name (pv 7)) da_nil))))))
    (dss_one (ds_ret de_bl))
    dss_nil)))))
    (dss_one (ds_ret de_bl))))))))))) (fun _ _ _ _ h => h)
theorem sc__law_back : FnScope ["_law_one", "_law_two", "_law_total", "_law_minus"] ["_law_one", "_law_two"] (defScope st__law_back) := ⟨rfl, rfl, rfl, by decide +kernel, rfl, by decide +kernel, by decide +kernel⟩
def t__law_back : TSd :=
  (sSeq (sSet (eCall 2 w_added (aCons (eVar 0) (aCons (eVar 1) aNil))) 2)
  (sSeq (sSet (eCall 2 w_multiplied (aCons (eVar 1) (aCons (eTup (aCons (eUn oNeg (eC (.int 1))) (aCons (eC (.int 1)) aNil))) aNil))) 3)
  (sSeq (sIf (tNot (tTr (eCall 3 w__law_stands (aCons (eCall 2 w_added (aCons (eVar 2) (aCons (eVar 3) aNil))) (aCons (eOp oIx (eVar 0) (eC (.int 0))) (aCons (eOp oIx (eVar 0) (eC (.int 1))) aNil))))))
  (sRet (eC (.bl false)))
  sNext)
  (sSeq (sIf (tOr (tBl (eOp oNe (eCall 2 w_compared (aCons (eVar 2) (aCons (eVar 0) aNil))) (eOp oSub (eCB cInt (aCons (eOp oGt (eOp oIx (eVar 1) (eC (.int 0))) (eC (.int 0))) aNil)) (eCB cInt (aCons (eOp oLt (eOp oIx (eVar 1) (eC (.int 0))) (eC (.int 0))) aNil))))) (tBl (eOp oNe (eCall 2 w_compared (aCons (eVar 2) (aCons (eVar 2) aNil))) (eC (.int 0)))))
  (sRet (eC (.bl false)))
  sNext)
  (sSeq (sIf (tBl (eOp oEq (eOp oIx (eVar 1) (eC (.int 0))) (eC (.int 0))))
  (sRet (eOp oEq (eCall 2 w_multiplied (aCons (eVar 0) (aCons (eVar 1) aNil))) (eTup (aCons (eC (.int 0)) (aCons (eC (.int 1)) aNil)))))
  sNext)
  (sRet (eCall 3 w__law_stands (aCons (eCall 2 w_divided (aCons (eCall 2 w_multiplied (aCons (eVar 0) (aCons (eVar 1) aNil))) (aCons (eVar 1) aNil))) (aCons (eOp oIx (eVar 0) (eC (.int 0))) (aCons (eOp oIx (eVar 0) (eC (.int 1))) aNil))))))))))
def w__law_back : Spd := fun ds P Xp => t__law_back { nx := fun _ => P .non, rt := P, ro := fun o => P o.d, xc := fun C fs _ => Xp C fs } (startD 4 ds)
theorem ok__law_back {P : Program} {w : World} {K : PySem.W.Frag} {mg : Str → Option Value} {base : Heap} (T : Txt K mg) : FnOk P w K mg base (L2.CX P w) 3 T.a__law_back T.d__law_back ["_law_one", "_law_two"] (spL ⟨K, mg⟩ 2 w__law_back) :=
  ok_def (k := 2) T.F__law_back sc__law_back (fun cdv A outer s H E W hr hW tk =>
    (dss_cons (ds_set (i := 2) sc__law_back.nd rfl (.inl rfl) (de_call (ok_added T) (hr.mono (by decide)) rfl T.g_added T.F_added.kp T.b_added tk (da_cons (de_name (pv 0)) (da_cons (de_name (pv 1)) da_nil))))
    (dss_cons (ds_set (i := 3) sc__law_back.nd rfl (.inl rfl) (de_call (ok_multiplied T) (hr.mono (by decide)) rfl T.g_multiplied T.F_multiplied.kp T.b_multiplied tk (da_cons (de_name (pv 1)) (da_cons (de_tup (da_cons (de_un ur_neg de_int) (da_cons de_int da_nil))) da_nil))))
    (dss_cons (ds_if (dt_not (dt_tr (de_call (ok__law_stands T) (hr.mono (by decide)) rfl T.g__law_stands T.F__law_stands.kp T.b__law_stands tk (da_cons (de_call (ok_added T) (hr.mono (by decide)) rfl T.g_added T.F_added.kp T.b_added tk (da_cons (de_name (pv 2)) (da_cons (de_name (pv 3)) da_nil))) (da_cons (de_ix ir_ix (de_name (pv 0)) de_int (fun _ _ => rfl)) (da_cons (de_ix ir_ix (de_name (pv 0)) de_int (fun _ _ => rfl)) da_nil))))))
    (dss_one (ds_ret de_bl))
    dss_nil)
    (dss_cons (ds_if (dt_w (dw_or (dt_cmp (or_ne hr.units) (de_call (ok_compared T) (hr.mono (by decide)) rfl T.g_compared T.F_compared.kp T.b_compared tk (da_cons (de_name (pv 2)) (da_cons (de_name (pv 0)) da_nil))) (de_op or_sub (de_callTy cr_int rfl T.z_int (by decide +kernel) (da_cons (de_cmp or_gt (de_ix ir_ix (de_name (pv 1)) de_int (fun _ _ => rfl)) de_int (nomark _)) da_nil)) (de_callTy cr_int rfl T.z_int (by decide +kernel) (da_cons (de_cmp or_lt (de_ix ir_ix (de_name (pv 1)) de_int (fun _ _ => rfl)) de_int (nomark _)) da_nil))) (nomark _)) (dw_or1 (dt_cmp (or_ne hr.units) (de_call (ok_compared T) (hr.mono (by decide)) rfl T.g_compared T.F_compared.kp T.b_compared tk (da_cons (de_name (pv 2)) (da_cons (de_name (pv 2)) da_nil))) de_int (nomark _)))))
    (dss_one (ds_ret de_bl))
    dss_nil)
    (dss_cons (ds_if (dt_cmp (or_eq hr.units) (de_ix ir_ix (de_name (pv 1)) de_int (fun _ _ => rfl)) de_int (nomark _))
    (dss_one (ds_ret (de_cmp (or_eq hr.units) (de_call (ok_multiplied T) (hr.mono (by decide)) rfl T.g_multiplied T.F_multiplied.kp T.b_multiplied tk (da_cons (de_name (pv 0)) (da_cons (de_name (pv 1)) da_nil))) (de_tup (da_cons de_int (da_cons de_int da_nil))) (nomark _))))
    dss_nil)
    (dss_one (ds_ret (de_call (ok__law_stands T) (hr.mono (by decide)) rfl T.g__law_stands T.F__law_stands.kp T.b__law_stands tk (da_cons (de_call (ok_divided T) (hr.mono (by decide)) rfl T.g_divided T.F_divided.kp T.b_divided tk (da_cons (de_call (ok_multiplied T) (hr.mono (by decide)) rfl T.g_multiplied T.F_multiplied.kp T.b_multiplied tk (da_cons (de_name (pv 0)) (da_cons (de_name (pv 1)) da_nil))) (da_cons (de_name (pv 1)) da_nil))) (da_cons (de_ix ir_ix (de_name (pv 0)) de_int (fun _ _ => rfl)) (da_cons (de_ix ir_ix (de_name (pv 0)) de_int (fun _ _ => rfl)) da_nil)))))))))))) (fun _ _ _ _ h => h)
theorem sc_law : FnScope ["_law_script", "_law_pairs", "_law_one", "_law_two", "_law_form", "_law_first", "_law_second", "_law_turn"] ["_law_script"] (defScope st_law) := ⟨rfl, rfl, rfl, by decide +kernel, rfl, by decide +kernel, by decide +kernel⟩
def t_law : TSd :=
  (sSeq (sSet (eF (fCall 1 w__law_draw_pairs (aCons (eVar 0) aNil))) 1)
  (sSeq (sSet (eOp oIx (eVar 1) (eC (.int 0))) 2)
  (sSeq (sSet (eOp oIx (eVar 1) (eC (.int 1))) 3)
  (sSeq (sSet (eF (fCall 2 w__law_digits (aCons (eCall 2 w__law_cell (aCons (eVar 0) (aCons (eC (.int 6)) aNil))) (aCons (eF (fLst (aCons (eC (.int 2)) (aCons (eC (.int 2)) aNil)))) aNil)))) 4)
  (sSeq (sSet (eOp oIx (eF (fLst (aCons (eCB cTup (aCons (eVar 2) aNil)) (aCons (eF (fCB cLst (aCons (eVar 2) aNil))) aNil)))) (eOp oIx (eVar 4) (eC (.int 0)))) 5)
  (sSeq (sSet (eOp oIx (eF (fLst (aCons (eCB cTup (aCons (eVar 3) aNil)) (aCons (eF (fCB cLst (aCons (eVar 3) aNil))) aNil)))) (eOp oIx (eVar 4) (eC (.int 1)))) 6)
  (sSeq (sFor (iRng1 (aCons (eC (.int 2)) aNil)) (gN 7)
  (sIf (tOr (tNot (tTr (eCall 2 w__law_right (aCons (eVar 5) (aCons (eVar 6) aNil))))) (tNot (tTr (eCall 2 w__law_right (aCons (eVar 6) (aCons (eVar 5) aNil))))))
  (sRet (eC (.bl false)))
  sNext))
  (sSeq (sIf (tOr (tNot (tTr (eCall 2 w__law_right (aCons (eVar 5) (aCons (eVar 5) aNil))))) (tNot (tTr (eCall 2 w__law_back (aCons (eVar 5) (aCons (eVar 6) aNil))))))
  (sRet (eC (.bl false)))
  sNext)
  (sRet (eAnd (eOp oEq (eF (fCB cLst (aCons (eVar 5) aNil))) (eVar 2)) (eOp oEq (eF (fCB cLst (aCons (eVar 6) aNil))) (eVar 3))))))))))))
def w_law : Spd := fun ds P Xp => t_law { nx := fun _ => P .non, rt := P, ro := fun o => P o.d, xc := fun C fs _ => Xp C fs } (startD 8 ds)
theorem ok_law {P : Program} {w : World} {K : PySem.W.Frag} {mg : Str → Option Value} {base : Heap} (T : Txt K mg) : FnOk P w K mg base (L2.CX P w) 4 T.a_law T.d_law ["_law_script"] (spL ⟨K, mg⟩ 1 w_law) :=
  ok_def (k := 3) T.F_law sc_law (fun cdv A outer s H E W hr hW tk =>
    (dss_cons (ds_set (i := 1) sc_law.nd rfl (.inl rfl) (de_f (df_call (ok__law_draw_pairs T) (hr.mono (by decide)) rfl T.g__law_draw_pairs T.F__law_draw_pairs.kp T.b__law_draw_pairs tk (da_cons (de_name (pv 0)) da_nil))))
    (dss_cons (ds_set (i := 2) sc_law.nd rfl (.inl rfl) (de_ix ir_ix (de_name (pv 1)) de_int (fun _ _ => rfl)))
    (dss_cons (ds_set (i := 3) sc_law.nd rfl (.inl rfl) (de_ix ir_ix (de_name (pv 1)) de_int (fun _ _ => rfl)))
    (dss_cons (ds_set (i := 4) sc_law.nd rfl (.inl rfl) (de_f (df_call (ok__law_digits T) (hr.mono (by decide)) rfl T.g__law_digits T.F__law_digits.kp T.b__law_digits tk (da_cons (de_call (ok__law_cell T) (hr.mono (by decide)) rfl T.g__law_cell T.F__law_cell.kp T.b__law_cell tk (da_cons (de_name (pv 0)) (da_cons de_int da_nil))) (da_cons (de_f (df_lst (da_cons de_int (da_cons de_int da_nil)))) da_nil)))))
    (dss_cons (ds_set (i := 5) sc_law.nd rfl (.inl rfl) (de_ix ir_ix (de_f (df_lst (da_cons (de_callTy cr_tup rfl T.z_tuple (by decide +kernel) (da_cons (de_name (pv 2)) da_nil)) (da_cons (de_f (df_callTy cr_lst rfl T.z_list (by decide +kernel) (da_cons (de_name (pv 2)) da_nil))) da_nil)))) (de_ix ir_ix (de_name (pv 4)) de_int (fun _ _ => rfl)) (fun _ _ => rfl)))
    (dss_cons (ds_set (i := 6) sc_law.nd rfl (.inl rfl) (de_ix ir_ix (de_f (df_lst (da_cons (de_callTy cr_tup rfl T.z_tuple (by decide +kernel) (da_cons (de_name (pv 3)) da_nil)) (da_cons (de_f (df_callTy cr_lst rfl T.z_list (by decide +kernel) (da_cons (de_name (pv 3)) da_nil))) da_nil)))) (de_ix ir_ix (de_name (pv 4)) de_int (fun _ _ => rfl)) (fun _ _ => rfl)))
    (dss_cons (ds_for (vs := [7]) (passes_of rfl) rfl (di_rng1 rfl T.z_range (da_cons de_int da_nil)) (dg_name (i := 7) sc_law.nd rfl (.inl rfl))
    (dss_one (ds_if (dt_w (dw_or (dt_not (dt_tr (de_call (ok__law_right T) (hr.mono (by decide)) rfl T.g__law_right T.F__law_right.kp T.b__law_right tk (da_cons (de_name (pv 5)) (da_cons (de_name (pv 6)) da_nil))))) (dw_or1 (dt_not (dt_tr (de_call (ok__law_right T) (hr.mono (by decide)) rfl T.g__law_right T.F__law_right.kp T.b__law_right tk (da_cons (de_name (pv 6)) (da_cons (de_name (pv 5)) da_nil))))))))
    (dss_one (ds_ret de_bl))
    dss_nil)))
    (dss_cons (ds_if (dt_w (dw_or (dt_not (dt_tr (de_call (ok__law_right T) (hr.mono (by decide)) rfl T.g__law_right T.F__law_right.kp T.b__law_right tk (da_cons (de_name (pv 5)) (da_cons (de_name (pv 5)) da_nil))))) (dw_or1 (dt_not (dt_tr (de_call (ok__law_back T) (hr.mono (by decide)) rfl T.g__law_back T.F__law_back.kp T.b__law_back tk (da_cons (de_name (pv 5)) (da_cons (de_name (pv 6)) da_nil))))))))
    (dss_one (ds_ret de_bl))
    dss_nil)
    (dss_one (ds_ret (de_and (de_cmp (or_eq hr.units) (de_f (df_callTy cr_lst rfl T.z_list (by decide +kernel) (da_cons (de_name (pv 5)) da_nil))) (de_name (pv 2)) (nomark _)) (de_one (de_cmp (or_eq hr.units) (de_f (df_callTy cr_lst rfl T.z_list (by decide +kernel) (da_cons (de_name (pv 6)) da_nil))) (de_name (pv 3)) (nomark _))))))))))))))) (fun _ _ _ _ h => h)
end K55

namespace K55
open PySem PySem.Spec PyProof.Rows L2 Z
theorem atI_map {α β : Type} (f : α → β) (l : List α) (i : Int) : atI (l.map f) i = (atI l i).map f := by
  unfold atI
  rw [List.length_map]
  cases ixN l.length i with
  | none => rfl
  | some j => simp
theorem atI_some {α : Type} {l : List α} {i : Int} (h0 : 0 ≤ i) (h1 : i < l.length) : ∃ x, atI l i = some x ∧ l[i.toNat]? = some x := by
  have h2 : i.toNat < l.length := by omega
  refine ⟨l[i.toNat], ?_, List.getElem?_eq_getElem h2⟩
  unfold atI ixN
  rw [if_pos h0, if_pos h1]
  simp [List.getElem?_eq_getElem h2]
theorem log2_lt {n k : Nat} (h0 : 0 < k) (h : n < 2 ^ k) : n.log2 < k := PySem.Flt.log2_lt_of h0 h
/-- bounds by bits -/
def B (n : Nat) (x : Int) : Prop := x.natAbs < 2 ^ n
theorem B.mul {n m : Nat} {x y : Int} (h : B n x) (h2 : B m y) : B (n + m) (x * y) := wide_lt h h2
theorem B.mono {n m : Nat} {x : Int} (h : B n x) (k : n ≤ m) : B m x := Nat.lt_of_lt_of_le h (Nat.pow_le_pow_right (by decide) k)
theorem B.add {n : Nat} {x y : Int} (h : B n x) (h2 : B n y) : B (n + 1) (x + y) := by
  unfold B at *
  rw [Nat.pow_succ]
  omega
theorem B.neg {n : Nat} {x : Int} (h : B n x) : B n (-x) := by unfold B at *; omega
theorem B.le {n : Nat} {x y : Int} (h : B n x) (k : y.natAbs ≤ x.natAbs) : B n y := Nat.lt_of_le_of_lt k h
theorem B.cmul {n m : Nat} {x y : Int} (h : B n x) (h2 : B m y) (hn : 0 < n) (hm : 0 < m) (k : n + m ≤ 1000000) : CMulW x y := wide_mul h h2 hn hm k
theorem small_mul {x y : Int} (h : B 64 x) (h2 : B 64 y) : CMulW x y := h.cmul h2 (by decide) (by decide) (by decide)
theorem b64 {x : Int} (h : -(2 ^ 63) ≤ x ∧ x < 2 ^ 63) : B 64 x := by unfold B; omega
theorem cell_ok (ns : List Int) (k : Int) (h0 : 0 ≤ k) (hk : k < 100) {P : D → Prop} {Xp : Xd} (h : ∀ c : Int, P (.int c)) : w__law_cell [.scr (ns.map D.int), .int k] P Xp := by
  unfold w__law_cell t__law_cell
  walk_at "zz"
  split
  · rename_i hlt
    rw [List.length_map] at hlt
    obtain ⟨x, hx, _⟩ := atI_some (l := ns) h0 hlt
    exact ⟨.int x, by rw [atI_map, hx]; rfl, h x⟩
  · refine for_of (ns.map D.int) (fun _ ρ' => ∃ s x, 0 ≤ s ∧ s < 1000003 ∧ ρ' = [Sl.val (D.scr (ns.map D.int)), Sl.val (D.int k), Sl.val (D.int s), x]) (fun P Xp q => by walk_at "zz"; exact q) ⟨17, _, by decide, by decide, rfl⟩ ?_ ?_
    · rintro i x ρ' hx ⟨s, y, h1, h2, rfl⟩
      obtain ⟨n, _, rfl⟩ : ∃ n, ns[i]? = some n ∧ x = D.int n := by
        rw [List.getElem?_map] at hx
        cases e : ns[i]? with
        | none => rw [e] at hx; cases hx
        | some n => rw [e] at hx; exact ⟨n, rfl, (Option.some.inj hx).symm⟩
      walk_at "zz"
      refine ⟨small_mul (b64 (by omega)) (b64 (by omega)), by decide, by decide, _, _, ?_, ?_, rfl⟩
      · rw [Int.fmod_eq_emod_of_nonneg _ (by decide)]; exact Int.emod_nonneg _ (by decide)
      · rw [Int.fmod_eq_emod_of_nonneg _ (by decide)]; exact Int.emod_lt_of_pos _ (by decide)
    · rintro ρ' ⟨s, y, h1, h2, rfl⟩
      walk_at "zz"
      have a1 : 0 ≤ (s + 7) * (k + 3) := Int.mul_nonneg (by omega) (by omega)
      have a2 : (s + 7) * (k + 3) ≤ 1000010 * 103 := Int.mul_le_mul (by omega) (by omega) (by omega) (by decide)
      exact ⟨small_mul (b64 (by omega)) (b64 (by omega)), small_mul (b64 (by omega)) (b64 (by omega)), by decide, h _⟩
theorem map_get {α β : Type} {f : α → β} {l : List α} {i : Nat} {y : β} (h : (l.map f)[i]? = some y) : ∃ x, l[i]? = some x ∧ y = f x := by
  rw [List.getElem?_map] at h
  cases e : l[i]? with
  | none => rw [e] at h; cases h
  | some n => rw [e] at h; exact ⟨n, rfl, (Option.some.inj h).symm⟩
theorem modpos {a b : Int} (h : 0 < b) : 0 ≤ a.fmod b ∧ a.fmod b < b := by
  rw [Int.fmod_eq_emod_of_nonneg _ (by omega)]
  exact ⟨Int.emod_nonneg _ (by omega), Int.emod_lt_of_pos _ h⟩
theorem divX {a b : Int} (h : 0 < b) {n : Nat} (hb : B n b) (h0 : 0 < n) (h9 : n ≤ 9000) : CDivX a b := ⟨by omega, (wide_div (i := a) h hb h0 h9).2⟩
theorem fdiv_nn {a b : Int} (h : 0 < b) (ha : 0 ≤ a) : 0 ≤ a.fdiv b ∧ a.fdiv b ≤ a := by
  rw [Int.fdiv_eq_ediv_of_nonneg _ (by omega)]
  exact ⟨Int.ediv_nonneg ha (by omega), Int.ediv_le_self _ ha⟩
def Dig (l sizes : List Int) : Prop := l.length = sizes.length ∧ ∀ (i : Nat) x s, l[i]? = some x → sizes[i]? = some s → 0 ≤ x ∧ x < s
theorem digits_ok (c : Int) (sizes : List Int) (hs : ∀ s ∈ sizes, 0 < s ∧ s < 2 ^ 60) (hl : sizes.length ≤ 1000) {P : List D → Prop} {Xp : Xd} (h : ∀ l : List Int, Dig l sizes → P (l.map D.int)) :
    w__law_digits [.int c, .lst (sizes.map D.int)] P Xp := by
  unfold w__law_digits t__law_digits
  walk_at "zz"
  have grow : ∀ (l : List Int) (i : Nat) (x s : Int), l.length = i → (∀ (j : Nat) y t, l[j]? = some y → sizes[j]? = some t → 0 ≤ y ∧ y < t) → sizes[i]? = some s → 0 ≤ x → x < s → ∀ (j : Nat) y t, (l ++ [x])[j]? = some y → sizes[j]? = some t → 0 ≤ y ∧ y < t := by
    intro l i x s hi hd hsi h0 h1 j y t hy ht
    by_cases q : j < l.length
    · rw [List.getElem?_append_left q] at hy
      exact hd j y t hy ht
    · have ej : j = l.length := by
        have := (List.getElem?_eq_some_iff.mp hy).1
        simp at this
        omega
      subst ej
      rw [List.getElem?_append_right (Nat.le_refl _)] at hy
      simp at hy
      subst hy
      rw [hi, hsi] at ht
      cases ht
      exact ⟨h0, h1⟩
  have room : ∀ l : List Int, ∀ i : Nat, l.length = i → i < sizes.length → (l.map D.int).length < sizeLine := by
    intro l i e hi
    rw [List.length_map, sizeLine_eq]
    omega
  refine ⟨by decide, ⟨by decide, by decide, by decide⟩, ?_⟩
  split
  · refine ⟨⟨by decide, by decide, by decide⟩, ?_⟩
    refine for_of (sizes.map D.int) (fun i ρ' => ∃ (l : List Int) (r : Int) (y : Sl), l.length = i ∧ (∀ (j : Nat) y t, l[j]? = some y → sizes[j]? = some t → 0 ≤ y ∧ y < t) ∧
      ρ' = [Sl.val (D.int c), Sl.val (D.lst (sizes.map D.int)), Sl.own (Ow.lst (l.map D.int)), Sl.val (D.int r), Sl.em, Sl.em, y, Sl.em]) (fun P Xp q => by walk_at "zz"; exact q) ⟨[], _, _, rfl, fun _ _ _ z => by simp at z, rfl⟩ ?_ ?_
    · rintro i x ρ' hx ⟨l, r, y, e, hd, rfl⟩
      obtain ⟨s, hsi, rfl⟩ := map_get hx
      have hil := (List.getElem?_eq_some_iff.mp hx).1
      rw [List.length_map] at hil
      obtain ⟨p0, p1⟩ := hs s (List.mem_of_getElem? hsi)
      walk_at "zz"
      obtain ⟨m0, m1⟩ := modpos (a := r) p0
      refine ⟨by omega, room l i e hil, divX p0 (b64 (by omega)) (by decide) (by decide), l ++ [r.fmod s], _, _, by simp [e], grow l i _ s e hd hsi m0 m1, by rw [List.map_append]; rfl⟩
    · rintro ρ' ⟨l, r, y, e, hd, rfl⟩
      rw [List.length_map] at e
      walk_at "zz"
      exact h l ⟨e, hd⟩
  · refine ⟨by decide, ?_⟩
    refine for_rng sizes.length (fun i ρ' => ∃ (l : List Int) (s : Int) (y z : Sl), l.length = i ∧ (∀ (j : Nat) y t, l[j]? = some y → sizes[j]? = some t → 0 ≤ y ∧ y < t) ∧ 0 ≤ s ∧ s < 2147483647 ∧
      ρ' = [Sl.val (D.int c), Sl.val (D.lst (sizes.map D.int)), Sl.own (Ow.lst (l.map D.int)), Sl.val (D.int c), Sl.val (D.int s), y, Sl.em, z]) (fun P Xp q => by
        walk_at "zz"
        rw [List.length_map]
        exact ⟨by omega, by omega, q⟩) ⟨[], _, _, _, rfl, fun _ _ _ z => by simp at z, (modpos (by decide)).1, Int.lt_trans (modpos (by decide)).2 (by decide), rfl⟩ ?_ ?_
    · rintro i ρ' hi ⟨l, s, y, z, e, hd, h1, h2, rfl⟩
      obtain ⟨t, ht⟩ : ∃ t, sizes[i]? = some t := ⟨_, List.getElem?_eq_getElem hi⟩
      obtain ⟨p0, p1⟩ := hs t (List.mem_of_getElem? ht)
      walk_at "zz"
      refine ⟨small_mul (b64 (by omega)) (b64 (by omega)), small_mul (b64 (by omega)) (b64 (by omega)), by decide, divX (by decide) (n := 20) (by unfold B; decide) (by decide) (by decide), ?_⟩
      obtain ⟨a0, a1⟩ := modpos (a := s * 48271 + 974711 * (i : Int) + 12345) (b := 2147483647) (by decide)
      obtain ⟨d0, d1⟩ := fdiv_nn (a := (s * 48271 + 974711 * (i : Int) + 12345).fmod 2147483647) (b := 65537) (by decide) a0
      obtain ⟨b0, b1⟩ := modpos (a := (s * 48271 + 974711 * (i : Int) + 12345).fmod 2147483647 * (((s * 48271 + 974711 * (i : Int) + 12345).fmod 2147483647).fdiv 65537 + 3)) (b := 2147483629) (by decide)
      refine ⟨small_mul (b64 (by omega)) (b64 (by omega)), by decide, divX (by decide) (n := 20) (by unfold B; decide) (by decide) (by decide), ?_⟩
      obtain ⟨v, hv, hv2⟩ := atI_some (l := sizes.map D.int) (i := (i : Int)) (by omega) (by rw [List.length_map]; omega)
      refine ⟨.int t, ?_, ?_⟩
      · rw [hv]
        have q : (i : Int).toNat = i := by omega
        rw [q, List.getElem?_map, ht] at hv2
        exact hv2.symm
      walk_at "zz"
      obtain ⟨m0, m1⟩ := modpos (a := (((s * 48271 + 974711 * (i : Int) + 12345).fmod 2147483647 * (((s * 48271 + 974711 * (i : Int) + 12345).fmod 2147483647).fdiv 65537 + 3)).fmod 2147483629).fdiv 19) p0
      refine ⟨by omega, room l i e hi, l ++ [_], _, _, _, by simp [e], grow l i _ t e hd ht m0 m1, a0, a1, by rw [List.map_append]; rfl⟩
    · rintro ρ' ⟨l, s, y, z, e, hd, h1, h2, rfl⟩
      walk_at "zz"
      exact h l ⟨e, hd⟩
theorem number_ok (c m : Int) (h0 : 0 < m) {P : D → Prop} {Xp : Xd} (h : ∀ n : Int, 0 ≤ n → n < m → P (.int n)) : w__law_number [.int c, .int m] P Xp := by
  unfold w__law_number t__law_number
  walk_at "zz"
  refine ⟨⟨by decide, by decide, by decide⟩, ?_⟩
  split
  · exact ⟨⟨by decide, by decide, by decide⟩, by omega, h _ (modpos h0).1 (modpos h0).2⟩
  · obtain ⟨a0, a1⟩ := modpos (a := c) (b := 2147483629) (by decide)
    have e5 : (5 : Int).toNat = 5 := rfl
    have b1 : B 36 (c.fmod 2147483629 + 5) := by unfold B; omega
    have b5 : B 180 ((c.fmod 2147483629 + 5) ^ 5) := by
      have := ((((b1.mul b1).mul b1).mul b1).mul b1)
      have e : (c.fmod 2147483629 + 5) ^ 5 = (c.fmod 2147483629 + 5) * (c.fmod 2147483629 + 5) * (c.fmod 2147483629 + 5) * (c.fmod 2147483629 + 5) * (c.fmod 2147483629 + 5) := by
        simp only [Int.pow_succ, Int.pow_zero, Int.one_mul]
      rw [e]; exact this
    refine ⟨by decide, ⟨by decide, by decide, by omega⟩, b5.cmul (m := 20) (by unfold B; decide) (by decide) (by decide) (by decide), b1.cmul (m := 20) (by unfold B; decide) (by decide) (by decide) (by decide), divX (by decide) (n := 20) (by unfold B; decide) (by decide) (by decide), by omega, h _ (modpos h0).1 (modpos h0).2⟩
end K55

namespace K55
open PySem PySem.Spec PyProof.Rows L2 Z
theorem p40 : ((10 : Int) ^ Int.toNat 40 - 1) = 9999999999999999999999999999999999999999 := by decide
theorem p20 : ((10 : Int) ^ Int.toNat 20) = 100000000000000000000 := by decide
theorem pow_lit (j : Int) (h : 0 ≤ j ∧ j ≤ 1000000) : CPow 10 j := ⟨h.1, h.2, by decide⟩
theorem style3 {s : Int} (h0 : 0 ≤ s) (h1 : s < 3) : s = 0 ∨ s = 1 ∨ s = 2 := by omega
theorem top_ok (c s : Int) (h0 : 0 ≤ s) (h1 : s < 3) {P : D → Prop} {Xp : Xd} (h : ∀ n : Int, B 134 n → P (.int n)) : w__law_top [.int c, .int s] P Xp := by
  unfold w__law_top t__law_top
  walk_at "zz"
  refine ⟨pow_lit 40 (by decide), by decide, ?_⟩
  have key : ∀ sp : Int, 0 ≤ sp → sp < 10 ^ 40 → oMul (D.int 2) (D.int sp) fun x => oAdd x (D.int 1) fun d => w__law_number [D.int c, d] (fun x => oSub x (D.int sp) P) fun C fs => Xp C fs := by
    intro sp q0 q1
    walk_at "zz"
    refine ⟨B.cmul (n := 2) (m := 134) (by unfold B; decide) (by unfold B; omega) (by decide) (by decide) (by decide), number_ok _ _ (by omega) fun n a b => ?_⟩
    walk_at "zz"
    exact h _ (by unfold B; omega)
  rcases style3 h0 h1 with rfl | rfl | rfl
  · exact ⟨_, rfl, key 9 (by decide) (by decide)⟩
  · exact ⟨_, rfl, key 999 (by decide) (by decide)⟩
  · refine ⟨_, rfl, key _ ?_ ?_⟩ <;> rw [p40] <;> decide
theorem bottom_ok (c s : Int) (h0 : 0 ≤ s) (h1 : s < 3) {P : D → Prop} {Xp : Xd} (h : ∀ n : Int, 1 ≤ n → B 134 n → P (.int n)) : w__law_bottom [.int c, .int s] P Xp := by
  unfold w__law_bottom t__law_bottom
  walk_at "zz"
  refine ⟨pow_lit 40 (by decide), by decide, ?_⟩
  have key : ∀ sp : Int, 0 < sp → sp < 10 ^ 40 → w__law_number [D.int c, D.int sp] (fun y => oAdd (D.int 1) y P) Xp := by
    intro sp q0 q1
    refine number_ok _ _ q0 fun n a b => ?_
    walk_at "zz"
    exact h _ (by omega) (by unfold B; omega)
  rcases style3 h0 h1 with rfl | rfl | rfl
  · exact ⟨_, rfl, key 9 (by decide) (by decide)⟩
  · exact ⟨_, rfl, key 999 (by decide) (by decide)⟩
  · refine ⟨_, rfl, key _ ?_ ?_⟩ <;> rw [p40] <;> decide
/-- Euclid's turns -/
theorem step_half {l r : Nat} (h : r ≤ l) (h0 : 0 < r) : r * (l % r) * 2 ≤ l * r := by
  have e := Nat.div_add_mod l r
  have q : 1 ≤ l / r := Nat.div_pos h h0
  have lt := Nat.mod_lt l h0
  have : l % r * 2 ≤ l := by
    have : r * 1 ≤ r * (l / r) := Nat.mul_le_mul_left _ q
    omega
  calc r * (l % r) * 2 = r * (l % r * 2) := by rw [Nat.mul_assoc]
    _ ≤ r * l := Nat.mul_le_mul_left _ this
    _ = l * r := Nat.mul_comm _ _
theorem shared_ok (a b : Int) {n m : Nat} (ha : B n a) (hb : B m b) (hnm : n + m ≤ 3999) {P : D → Prop} {Xp : Xd} (h : P (.int (Nat.gcd a.natAbs b.natAbs : Nat))) : w__law_shared [.int a, .int b] P Xp := by
  unfold w__law_shared t__law_shared
  walk_at "zz"
  have ea : (if a < 0 then -a else a) = ((a.natAbs : Nat) : Int) := by split <;> omega
  have eb : (if b < 0 then -b else b) = ((b.natAbs : Nat) : Int) := by split <;> omega
  rw [ea, eb]
  have tot : a.natAbs * b.natAbs < 2 ^ 3999 := Nat.lt_of_lt_of_le (Nat.mul_lt_mul'' ha hb) (by rw [← Nat.pow_add]; exact Nat.pow_le_pow_right (by decide) hnm)
  refine for_rng 4000 (fun i ρ' => ∃ (l r : Nat) (y z : Sl), Nat.gcd l r = Nat.gcd a.natAbs b.natAbs ∧ (i = 0 → l * r = a.natAbs * b.natAbs) ∧ (∀ j, i = j + 1 → r ≤ l ∧ l * r * 2 ^ j ≤ a.natAbs * b.natAbs ∨ r = 0) ∧
    ρ' = [Sl.val (D.int a), Sl.val (D.int b), Sl.val (D.int l), Sl.val (D.int r), y, z]) (fun P Xp q => by walk_at "zz"; exact ⟨by decide, by decide, q⟩) ⟨_, _, _, _, rfl, fun _ => rfl, (fun j e => by omega), rfl⟩ ?_ ?_
  · rintro i ρ' hi ⟨l, r, y, z, hg, h0, h1, rfl⟩
    walk_at "zz"
    split
    · rename_i hr
      have hr0 : r = 0 := by omega
      subst hr0
      rw [Nat.gcd_zero_right] at hg
      rw [hg]
      exact h
    · rename_i hr
      have r0 : 0 < r := by omega
      have em : ((l : Nat) : Int).fmod r = ((l % r : Nat) : Int) := by
        rw [Int.fmod_eq_emod_of_nonneg _ (by omega)]; omega
      rw [em]
      refine ⟨by omega, r, l % r, _, _, ?_, (fun e => by omega), (fun j ej => ?_), rfl⟩
      · rw [← hg, Nat.gcd_comm l r, Nat.gcd_rec r l, Nat.gcd_comm]
      · have ej : j = i := by omega
        subst ej
        refine .inl ⟨Nat.le_of_lt (Nat.mod_lt _ r0), ?_⟩
        cases j with
        | zero =>
          have := h0 rfl
          rw [← this]
          have : l % r ≤ l := Nat.mod_le _ _
          calc r * (l % r) * 2 ^ 0 = r * (l % r) := by simp
            _ ≤ r * l := Nat.mul_le_mul_left _ this
            _ = l * r := Nat.mul_comm _ _
        | succ j =>
          rcases h1 j rfl with ⟨hle, hp⟩ | hz
          · calc r * (l % r) * 2 ^ (j + 1) = (r * (l % r) * 2) * 2 ^ j := by rw [Nat.pow_succ, Nat.mul_comm (2 ^ j) 2, ← Nat.mul_assoc]
              _ ≤ l * r * 2 ^ j := Nat.mul_le_mul_right _ (step_half hle r0)
              _ ≤ _ := hp
          · omega
  · rintro ρ' ⟨l, r, y, z, hg, h0, h1, rfl⟩
    walk_at "zz"
    have hr0 : r = 0 := by
      rcases h1 3999 rfl with ⟨hle, hp⟩ | hz
      · cases r with
        | zero => rfl
        | succ r =>
          exfalso
          have : 1 ≤ l * (r + 1) := Nat.mul_pos (by omega) (by omega)
          have q : 1 * 2 ^ 3999 ≤ l * (r + 1) * 2 ^ 3999 := Nat.mul_le_mul_right _ this
          rw [Nat.one_mul] at q
          exact absurd (Nat.lt_of_lt_of_le tot q) (Nat.not_lt.mpr hp)
      · exact hz
    subst hr0
    rw [Nat.gcd_zero_right] at hg
    rw [hg]
    exact h
theorem whole_ok (x : Int) {P : D → Prop} {Xp : Xd} (h : P (.bl true)) : w__law_whole [.int x] P Xp := by
  unfold w__law_whole t__law_whole
  walk_at "zz"
  exact h
theorem at0 {α : Type} {x y : α} : atI [x, y] 0 = some x := rfl
theorem at1 {α : Type} {x y : α} : atI [x, y] 1 = some y := rfl
theorem stands_ok (x y t b : Int) {n m : Nat} (hx : B n x) (hy : B n y) (ht : B m t) (hb : B m b) (hn0 : 0 < n) (hm0 : 0 < m) (hn : n + n ≤ 3999) (hm : m ≤ 9000) (hy1 : 1 ≤ y) (he : x * b = t * y) (hg : Nat.gcd x.natAbs y.natAbs = 1) {P : D → Prop} {Xp : Xd} (h : P (.bl true)) :
    w__law_stands [.tup [.int x, .int y], .int t, .int b] P Xp := by
  unfold w__law_stands t__law_stands
  walk_at "zz"
  simp only [at0, at1, Option.some.injEq, exists_eq_left']
  walk_at "zz"
  rw [if_neg (by decide), if_neg (by decide)]
  refine whole_ok _ ?_
  walk_at "zz"
  rw [if_neg (by decide)]
  refine whole_ok _ ?_
  walk_at "zz"
  rw [if_neg (by decide), if_neg (by omega)]
  refine ⟨hx.cmul hb hn0 hm0 (by omega), ht.cmul hy hm0 hn0 (by omega), ?_⟩
  rw [decide_eq_true he]
  walk_at "zz"
  refine shared_ok _ _ hx hy hn ?_
  walk_at "zz"
  rw [hg]
  exact h
/-! ### ratios -/
def gI (a b : Int) : Int := ((Nat.gcd a.natAbs b.natAbs : Nat) : Int)
def sg (a b : Int) : Int := if b < 0 then -gI a b else gI a b
def rn (a b : Int) : Int := a / sg a b
def rd (a b : Int) : Int := b / sg a b
theorem gI_pos {a b : Int} (h : b ≠ 0) : 0 < gI a b := by
  have : 0 < Nat.gcd a.natAbs b.natAbs := Nat.gcd_pos_of_pos_right _ (by omega)
  unfold gI; omega
theorem gI_le {a b : Int} (h : b ≠ 0) : (gI a b).natAbs ≤ b.natAbs := by
  have : Nat.gcd a.natAbs b.natAbs ≤ b.natAbs := Nat.gcd_le_right _ (by omega)
  unfold gI; omega
theorem gI_dvd1 (a b : Int) : gI a b ∣ a := by
  unfold gI
  exact Int.ofNat_dvd_left.mpr (Nat.gcd_dvd_left _ _)
theorem gI_dvd2 (a b : Int) : gI a b ∣ b := by
  unfold gI
  exact Int.ofNat_dvd_left.mpr (Nat.gcd_dvd_right _ _)
theorem sg_dvd1 (a b : Int) : sg a b ∣ a := by
  unfold sg; split
  · exact Int.neg_dvd.mpr (gI_dvd1 a b)
  · exact gI_dvd1 a b
theorem sg_dvd2 (a b : Int) : sg a b ∣ b := by
  unfold sg; split
  · exact Int.neg_dvd.mpr (gI_dvd2 a b)
  · exact gI_dvd2 a b
theorem sg_ne {a b : Int} (h : b ≠ 0) : sg a b ≠ 0 := by
  have := gI_pos (a := a) h
  unfold sg; split <;> omega
theorem sg_abs (a b : Int) : (sg a b).natAbs = Nat.gcd a.natAbs b.natAbs := by
  unfold sg gI; split <;> omega
theorem rn_mul (a b : Int) : rn a b * sg a b = a := Int.ediv_mul_cancel (sg_dvd1 a b)
theorem rd_mul (a b : Int) : rd a b * sg a b = b := Int.ediv_mul_cancel (sg_dvd2 a b)
theorem r_cross {a b : Int} : rn a b * b = a * rd a b := by
  have h1 := rn_mul a b
  have h2 := rd_mul a b
  calc rn a b * b = rn a b * (rd a b * sg a b) := by rw [h2]
    _ = (rn a b * sg a b) * rd a b := by rw [Int.mul_comm (rd a b), Int.mul_assoc]
    _ = a * rd a b := by rw [h1]
theorem rd_pos {a b : Int} (h : b ≠ 0) : 1 ≤ rd a b := by
  have h2 := rd_mul a b
  have hp := gI_pos (a := a) h
  have : 0 < rd a b := by
    by_cases hb : b < 0
    · have e : sg a b = -gI a b := by unfold sg; rw [if_pos hb]
      rw [e] at h2
      have h3 : rd a b * gI a b = -b := by rw [Int.mul_neg] at h2; omega
      exact Int.pos_of_mul_pos_left (by omega) hp |> fun z => z
    · have e : sg a b = gI a b := by unfold sg; rw [if_neg hb]
      rw [e] at h2
      exact Int.pos_of_mul_pos_left (by omega) hp |> fun z => z
  omega
theorem r_gcd {a b : Int} (h : b ≠ 0) : Nat.gcd (rn a b).natAbs (rd a b).natAbs = 1 := by
  have h1 : (rn a b).natAbs * (sg a b).natAbs = a.natAbs := by rw [← Int.natAbs_mul, rn_mul]
  have h2 : (rd a b).natAbs * (sg a b).natAbs = b.natAbs := by rw [← Int.natAbs_mul, rd_mul]
  have h3 := Nat.gcd_mul_right (rn a b).natAbs (sg a b).natAbs (rd a b).natAbs
  rw [h1, h2, ← sg_abs a b] at h3
  have hp : 0 < (sg a b).natAbs := by have := sg_ne (a := a) h; omega
  have h4 : 1 * (sg a b).natAbs = Nat.gcd (rn a b).natAbs (rd a b).natAbs * (sg a b).natAbs := by rw [Nat.one_mul]; exact h3
  exact (Nat.eq_of_mul_eq_mul_right hp h4).symm
theorem rn_le (a b : Int) (h : b ≠ 0) : (rn a b).natAbs ≤ a.natAbs := by
  have h1 : (rn a b).natAbs * (sg a b).natAbs = a.natAbs := by rw [← Int.natAbs_mul, rn_mul]
  have hp : 0 < (sg a b).natAbs := by have := sg_ne (a := a) h; omega
  rw [← h1]; exact Nat.le_mul_of_pos_right _ hp
theorem rd_le (a b : Int) (h : b ≠ 0) : (rd a b).natAbs ≤ b.natAbs := by
  have h1 : (rd a b).natAbs * (sg a b).natAbs = b.natAbs := by rw [← Int.natAbs_mul, rd_mul]
  have hp : 0 < (sg a b).natAbs := by have := sg_ne (a := a) h; omega
  rw [← h1]; exact Nat.le_mul_of_pos_right _ hp
theorem ratio_ok (a b : Int) (h : b ≠ 0) {n : Nat} (hb : B n b) (hn : 0 < n) (h9 : n ≤ 9000) {P : D → Prop} {Xp : Xd} (q : P (.tup [.int (rn a b), .int (rd a b)])) : w_ratio [.int a, .int b] P Xp := by
  unfold w_ratio t_ratio
  walk_at "zz"
  have hp := gI_pos (a := a) h
  have hl : (gI a b).natAbs.log2 < 9000 := Nat.lt_of_lt_of_le (log2_lt hn (Nat.lt_of_le_of_lt (gI_le h) hb)) h9
  show if b < 0 then CDivX a (-gI a b) ∧ CDivX b (-gI a b) ∧ 0 + 1 + 1 ≤ sizeLine ∧ P (D.tup [D.int (a.fdiv (-gI a b)), D.int (b.fdiv (-gI a b))])
    else CDivX a (gI a b) ∧ CDivX b (gI a b) ∧ 0 + 1 + 1 ≤ sizeLine ∧ P (D.tup [D.int (a.fdiv (gI a b)), D.int (b.fdiv (gI a b))])
  unfold rn rd sg at q
  split
  · rename_i hb0
    rw [if_pos hb0] at q
    have hl' : (-gI a b).natAbs.log2 < 9000 := by rw [Int.natAbs_neg]; exact hl
    refine ⟨⟨by omega, hl'⟩, ⟨by omega, hl'⟩, by decide, ?_⟩
    rw [Int.fdiv_eq_ediv_of_dvd (Int.neg_dvd.mpr (gI_dvd1 a b)), Int.fdiv_eq_ediv_of_dvd (Int.neg_dvd.mpr (gI_dvd2 a b))]
    exact q
  · rename_i hb0
    rw [if_neg hb0] at q
    refine ⟨⟨by omega, hl⟩, ⟨by omega, hl⟩, by decide, ?_⟩
    rw [Int.fdiv_eq_ediv_of_dvd (gI_dvd1 a b), Int.fdiv_eq_ediv_of_dvd (gI_dvd2 a b)]
    exact q
/-- a pair, as a tuple or a list -/
def Pr (d : D) (a b : Int) : Prop := d = .tup [.int a, .int b] ∨ d = .lst [.int a, .int b]
section
variable {d e : D} {a b a' b' : Int} {n m : Nat} {P : D → Prop} {Xp : Xd}
theorem added_ok (p : Pr d a b) (p' : Pr e a' b') (ha : B n a) (hb : B n b) (ha' : B m a') (hb' : B m b') (hn : 0 < n) (hm : 0 < m) (hnm : n + m ≤ 8000) (h0 : b ≠ 0) (h0' : b' ≠ 0) (q : P (.tup [.int (rn (a * b' + a' * b) (b * b')), .int (rd (a * b' + a' * b) (b * b'))])) : w_added [d, e] P Xp := by
  have hz : b * b' ≠ 0 := Int.mul_ne_zero h0 h0'
  have k : oMul (.int a) (.int b') fun x => oMul (.int a') (.int b) fun y => oAdd x y fun u => oMul (.int b) (.int b') fun v => w_ratio [u, v] P Xp := by
    walk_at "zz"
    exact ⟨ha.cmul hb' hn hm (by omega), ha'.cmul hb hm hn (by omega), hb.cmul hb' hn hm (by omega), ratio_ok _ _ hz (hb.mul hb') (by omega) (by omega) q⟩
  unfold w_added t_added
  rcases p with rfl | rfl <;> rcases p' with rfl | rfl <;> walk_at "zz" <;> simp only [at0, at1, Option.some.injEq, exists_eq_left'] <;> exact k
theorem multiplied_ok (p : Pr d a b) (p' : Pr e a' b') (ha : B n a) (hb : B n b) (ha' : B m a') (hb' : B m b') (hn : 0 < n) (hm : 0 < m) (hnm : n + m ≤ 8000) (h0 : b ≠ 0) (h0' : b' ≠ 0) (q : P (.tup [.int (rn (a * a') (b * b')), .int (rd (a * a') (b * b'))])) : w_multiplied [d, e] P Xp := by
  have hz : b * b' ≠ 0 := Int.mul_ne_zero h0 h0'
  have k : oMul (.int a) (.int a') fun u => oMul (.int b) (.int b') fun v => w_ratio [u, v] P Xp := by
    walk_at "zz"
    exact ⟨ha.cmul ha' hn hm (by omega), hb.cmul hb' hn hm (by omega), ratio_ok _ _ hz (hb.mul hb') (by omega) (by omega) q⟩
  unfold w_multiplied t_multiplied
  rcases p with rfl | rfl <;> rcases p' with rfl | rfl <;> walk_at "zz" <;> simp only [at0, at1, Option.some.injEq, exists_eq_left'] <;> exact k
theorem divided_ok (p : Pr d a b) (p' : Pr e a' b') (ha : B n a) (hb : B n b) (ha' : B m a') (hb' : B m b') (hn : 0 < n) (hm : 0 < m) (hnm : n + m ≤ 8000) (h0 : b ≠ 0) (h0' : a' ≠ 0) (q : P (.tup [.int (rn (a * b') (b * a')), .int (rd (a * b') (b * a'))])) : w_divided [d, e] P Xp := by
  have hz : b * a' ≠ 0 := Int.mul_ne_zero h0 h0'
  have k : oMul (.int a) (.int b') fun u => oMul (.int b) (.int a') fun v => w_ratio [u, v] P Xp := by
    walk_at "zz"
    exact ⟨ha.cmul hb' hn hm (by omega), hb.cmul ha' hn hm (by omega), ratio_ok _ _ hz (hb.mul ha') (by omega) (by omega) q⟩
  unfold w_divided t_divided
  rcases p with rfl | rfl <;> rcases p' with rfl | rfl <;> walk_at "zz" <;> simp only [at0, at1, Option.some.injEq, exists_eq_left'] <;> exact k
def cmpI (x y : Int) : Int := if x < y then -1 else if x > y then 1 else 0
theorem compared_ok (p : Pr d a b) (p' : Pr e a' b') (ha : B n a) (hb : B n b) (ha' : B m a') (hb' : B m b') (hn : 0 < n) (hm : 0 < m) (hnm : n + m ≤ 8000) (q : P (.int (cmpI (a * b') (a' * b)))) : w_compared [d, e] P Xp := by
  have k : CMulW a b' ∧ CMulW a' b ∧ if a * b' < a' * b then P (D.int (-1)) else if a' * b < a * b' then P (D.int 1) else P (D.int 0) := by
    refine ⟨ha.cmul hb' hn hm (by omega), ha'.cmul hb hm hn (by omega), ?_⟩
    unfold cmpI at q
    split <;> rename_i h1
    · rw [if_pos h1] at q; exact q
    · rw [if_neg h1] at q
      split <;> rename_i h2
      · rw [if_pos h2] at q; exact q
      · rw [if_neg h2] at q; exact q
  unfold w_compared t_compared
  rcases p with rfl | rfl <;> rcases p' with rfl | rfl <;> walk_at "zz" <;> simp only [at0, at1, Option.some.injEq, exists_eq_left'] <;> walk_at "zz" <;> exact k
end
end K55

namespace K55
open PySem PySem.Spec PyProof.Rows L2 Z
theorem seq_of {s rest : TSd} {Φ : Ed} {ρ : En} (M : En → Prop) (hM : ∀ ρ', M ρ' → rest Φ ρ') (h : ∀ N : En → Prop, (∀ ρ', M ρ' → N ρ') → s { Φ with nx := N } ρ) : sSeq s rest Φ ρ := h _ hM
theorem dig_cons {l ss : List Int} {s : Int} (h : Dig l (s :: ss)) : ∃ x r, l = x :: r ∧ 0 ≤ x ∧ x < s ∧ Dig r ss := by
  obtain ⟨h1, h2⟩ := h
  cases l with
  | nil => simp at h1
  | cons x r =>
    have := h2 0 x s rfl rfl
    exact ⟨x, r, rfl, this.1, this.2, by simpa using h1, fun i y t a b => h2 (i + 1) y t a b⟩
theorem dig_nil {l : List Int} (h : Dig l []) : l = [] := by
  have := h.1
  cases l with
  | nil => rfl
  | cons x r => simp at this
theorem draw_ok (ns : List Int) {P : List D → Prop} {Xp : Xd} (h : ∀ a b c d : Int, B 210 a → B 210 b → 1 ≤ b → B 210 c → B 210 d → 1 ≤ d → P [.lst [.int a, .int b], .lst [.int c, .int d]]) : w__law_draw_pairs [.scr (ns.map D.int)] P Xp := by
  unfold w__law_draw_pairs t__law_draw_pairs
  refine seq_of (fun ρ' => ∃ s0 s1 s2 s3 s4 s5 s6 : Int, (0 ≤ s0 ∧ s0 < 3) ∧ (0 ≤ s1 ∧ s1 < 3) ∧ (0 ≤ s4 ∧ s4 < 6) ∧ (0 ≤ s5 ∧ s5 < 2) ∧ (0 ≤ s6 ∧ s6 < 2) ∧
    ρ' = [.val (.scr (ns.map D.int)), .val (.lst [.int s0, .int s1, .int s2, .int s3, .int s4, .int s5, .int s6]), .em, .em, .em, .em]) ?_ (fun N hN => ?_)
  · rintro ρ' ⟨s0, s1, s2, s3, s4, s5, s6, h0, h1, h4, h5, h6, rfl⟩
    refine seq_of (fun ρ' => ∃ a b : Int, B 134 a ∧ B 134 b ∧ 1 ≤ b ∧
      ρ' = [.val (.scr (ns.map D.int)), .val (.lst [.int s0, .int s1, .int s2, .int s3, .int s4, .int s5, .int s6]), .val (.lst [.int a, .int b]), .em, .em, .em]) ?_ (fun N hN => ?_)
    · rintro ρ' ⟨a, b, ha, hb, b1, rfl⟩
      have cut : ∀ (s : TSd) (rest : TSd) (Φ : Ed) (ρ : En), (∀ c d : Int, B 135 c → B 134 d → 1 ≤ d → rest Φ [.val (.scr (ns.map D.int)), .val (.lst [.int s0, .int s1, .int s2, .int s3, .int s4, .int s5, .int s6]), .val (.lst [.int a, .int b]), .val (.lst [.int c, .int d]), .em, .em]) →
          (∀ N : En → Prop, (∀ c d : Int, B 135 c → B 134 d → 1 ≤ d → N [.val (.scr (ns.map D.int)), .val (.lst [.int s0, .int s1, .int s2, .int s3, .int s4, .int s5, .int s6]), .val (.lst [.int a, .int b]), .val (.lst [.int c, .int d]), .em, .em]) → s { Φ with nx := N } ρ) → sSeq s rest Φ ρ := by
        intro s rest Φ ρ g1 g2
        exact g2 _ g1
      refine cut _ _ _ _ (fun c d hc hd d1 => ?_) (fun N hN => ?_)
      · refine cut _ _ _ _ (fun c d hc hd d1 => ?_) (fun N hN => ?_)
        · refine cut _ _ _ _ (fun c d hc hd d1 => ?_) (fun N hN => ?_)
          · refine cut _ _ _ _ (fun c d hc hd d1 => ?_) (fun N hN => ?_)
            · refine cut _ _ _ _ (fun c d hc hd d1 => ?_) (fun N hN => ?_)
              · refine cut _ _ _ _ (fun c d hc hd d1 => ?_) (fun N hN => ?_)
                · refine seq_of (fun ρ' => ∃ f : Int, 1 ≤ f ∧ B 69 f ∧ ρ' = [.val (.scr (ns.map D.int)), .val (.lst [.int s0, .int s1, .int s2, .int s3, .int s4, .int s5, .int s6]), .val (.lst [.int a, .int b]), .val (.lst [.int c, .int d]), .val (.int f), .em]) ?_ (fun N hN => ?_)
                  · rintro ρ' ⟨f, f1, hf, rfl⟩
                    refine seq_of (fun ρ' => ∃ a b : Int, B 210 a ∧ B 210 b ∧ 1 ≤ b ∧ ρ' = [.val (.scr (ns.map D.int)), .val (.lst [.int s0, .int s1, .int s2, .int s3, .int s4, .int s5, .int s6]), .val (.lst [.int a, .int b]), .val (.lst [.int c, .int d]), .val (.int f), .em]) ?_ (fun N hN => ?_)
                    · rintro ρ' ⟨a', b', ha', hb', b1', rfl⟩
                      refine seq_of (fun ρ' => ∃ (c d : Int) (z : Sl), B 210 c ∧ B 210 d ∧ 1 ≤ d ∧ ρ' = [.val (.scr (ns.map D.int)), .val (.lst [.int s0, .int s1, .int s2, .int s3, .int s4, .int s5, .int s6]), .val (.lst [.int a', .int b']), .val (.lst [.int c, .int d]), .val (.int f), z]) ?_ (fun N hN => ?_)
                      · rintro ρ' ⟨c', d', z, hc', hd', d1', rfl⟩
                        walk_at "zz"
                        exact ⟨by decide, h _ _ _ _ ha' hb' b1' hc' hd' d1'⟩
                      · walk_at "zz"
                        refine ⟨_, rfl, by decide, rfl, rfl, ?_⟩
                        split
                        · have key : ∀ g : Int, 1 ≤ g → B 70 g → CMulW c g ∧ CMulW d g ∧ 0 + 1 + 1 ≤ sizeLine ∧ N [.val (.scr (ns.map D.int)), .val (.lst [.int s0, .int s1, .int s2, .int s3, .int s4, .int s5, .int s6]), .val (.lst [.int a', .int b']), .val (.lst [.int (c * g), .int (d * g)]), .val (.int f), .val (.int g)] := fun g g1 hg =>
                            ⟨hc.cmul hg (by decide) (by decide) (by decide), hd.cmul hg (by decide) (by decide) (by decide), by decide, hN _ ⟨_, _, _, (hc.mul hg).mono (by decide), (hd.mul hg).mono (by decide), by have := Int.mul_le_mul d1 g1 (by decide) (by omega); omega, rfl⟩⟩
                          refine ⟨divX (by decide) (n := 20) (by unfold B; decide) (by decide) (by decide), by decide, _, rfl, ?_⟩
                          have hv : s6 = 0 ∨ s6 = 1 := by omega
                          have fd := fdiv_nn (a := f) (b := 2) (by decide) (by omega)
                          rcases hv with rfl | rfl
                          · refine ⟨_, rfl, _, rfl, ?_⟩
                            walk_at "zz"
                            obtain ⟨k1, k2, k3, k4⟩ := key f f1 (hf.mono (by decide))
                            exact ⟨k1, _, rfl, by walk_at "zz"; exact ⟨k2, k3, k4⟩⟩
                          · refine ⟨_, rfl, _, rfl, ?_⟩
                            walk_at "zz"
                            obtain ⟨k1, k2, k3, k4⟩ := key (1 + f.fdiv 2) (by omega) (by unfold B at *; omega)
                            exact ⟨k1, _, rfl, by walk_at "zz"; exact ⟨k2, k3, k4⟩⟩
                        · exact hN _ ⟨_, _, _, hc.mono (by decide), hd.mono (by decide), d1, rfl⟩
                    · walk_at "zz"
                      refine ⟨_, rfl, by decide, rfl, rfl, ?_⟩
                      split
                      · refine ⟨_, rfl, ?_⟩
                        walk_at "zz"
                        refine ⟨ha.cmul hf (by decide) (by decide) (by decide), _, rfl, ?_⟩
                        walk_at "zz"
                        exact ⟨hb.cmul hf (by decide) (by decide) (by decide), by decide, hN _ ⟨_, _, (ha.mul hf).mono (by decide), (hb.mul hf).mono (by decide), by have := Int.mul_le_mul b1 f1 (by decide) (by omega); omega, rfl⟩⟩
                      · exact hN _ ⟨_, _, ha.mono (by decide), hb.mono (by decide), b1, rfl⟩
                  · walk_at "zz"
                    refine cell_ok ns 5 (by decide) (by decide) fun z => ?_
                    walk_at "zz"
                    refine ⟨pow_lit 20 (by decide), by decide, _, rfl, ?_⟩
                    have key : ∀ m : Int, 0 < m → m ≤ 100000000000000000000 → w__law_number [.int z, .int m] (fun y => oAdd (.int 1) y fun d_1 => N [.val (.scr (ns.map D.int)), .val (.lst [.int s0, .int s1, .int s2, .int s3, .int s4, .int s5, .int s6]), .val (.lst [.int a, .int b]), .val (.lst [.int c, .int d]), .val d_1, .em]) Xp := fun m m0 m1 => number_ok _ _ m0 fun n n0 n1 => by
                      walk_at "zz"
                      exact hN _ ⟨_, by omega, by unfold B; omega, rfl⟩
                    have hv : s4 = 0 ∨ s4 = 1 ∨ s4 = 2 ∨ s4 = 3 ∨ s4 = 4 ∨ s4 = 5 := by omega
                    rcases hv with rfl | rfl | rfl | rfl | rfl | rfl
                    · exact ⟨_, rfl, key 6 (by decide) (by decide)⟩
                    · exact ⟨_, rfl, key 999 (by decide) (by decide)⟩
                    · refine ⟨_, rfl, key _ ?_ ?_⟩ <;> rw [p20] <;> decide
                    · exact ⟨_, rfl, key 12 (by decide) (by decide)⟩
                    · exact ⟨_, rfl, key 2 (by decide) (by decide)⟩
                    · exact ⟨_, rfl, key 30 (by decide) (by decide)⟩
                · walk_at "zz"
                  refine ⟨_, rfl, ?_⟩
                  walk_at "zz"
                  split
                  · refine ⟨_, rfl, ?_⟩
                    walk_at "zz"
                    split
                    · rename_i ha0
                      have hq : (if a < 0 then -a else a) = ((a.natAbs : Nat) : Int) := by split <;> omega
                      refine ⟨_, rfl, _, rfl, ?_⟩
                      walk_at "zz"
                      refine ⟨by decide, _, rfl, ?_⟩
                      have hv : s5 = 0 ∨ s5 = 1 := by omega
                      have a0 : a ≠ 0 := by simpa using ha0
                      rcases hv with rfl | rfl
                      · refine ⟨_, rfl, _, rfl, ?_⟩
                        walk_at "zz"
                        refine ⟨by decide, hN _ _ (hb.mono (by decide)) ?_ ?_⟩
                        · rw [hq]; unfold B at *; omega
                        · rw [hq]; omega
                      · refine ⟨_, rfl, _, rfl, ?_⟩
                        walk_at "zz"
                        refine ⟨by decide, hN _ _ ?_ ?_ ?_⟩
                        · unfold B at *; omega
                        · rw [hq]; unfold B at *; omega
                        · rw [hq]; omega
                    · exact hN _ _ hc hd d1
                  · exact hN _ _ hc hd d1
              · walk_at "zz"
                refine ⟨_, rfl, ?_⟩
                walk_at "zz"
                split
                · refine ⟨_, rfl, ?_⟩
                  walk_at "zz"
                  refine ⟨_, rfl, by decide, hN _ _ ?_ hb b1⟩
                  exact ha.add (y := 1) (by unfold B; decide)
                · exact hN _ _ hc hd d1
            · walk_at "zz"
              refine ⟨_, rfl, ?_⟩
              walk_at "zz"
              split
              · refine ⟨_, rfl, by decide, hN _ _ (by unfold B; decide) hd d1⟩
              · exact hN _ _ hc hd d1
          · walk_at "zz"
            refine ⟨_, rfl, ?_⟩
            walk_at "zz"
            split
            · refine ⟨_, rfl, ?_⟩
              walk_at "zz"
              refine ⟨_, rfl, by decide, hN _ _ ?_ hb b1⟩
              unfold B at *; omega
            · exact hN _ _ hc hd d1
        · walk_at "zz"
          refine ⟨_, rfl, ?_⟩
          walk_at "zz"
          split
          · exact ⟨_, rfl, _, rfl, by decide, hN _ _ (ha.mono (by decide)) hb b1⟩
          · exact hN _ _ hc hd d1
      · walk_at "zz"
        refine cell_ok ns 3 (by decide) (by decide) fun z => ?_
        walk_at "zz"
        refine ⟨_, rfl, top_ok z s1 h1.1 h1.2 fun n hn => ?_⟩
        walk_at "zz"
        refine cell_ok ns 4 (by decide) (by decide) fun z => ?_
        walk_at "zz"
        refine ⟨_, rfl, bottom_ok z s1 h1.1 h1.2 fun m m1 hm => ?_⟩
        walk_at "zz"
        exact ⟨by decide, hN _ _ (hn.mono (by decide)) hm m1⟩
    · walk_at "zz"
      refine cell_ok ns 1 (by decide) (by decide) fun z => ?_
      walk_at "zz"
      refine ⟨_, rfl, top_ok z s0 h0.1 h0.2 fun n hn => ?_⟩
      walk_at "zz"
      refine cell_ok ns 2 (by decide) (by decide) fun z => ?_
      walk_at "zz"
      refine ⟨_, rfl, bottom_ok z s0 h0.1 h0.2 fun m m1 hm => ?_⟩
      walk_at "zz"
      exact ⟨by decide, hN _ ⟨_, _, hn, hm, m1, rfl⟩⟩
  · walk_at "zz"
    refine cell_ok ns 0 (by decide) (by decide) fun z => ?_
    walk_at "zz"
    refine ⟨by decide, digits_ok z [3, 3, 9, 4, 6, 2, 2] (by decide) (by decide) fun l hl => ?_⟩
    obtain ⟨s0, r, rfl, a0, b0, hl⟩ := dig_cons hl
    obtain ⟨s1, r, rfl, a1, b1, hl⟩ := dig_cons hl
    obtain ⟨s2, r, rfl, a2, b2, hl⟩ := dig_cons hl
    obtain ⟨s3, r, rfl, a3, b3, hl⟩ := dig_cons hl
    obtain ⟨s4, r, rfl, a4, b4, hl⟩ := dig_cons hl
    obtain ⟨s5, r, rfl, a5, b5, hl⟩ := dig_cons hl
    obtain ⟨s6, r, rfl, a6, b6, hl⟩ := dig_cons hl
    have e := dig_nil hl
    subst e
    exact hN _ ⟨s0, s1, s2, s3, s4, s5, s6, ⟨a0, b0⟩, ⟨a1, b1⟩, ⟨a4, b4⟩, ⟨a5, b5⟩, ⟨a6, b6⟩, rfl⟩
end K55

namespace K55
open PySem PySem.Spec PyProof.Rows L2 Z
/-- stands, of a ratio -/
theorem stands_r (a b t c : Int) {n m : Nat} (ha : B n a) (hb : B n b) (hn0 : 0 < n) (hn : n + n ≤ 3999) (h0 : b ≠ 0) (ht : B m t) (hc : B m c) (hm0 : 0 < m) (hm : m ≤ 9000) (he : rn a b * c = t * rd a b) {P : D → Prop} {Xp : Xd} (h : P (.bl true)) :
    w__law_stands [.tup [.int (rn a b), .int (rd a b)], .int t, .int c] P Xp :=
  stands_ok _ _ _ _ (ha.le (rn_le a b h0)) (hb.le (rd_le a b h0)) ht hc hn0 hm0 hn hm (rd_pos h0) he (r_gcd h0) h
theorem pr_at {d : D} {a b : Int} (p : Pr d a b) : (∀ Q : D → Prop, Q (.int a) → oIx d (.int 0) Q) ∧ ∀ Q : D → Prop, Q (.int b) → oIx d (.int 1) Q := by
  rcases p with rfl | rfl <;> exact ⟨fun Q h => ⟨_, rfl, h⟩, fun Q h => ⟨_, rfl, h⟩⟩
theorem tup_lit {a b : Int} : Pr (.tup [.int a, .int b]) a b := .inl rfl
theorem right_ok {d e : D} {a b a' b' : Int} (p : Pr d a b) (p' : Pr e a' b') (ha : B 210 a) (hb : B 210 b) (b1 : 1 ≤ b) (ha' : B 210 a') (hb' : B 210 b') (b1' : 1 ≤ b') {P : D → Prop} {Xp : Xd} (h : P (.bl true)) : w__law_right [d, e] P Xp := by
  obtain ⟨p0, p1⟩ := pr_at p
  obtain ⟨q0, q1⟩ := pr_at p'
  have b0 : b ≠ 0 := by omega
  have b0' : b' ≠ 0 := by omega
  have bb : b * b' ≠ 0 := Int.mul_ne_zero b0 b0'
  unfold w__law_right t__law_right
  refine seq_of (fun ρ' => ρ' = [.val d, .val e, .val (.int (a * b')), .em, .em, .em, .em, .em]) ?_ (fun N hN => ?_)
  · rintro ρ' rfl
    refine seq_of (fun ρ' => ρ' = [.val d, .val e, .val (.int (a * b')), .val (.int (a' * b)), .em, .em, .em, .em]) ?_ (fun N hN => ?_)
    · rintro ρ' rfl
      refine seq_of (fun ρ' => ρ' = [.val d, .val e, .val (.int (a * b')), .val (.int (a' * b)), .em, .em, .em, .em]) ?_ (fun N hN => ?_)
      · rintro ρ' rfl
        refine seq_of (fun ρ' => ρ' = [.val d, .val e, .val (.int (a * b')), .val (.int (a' * b)), .em, .em, .em, .em]) ?_ (fun N hN => ?_)
        · rintro ρ' rfl
          refine seq_of (fun ρ' => ρ' = [.val d, .val e, .val (.int (a * b')), .val (.int (a' * b)), .em, .em, .em, .em]) ?_ (fun N hN => ?_)
          · rintro ρ' rfl
            refine seq_of (fun ρ' => ρ' = [.val d, .val e, .val (.int (a * b')), .val (.int (a' * b)), .val (.int (cmpI (a * b') (a' * b))), .em, .em, .em]) ?_ (fun N hN => ?_)
            · rintro ρ' rfl
              refine seq_of (fun ρ' => ρ' = [.val d, .val e, .val (.int (a * b')), .val (.int (a' * b)), .val (.int (cmpI (a * b') (a' * b))), .em, .em, .em]) ?_ (fun N hN => ?_)
              · rintro ρ' rfl
                refine seq_of (fun ρ' => ∃ x y z : Sl, ρ' = [.val d, .val e, .val (.int (a * b')), .val (.int (a' * b)), .val (.int (cmpI (a * b') (a' * b))), x, y, z]) ?_ (fun N hN => ?_)
                · rintro ρ' ⟨x, y, z, rfl⟩
                  walk_at "zz"
                  exact h
                · refine for_rng 4 (fun i ρ' => ∃ x y z : Sl, ρ' = [.val d, .val e, .val (.int (a * b')), .val (.int (a' * b)), .val (.int (cmpI (a * b') (a' * b))), x, y, z]) (fun P Xp q => by walk_at "zz"; exact ⟨by decide, by decide, q⟩) ⟨_, _, _, rfl⟩ ?_ ?_
                  · rintro i ρ' hi ⟨x, y, z, rfl⟩
                    have key : ∀ s t : Int, (s = a ∨ s = -a) → (t = b ∨ t = -b) → w_ratio [.int s, .int t] (fun dd => w__law_stands [dd, .int s, .int t] (fun de => truP de fun c => if c = false then P (.bl false) else ∃ x y z : Sl, [Sl.val d, .val e, .val (.int (a * b')), .val (.int (a' * b)), .val (.int (cmpI (a * b') (a' * b))), .val (.int (i : Nat)), .val (.int s), .val (.int t)] = [.val d, .val e, .val (.int (a * b')), .val (.int (a' * b)), .val (.int (cmpI (a * b') (a' * b))), x, y, z]) Xp) Xp := by
                      intro s t hs ht
                      have s1 : B 210 s := by rcases hs with rfl | rfl; exact ha; exact ha.neg
                      have t1 : B 210 t := by rcases ht with rfl | rfl; exact hb; exact hb.neg
                      have t0 : t ≠ 0 := by rcases ht with rfl | rfl <;> omega
                      refine ratio_ok _ _ t0 t1 (by decide) (by decide) ?_
                      refine stands_r _ _ _ _ s1 t1 (by decide) (by decide) t0 s1 t1 (by decide) (by decide) r_cross ?_
                      walk_at "zz"
                      rw [if_neg (by decide)]
                      exact ⟨_, _, _, rfl⟩
                    have hv : i = 0 ∨ i = 1 ∨ i = 2 ∨ i = 3 := by omega
                    rcases hv with rfl | rfl | rfl | rfl
                    · walk_at "zz"
                      refine p0 _ (p0 _ ?_)
                      walk_at "zz"
                      refine ⟨by decide, divX (by decide) (n := 20) (by unfold B; decide) (by decide) (by decide), _, rfl, p1 _ (p1 _ ?_)⟩
                      walk_at "zz"
                      exact ⟨by decide, by decide, _, rfl, key a b (.inl rfl) (.inl rfl)⟩
                    · walk_at "zz"
                      refine p0 _ (p0 _ ?_)
                      walk_at "zz"
                      refine ⟨by decide, divX (by decide) (n := 20) (by unfold B; decide) (by decide) (by decide), _, rfl, p1 _ (p1 _ ?_)⟩
                      walk_at "zz"
                      exact ⟨by decide, by decide, _, rfl, key a (0 - b) (.inl rfl) (.inr (Int.zero_sub b))⟩
                    · walk_at "zz"
                      refine p0 _ (p0 _ ?_)
                      walk_at "zz"
                      refine ⟨by decide, divX (by decide) (n := 20) (by unfold B; decide) (by decide) (by decide), _, rfl, p1 _ (p1 _ ?_)⟩
                      walk_at "zz"
                      exact ⟨by decide, by decide, _, rfl, key (0 - a) b (.inr (Int.zero_sub a)) (.inl rfl)⟩
                    · walk_at "zz"
                      refine p0 _ (p0 _ ?_)
                      walk_at "zz"
                      refine ⟨by decide, divX (by decide) (n := 20) (by unfold B; decide) (by decide) (by decide), _, rfl, p1 _ (p1 _ ?_)⟩
                      walk_at "zz"
                      exact ⟨by decide, by decide, _, rfl, key (0 - a) (0 - b) (.inr (Int.zero_sub a)) (.inr (Int.zero_sub b))⟩
                  · rintro ρ' ⟨x, y, z, rfl⟩
                    exact hN _ ⟨_, _, _, rfl⟩
              · walk_at "zz"
                refine whole_ok _ ?_
                walk_at "zz"
                rw [if_neg (by decide), if_neg (by unfold cmpI; split <;> (try split) <;> omega)]
                exact hN _ rfl
            · walk_at "zz"
              exact compared_ok p p' ha hb ha' hb' (by decide) (by decide) (by decide) (hN _ rfl)
          · walk_at "zz"
            refine q0 _ ?_
            walk_at "zz"
            split
            · rename_i ha0
              have a0 : a' ≠ 0 := by simpa using ha0
              refine divided_ok p p' ha hb ha' hb' (by decide) (by decide) (by decide) b0 a0 ?_
              walk_at "zz"
              refine stands_r _ _ _ _ (ha.mul hb') (hb.mul ha') (by decide) (by decide) (Int.mul_ne_zero b0 a0) (ha.mul hb') (ha'.mul hb) (by decide) (by decide) ?_ ?_
              · have := @r_cross (a * b') (b * a')
                rw [Int.mul_comm a' b]; exact this
              walk_at "zz"
              rw [if_neg (by decide)]
              exact hN _ rfl
            · exact hN _ rfl
        · walk_at "zz"
          refine multiplied_ok p p' ha hb ha' hb' (by decide) (by decide) (by decide) b0 b0' ?_
          walk_at "zz"
          refine p0 _ (q0 _ ?_)
          walk_at "zz"
          refine ⟨ha.cmul ha' (by decide) (by decide) (by decide), p1 _ (q1 _ ?_)⟩
          walk_at "zz"
          refine ⟨hb.cmul hb' (by decide) (by decide) (by decide), stands_r _ _ _ _ (ha.mul ha') (hb.mul hb') (by decide) (by decide) bb (ha.mul ha') (hb.mul hb') (by decide) (by decide) r_cross ?_⟩
          walk_at "zz"
          rw [if_neg (by decide)]
          exact hN _ rfl
      · walk_at "zz"
        refine added_ok p p' ha hb ha' hb' (by decide) (by decide) (by decide) b0 b0' ?_
        walk_at "zz"
        refine p1 _ (q1 _ ?_)
        walk_at "zz"
        refine ⟨hb.cmul hb' (by decide) (by decide) (by decide), stands_r _ _ _ _ (n := 421) (m := 421) ((ha.mul hb').add (ha'.mul hb)) ((hb.mul hb').mono (by decide)) (by decide) (by decide) bb ((ha.mul hb').add (ha'.mul hb)) ((hb.mul hb').mono (by decide)) (by decide) (by decide) r_cross ?_⟩
        walk_at "zz"
        rw [if_neg (by decide)]
        exact hN _ rfl
    · walk_at "zz"
      refine q0 _ (p1 _ ?_)
      walk_at "zz"
      exact ⟨ha'.cmul hb (by decide) (by decide) (by decide), hN _ rfl⟩
  · walk_at "zz"
    refine p0 _ (q1 _ ?_)
    walk_at "zz"
    exact ⟨ha.cmul hb' (by decide) (by decide) (by decide), hN _ rfl⟩
end K55

namespace K55
open PySem PySem.Spec PyProof.Rows L2 Z
theorem stands_x (n d t c : Int) {k m : Nat} (hn : B k n) (hd : B k d) (hk0 : 0 < k) (hk : k + k ≤ 3999) (h0 : d ≠ 0) (ht : B m t) (hc : B m c) (hm0 : 0 < m) (hm : m ≤ 9000) (he : n * c = t * d) {P : D → Prop} {Xp : Xd} (h : P (.bl true)) :
    w__law_stands [.tup [.int (rn n d), .int (rd n d)], .int t, .int c] P Xp := by
  refine stands_r _ _ _ _ hn hd hk0 hk h0 ht hc hm0 hm ?_ h
  apply Int.eq_of_mul_eq_mul_right h0
  have e := @r_cross n d
  calc rn n d * c * d = (rn n d * d) * c := by rw [Int.mul_assoc, Int.mul_comm c d, ← Int.mul_assoc]
    _ = (n * rd n d) * c := by rw [e]
    _ = (n * c) * rd n d := by rw [Int.mul_assoc, Int.mul_comm (rd n d) c, ← Int.mul_assoc]
    _ = (t * d) * rd n d := by rw [he]
    _ = t * rd n d * d := by rw [Int.mul_assoc, Int.mul_comm d, ← Int.mul_assoc]
theorem B.rn {k : Nat} {a b : Int} (h : B k a) (h0 : b ≠ 0) : B k (K55.rn a b) := h.le (rn_le a b h0)
theorem B.rd {k : Nat} {a b : Int} (h : B k b) (h0 : b ≠ 0) : B k (K55.rd a b) := h.le (rd_le a b h0)
theorem rn_zero {b : Int} (h : b ≠ 0) : K55.rn 0 b = 0 := by
  have := rn_le 0 b h
  omega
theorem rd_zero {b : Int} (h : b ≠ 0) : K55.rd 0 b = 1 := by
  have h1 := r_gcd (a := 0) h
  rw [rn_zero h] at h1
  have h2 := rd_pos (a := 0) h
  have h3 : Nat.gcd 0 (K55.rd 0 b).natAbs = (K55.rd 0 b).natAbs := Nat.gcd_zero_left _
  have e0 : (0 : Int).natAbs = 0 := rfl
  rw [e0, h3] at h1
  omega
/-- what the sum is, against the second number -/
theorem back1 {a b a' b' x y u v : Int} (h0' : b' ≠ 0) (h1 : x * (b * b') = (a * b' + a' * b) * y) (h2 : u * (b' * 1) = (a' * -1) * v) : (x * v + u * y) * b = a * (y * v) := by
  apply Int.eq_of_mul_eq_mul_right h0'
  have e1 : (x * v + u * y) * b * b' = (x * (b * b')) * v + (u * (b' * 1)) * (y * b) := by
    simp only [Int.add_mul, Int.mul_add, Int.mul_one, Int.mul_assoc, Int.mul_comm, Int.mul_left_comm]
  rw [e1, h1, h2]
  simp only [Int.add_mul, Int.mul_add, Int.mul_one, Int.neg_mul, Int.mul_neg, Int.mul_assoc, Int.mul_comm, Int.mul_left_comm]
  omega
theorem back2 {a b a' b' x y : Int} (b1 : 1 ≤ b) (b1' : 1 ≤ b') (y1 : 1 ≤ y) (h1 : x * (b * b') = (a * b' + a' * b) * y) : cmpI (x * b) (a * y) = (if 0 < a' then 1 else 0) - (if a' < 0 then 1 else 0) := by
  have e : (x * b - a * y) * b' = a' * (b * y) := by
    have e1 : (x * b - a * y) * b' = x * (b * b') - a * b' * y := by
      simp only [Int.sub_mul, Int.mul_sub, Int.mul_assoc, Int.mul_comm, Int.mul_left_comm]
    rw [e1, h1, Int.add_mul]
    have : a' * b * y = a' * (b * y) := Int.mul_assoc _ _ _
    omega
  have hby : 0 < b * y := Int.mul_pos (by omega) (by omega)
  have hb' : 0 < b' := by omega
  unfold cmpI
  by_cases hp : 0 < a'
  · have q1 : 0 < a' * (b * y) := Int.mul_pos hp hby
    have q2 : 0 < x * b - a * y := Int.pos_of_mul_pos_left (by omega) hb' |> fun z => z
    rw [if_neg (by omega), if_pos (by omega), if_pos hp, if_neg (by omega)]; rfl
  · by_cases hn : a' < 0
    · have q1 : 0 < (-a') * (b * y) := Int.mul_pos (by omega) hby
      rw [Int.neg_mul] at q1
      have q3 : 0 < (-(x * b - a * y)) * b' := by rw [Int.neg_mul]; omega
      have q2 : 0 < -(x * b - a * y) := Int.pos_of_mul_pos_left q3 hb' |> fun z => z
      rw [if_pos (by omega), if_neg hp, if_pos hn]; rfl
    · have ha0 : a' = 0 := by omega
      subst ha0
      rw [Int.zero_mul] at e
      have q : x * b - a * y = 0 := by
        rcases Int.mul_eq_zero.mp e with z | z
        · exact z
        · omega
      rw [if_neg (by omega), if_neg (by omega)]; rfl
end K55

namespace K55
open PySem PySem.Spec PyProof.Rows L2 Z
theorem back_ok {d e : D} {a b a' b' : Int} (p : Pr d a b) (p' : Pr e a' b') (ha : B 210 a) (hb : B 210 b) (b1 : 1 ≤ b) (ha' : B 210 a') (hb' : B 210 b') (b1' : 1 ≤ b') {P : D → Prop} {Xp : Xd} (h : P (.bl true)) : w__law_back [d, e] P Xp := by
  obtain ⟨p0, p1⟩ := pr_at p
  obtain ⟨q0, q1⟩ := pr_at p'
  have b0 : b ≠ 0 := by omega
  have b0' : b' ≠ 0 := by omega
  have bb : b * b' ≠ 0 := Int.mul_ne_zero b0 b0'
  have bb1 : b' * 1 ≠ 0 := by omega
  have hT : B 421 (a * b' + a' * b) := (ha.mul hb').add (ha'.mul hb)
  have hU : B 421 (b * b') := (hb.mul hb').mono (by decide)
  have hm1 : B 2 (-1) := by unfold B; decide
  have h11 : B 2 1 := by unfold B; decide
  have hM : B 212 (a' * -1) := ha'.mul hm1
  have hV : B 212 (b' * 1) := hb'.mul h11
  have hx := B.rn hT bb
  have hy := B.rd (a := a * b' + a' * b) hU bb
  have hu := B.rn hM bb1
  have hv := B.rd (a := a' * -1) hV bb1
  have y1 := rd_pos (a := a * b' + a' * b) bb
  have v1 := rd_pos (a := a' * -1) bb1
  have cx := @r_cross (a * b' + a' * b) (b * b')
  have cu := @r_cross (a' * -1) (b' * 1)
  generalize hX : K55.rn (a * b' + a' * b) (b * b') = x at *
  generalize hY : K55.rd (a * b' + a' * b) (b * b') = y at *
  generalize hUu : K55.rn (a' * -1) (b' * 1) = u at *
  generalize hVv : K55.rd (a' * -1) (b' * 1) = v at *
  unfold w__law_back t__law_back
  refine seq_of (fun ρ' => ρ' = [.val d, .val e, .val (.tup [.int x, .int y]), .em]) ?_ (fun N hN => ?_)
  · rintro ρ' rfl
    refine seq_of (fun ρ' => ρ' = [.val d, .val e, .val (.tup [.int x, .int y]), .val (.tup [.int u, .int v])]) ?_ (fun N hN => ?_)
    · rintro ρ' rfl
      refine seq_of (fun ρ' => ρ' = [.val d, .val e, .val (.tup [.int x, .int y]), .val (.tup [.int u, .int v])]) ?_ (fun N hN => ?_)
      · rintro ρ' rfl
        refine seq_of (fun ρ' => ρ' = [.val d, .val e, .val (.tup [.int x, .int y]), .val (.tup [.int u, .int v])]) ?_ (fun N hN => ?_)
        · rintro ρ' rfl
          refine seq_of (fun ρ' => a' ≠ 0 ∧ ρ' = [.val d, .val e, .val (.tup [.int x, .int y]), .val (.tup [.int u, .int v])]) ?_ (fun N hN => ?_)
          · rintro ρ' ⟨a0', rfl⟩
            walk_at "zz"
            refine multiplied_ok p p' ha hb ha' hb' (by decide) (by decide) (by decide) b0 b0' ?_
            refine divided_ok tup_lit p' (B.rn (ha.mul ha') bb) (B.rd (hb.mul hb') bb) ha' hb' (by decide) (by decide) (by decide) (by have := rd_pos (a := a * a') bb; omega) a0' ?_
            refine p0 _ (p1 _ ?_)
            have q1 := rd_pos (a := a * a') bb
            refine stands_x _ _ _ _ ((B.rn (ha.mul ha') bb).mul hb') ((B.rd (hb.mul hb') bb).mul ha') (by decide) (by decide) (Int.mul_ne_zero (by omega) a0') ha hb (by decide) (by decide) ?_ h
            have c := @r_cross (a * a') (b * b')
            calc K55.rn (a * a') (b * b') * b' * b = K55.rn (a * a') (b * b') * (b * b') := by rw [Int.mul_assoc, Int.mul_comm b' b]
              _ = a * a' * K55.rd (a * a') (b * b') := c
              _ = a * (K55.rd (a * a') (b * b') * a') := by rw [Int.mul_assoc, Int.mul_comm a']
          · walk_at "zz"
            refine q0 _ ?_
            walk_at "zz"
            split
            · rename_i a0
              subst a0
              refine multiplied_ok p p' ha hb ha' hb' (by decide) (by decide) (by decide) b0 b0' ?_
              rw [Int.mul_zero, rn_zero bb, rd_zero bb]
              refine ⟨by decide, ⟨by decide, by decide⟩, ⟨by decide, by decide⟩, ?_⟩
              exact h
            · rename_i a0
              exact hN _ ⟨by simpa using a0, rfl⟩
        · walk_at "zz"
          refine compared_ok tup_lit p hx hy ha hb (by decide) (by decide) (by decide) (q0 _ (q0 _ ?_))
          walk_at "zz"
          rw [back2 b1 b1' y1 cx]
          rw [if_neg (by simp)]
          refine compared_ok tup_lit tup_lit hx hy hx hy (by decide) (by decide) (by decide) ?_
          walk_at "zz"
          rw [if_neg (by unfold cmpI; simp)]
          exact hN _ rfl
      · walk_at "zz"
        refine added_ok tup_lit tup_lit hx hy hu hv (by decide) (by decide) (by decide) (by omega) (by omega) (p0 _ (p1 _ ?_))
        refine stands_x _ _ _ _ (k := 634) (((hx.mul hv).mono (m := 633) (by decide)).add ((hu.mul hy).mono (by decide))) ((hy.mul hv).mono (by decide)) (by decide) (by decide) (Int.mul_ne_zero (by omega) (by omega)) ha hb (by decide) (by decide) (back1 b0' cx cu) ?_
        walk_at "zz"
        rw [if_neg (by decide)]
        exact hN _ rfl
    · walk_at "zz"
      refine ⟨by decide, multiplied_ok p' (tup_lit (a := -1) (b := 1)) ha' hb' hm1 h11 (by decide) (by decide) (by decide) b0' (by decide) ?_⟩
      rw [hUu, hVv]
      exact hN _ rfl
  · walk_at "zz"
    refine added_ok p p' ha hb ha' hb' (by decide) (by decide) (by decide) b0 b0' ?_
    rw [hX, hY]
    exact hN _ rfl
end K55

namespace K55
open PySem PySem.Spec PyProof.Rows L2 Z
theorem law_true (ns : List Int) (hl : ns.length ≤ 63) : w_law [.scr (ns.map D.int)] (fun d => d = .bl true) NoX := by
  unfold w_law t_law
  refine seq_of (fun ρ' => ∃ a b c d : Int, (B 210 a ∧ B 210 b ∧ 1 ≤ b) ∧ (B 210 c ∧ B 210 d ∧ 1 ≤ d) ∧ ρ' = [.val (.scr (ns.map D.int)), .val (.lst [.lst [.int a, .int b], .lst [.int c, .int d]]), .em, .em, .em, .em, .em, .em]) ?_ (fun N hN => ?_)
  · rintro ρ' ⟨a, b, c, d, ⟨ha, hb, b1⟩, ⟨hc, hd, d1⟩, rfl⟩
    refine seq_of (fun ρ' => ρ' = [.val (.scr (ns.map D.int)), .val (.lst [.lst [.int a, .int b], .lst [.int c, .int d]]), .val (.lst [.int a, .int b]), .em, .em, .em, .em, .em]) ?_ (fun N hN => ?_)
    · rintro ρ' rfl
      refine seq_of (fun ρ' => ρ' = [.val (.scr (ns.map D.int)), .val (.lst [.lst [.int a, .int b], .lst [.int c, .int d]]), .val (.lst [.int a, .int b]), .val (.lst [.int c, .int d]), .em, .em, .em, .em]) ?_ (fun N hN => ?_)
      · rintro ρ' rfl
        refine seq_of (fun ρ' => ∃ s t : Int, (0 ≤ s ∧ s < 2) ∧ (0 ≤ t ∧ t < 2) ∧ ρ' = [.val (.scr (ns.map D.int)), .val (.lst [.lst [.int a, .int b], .lst [.int c, .int d]]), .val (.lst [.int a, .int b]), .val (.lst [.int c, .int d]), .val (.lst [.int s, .int t]), .em, .em, .em]) ?_ (fun N hN => ?_)
        · rintro ρ' ⟨s, t, hs, ht, rfl⟩
          refine seq_of (fun ρ' => ∃ x, Pr x a b ∧ ρ' = [.val (.scr (ns.map D.int)), .val (.lst [.lst [.int a, .int b], .lst [.int c, .int d]]), .val (.lst [.int a, .int b]), .val (.lst [.int c, .int d]), .val (.lst [.int s, .int t]), .val x, .em, .em]) ?_ (fun N hN => ?_)
          · rintro ρ' ⟨x, px, rfl⟩
            refine seq_of (fun ρ' => ∃ y, Pr y c d ∧ ρ' = [.val (.scr (ns.map D.int)), .val (.lst [.lst [.int a, .int b], .lst [.int c, .int d]]), .val (.lst [.int a, .int b]), .val (.lst [.int c, .int d]), .val (.lst [.int s, .int t]), .val x, .val y, .em]) ?_ (fun N hN => ?_)
            · rintro ρ' ⟨y, py, rfl⟩
              refine seq_of (fun ρ' => ∃ z, ρ' = [.val (.scr (ns.map D.int)), .val (.lst [.lst [.int a, .int b], .lst [.int c, .int d]]), .val (.lst [.int a, .int b]), .val (.lst [.int c, .int d]), .val (.lst [.int s, .int t]), .val x, .val y, z]) ?_ (fun N hN => ?_)
              · rintro ρ' ⟨z, rfl⟩
                refine seq_of (fun ρ' => ρ' = [.val (.scr (ns.map D.int)), .val (.lst [.lst [.int a, .int b], .lst [.int c, .int d]]), .val (.lst [.int a, .int b]), .val (.lst [.int c, .int d]), .val (.lst [.int s, .int t]), .val x, .val y, z]) ?_ (fun N hN => ?_)
                · rintro ρ' rfl
                  have eqs : ∀ (x : D) (a b : Int) (P : D → Prop), Pr x a b → P (.bl true) → cLst [x] fun l => okD (.lst l) ∧ okD (.lst [.int a, .int b]) ∧ P (.bl (eqD (.lst l) (.lst [.int a, .int b]))) := by
                    intro x a b P px hP
                    have e : eqD (.lst [.int a, .int b]) (.lst [.int a, .int b]) = true := by
                      simp [eqD, pyOf, pyAll, PyData.eqv, PyData.eqvAll]
                    rcases px with rfl | rfl
                    · refine ⟨⟨rfl, rfl⟩, ⟨rfl, rfl⟩, ?_⟩
                      show P (.bl (eqD (.lst [.int a, .int b]) (.lst [.int a, .int b])))
                      rw [e]; exact hP
                    · refine ⟨⟨rfl, rfl⟩, ⟨rfl, rfl⟩, ?_⟩
                      show P (.bl (eqD (.lst [.int a, .int b]) (.lst [.int a, .int b])))
                      rw [e]; exact hP
                  walk_at "zz"
                  refine eqs x a b (fun z => caseB z _ _) px ?_
                  walk_at "zz"
                  exact eqs y c d (fun z => z = .bl true) py rfl
                · walk_at "zz"
                  refine right_ok px px ha hb b1 ha hb b1 ?_
                  walk_at "zz"
                  rw [if_neg (by decide)]
                  refine back_ok px py ha hb b1 hc hd d1 ?_
                  walk_at "zz"
                  rw [if_neg (by decide)]
                  exact hN _ rfl
              · refine for_rng 2 (fun i ρ' => ∃ z, ρ' = [.val (.scr (ns.map D.int)), .val (.lst [.lst [.int a, .int b], .lst [.int c, .int d]]), .val (.lst [.int a, .int b]), .val (.lst [.int c, .int d]), .val (.lst [.int s, .int t]), .val x, .val y, z]) (fun P Xp q => by walk_at "zz"; exact ⟨by decide, by decide, q⟩) ⟨_, rfl⟩ ?_ ?_
                · rintro i ρ' hi ⟨z, rfl⟩
                  walk_at "zz"
                  refine right_ok px py ha hb b1 hc hd d1 ?_
                  walk_at "zz"
                  rw [if_neg (by decide)]
                  refine right_ok py px hc hd d1 ha hb b1 ?_
                  walk_at "zz"
                  rw [if_neg (by decide)]
                  exact ⟨_, rfl⟩
                · rintro ρ' ⟨z, rfl⟩
                  exact hN _ ⟨_, rfl⟩
            · walk_at "zz"
              have hv : t = 0 ∨ t = 1 := by omega
              rcases hv with rfl | rfl
              · exact ⟨by decide, _, rfl, _, rfl, hN _ ⟨_, .inl rfl, rfl⟩⟩
              · exact ⟨by decide, _, rfl, _, rfl, hN _ ⟨_, .inr rfl, rfl⟩⟩
          · walk_at "zz"
            have hv : s = 0 ∨ s = 1 := by omega
            rcases hv with rfl | rfl
            · exact ⟨by decide, _, rfl, _, rfl, hN _ ⟨_, .inl rfl, rfl⟩⟩
            · exact ⟨by decide, _, rfl, _, rfl, hN _ ⟨_, .inr rfl, rfl⟩⟩
        · walk_at "zz"
          refine cell_ok ns 6 (by decide) (by decide) fun z => ?_
          walk_at "zz"
          refine ⟨by decide, digits_ok z [2, 2] (by decide) (by decide) fun l hl => ?_⟩
          obtain ⟨s0, r, rfl, a0, b0, hl⟩ := dig_cons hl
          obtain ⟨s1, r, rfl, a1, b1, hl⟩ := dig_cons hl
          have e := dig_nil hl
          subst e
          exact hN _ ⟨s0, s1, ⟨a0, b0⟩, ⟨a1, b1⟩, rfl⟩
      · walk_at "zz"
        exact ⟨_, rfl, hN _ rfl⟩
    · walk_at "zz"
      exact ⟨_, rfl, hN _ rfl⟩
  · walk_at "zz"
    exact draw_ok ns fun a b c d ha hb b1 hc hd d1 => hN _ ⟨a, b, c, d, ⟨ha, hb, b1⟩, ⟨hc, hd, d1⟩, rfl⟩
end K55

/-! ### the end -/
namespace K55
open PySem PySem.Spec PyProof.Rows L2 Z
def spLaw (K : PySem.W.Frag) : Sp := fun vs H Q _ => ∃ (a : Addr) (ns : List Int), vs = [.ref a] ∧ SqL K H a (ns.map V.int) ∧ ns.length ≤ 63 ∧ ∀ H', Q (.bl true) H'
theorem law_ok {P : Program} {w : World} {K : PySem.W.Frag} {mg : Str → Option Value} {base : Heap} (T : Txt K mg) : FnOk P w K mg base (L2.CX P w) 4 T.a_law T.d_law ["_law_script"] (spLaw K) :=
  (ok_law T).imp fun vs H Q E ⟨a, ns, e, hS, hl, q⟩ => by
    subst e
    exact ⟨rfl, H, [.scr (ns.map D.int)], fun d => d = .bl true, NoX, Same.refl _, .cons (.scr hS (Reps.ints ns)) .nil, law_true ns hl, fun d hd v S' H' _ r => by subst hd; cases r; exact q H', fun _ _ h => h.elim⟩
theorem all_mk {P : Program} {w : World} {K : PySem.W.Frag} {h : Heap} {mg : Str → Option Value} {fa : Addr} (X : K.In h) (G : h.Ns mainGlobals mg) (hfa : mg "law" = some (.ref fa))
    {f1 : Addr} {od1 an1 : Option Addr} {sl1 : Array (Option Value)} {oc1 kV1 dc1 pm1 cd1 ct1 : Value}
    {f2 : Addr} {od2 an2 : Option Addr} {sl2 : Array (Option Value)} {oc2 kV2 dc2 pm2 cd2 ct2 : Value}
    {f3 : Addr} {od3 an3 : Option Addr} {sl3 : Array (Option Value)} {oc3 kV3 dc3 pm3 cd3 ct3 : Value}
    {f4 : Addr} {od4 an4 : Option Addr} {sl4 : Array (Option Value)} {oc4 kV4 dc4 pm4 cd4 ct4 : Value}
    {f5 : Addr} {od5 an5 : Option Addr} {sl5 : Array (Option Value)} {oc5 kV5 dc5 pm5 cd5 ct5 : Value}
    {f6 : Addr} {od6 an6 : Option Addr} {sl6 : Array (Option Value)} {oc6 kV6 dc6 pm6 cd6 ct6 : Value}
    {f7 : Addr} {od7 an7 : Option Addr} {sl7 : Array (Option Value)} {oc7 kV7 dc7 pm7 cd7 ct7 : Value}
    {f8 : Addr} {od8 an8 : Option Addr} {sl8 : Array (Option Value)} {oc8 kV8 dc8 pm8 cd8 ct8 : Value}
    {f9 : Addr} {od9 an9 : Option Addr} {sl9 : Array (Option Value)} {oc9 kV9 dc9 pm9 cd9 ct9 : Value}
    {f10 : Addr} {od10 an10 : Option Addr} {sl10 : Array (Option Value)} {oc10 kV10 dc10 pm10 cd10 ct10 : Value}
    {f11 : Addr} {od11 an11 : Option Addr} {sl11 : Array (Option Value)} {oc11 kV11 dc11 pm11 cd11 ct11 : Value}
    {f12 : Addr} {od12 an12 : Option Addr} {sl12 : Array (Option Value)} {oc12 kV12 dc12 pm12 cd12 ct12 : Value}
    {f13 : Addr} {od13 an13 : Option Addr} {sl13 : Array (Option Value)} {oc13 kV13 dc13 pm13 cd13 ct13 : Value}
    {f14 : Addr} {od14 an14 : Option Addr} {sl14 : Array (Option Value)} {oc14 kV14 dc14 pm14 cd14 ct14 : Value}
    {f15 : Addr} {od15 an15 : Option Addr} {sl15 : Array (Option Value)} {oc15 kV15 dc15 pm15 cd15 ct15 : Value}
    {f16 : Addr} {od16 an16 : Option Addr} {sl16 : Array (Option Value)} {oc16 kV16 dc16 pm16 cd16 ct16 : Value}
    {f17 : Addr} {od17 an17 : Option Addr} {sl17 : Array (Option Value)} {oc17 kV17 dc17 pm17 cd17 ct17 : Value}
    (a1 : PySem.W.nsIn K mainGlobals "_law_digits" = some (some (.ref f1))) (l1 : K.lookup f1 = some ⟨oc1, od1, .func (PySem.W.fnOf "_law_digits" "_law_digits" (defArgs st__law_digits) (defBody st__law_digits) (defScope st__law_digits) .none kV1 dc1 pm1 an1 cd1 ct1), sl1⟩) (c1 : PySem.W.codeIn K cd1 "_law_digits" = true) (k1 : PySem.W.keepIn K (.ref f1) = true)
    (a2 : PySem.W.nsIn K mainGlobals "_law_cell" = some (some (.ref f2))) (l2 : K.lookup f2 = some ⟨oc2, od2, .func (PySem.W.fnOf "_law_cell" "_law_cell" (defArgs st__law_cell) (defBody st__law_cell) (defScope st__law_cell) .none kV2 dc2 pm2 an2 cd2 ct2), sl2⟩) (c2 : PySem.W.codeIn K cd2 "_law_cell" = true) (k2 : PySem.W.keepIn K (.ref f2) = true)
    (a3 : PySem.W.nsIn K mainGlobals "_law_number" = some (some (.ref f3))) (l3 : K.lookup f3 = some ⟨oc3, od3, .func (PySem.W.fnOf "_law_number" "_law_number" (defArgs st__law_number) (defBody st__law_number) (defScope st__law_number) .none kV3 dc3 pm3 an3 cd3 ct3), sl3⟩) (c3 : PySem.W.codeIn K cd3 "_law_number" = true) (k3 : PySem.W.keepIn K (.ref f3) = true)
    (a4 : PySem.W.nsIn K mainGlobals "_law_top" = some (some (.ref f4))) (l4 : K.lookup f4 = some ⟨oc4, od4, .func (PySem.W.fnOf "_law_top" "_law_top" (defArgs st__law_top) (defBody st__law_top) (defScope st__law_top) .none kV4 dc4 pm4 an4 cd4 ct4), sl4⟩) (c4 : PySem.W.codeIn K cd4 "_law_top" = true) (k4 : PySem.W.keepIn K (.ref f4) = true)
    (a5 : PySem.W.nsIn K mainGlobals "_law_bottom" = some (some (.ref f5))) (l5 : K.lookup f5 = some ⟨oc5, od5, .func (PySem.W.fnOf "_law_bottom" "_law_bottom" (defArgs st__law_bottom) (defBody st__law_bottom) (defScope st__law_bottom) .none kV5 dc5 pm5 an5 cd5 ct5), sl5⟩) (c5 : PySem.W.codeIn K cd5 "_law_bottom" = true) (k5 : PySem.W.keepIn K (.ref f5) = true)
    (a6 : PySem.W.nsIn K mainGlobals "_law_draw_pairs" = some (some (.ref f6))) (l6 : K.lookup f6 = some ⟨oc6, od6, .func (PySem.W.fnOf "_law_draw_pairs" "_law_draw_pairs" (defArgs st__law_draw_pairs) (defBody st__law_draw_pairs) (defScope st__law_draw_pairs) .none kV6 dc6 pm6 an6 cd6 ct6), sl6⟩) (c6 : PySem.W.codeIn K cd6 "_law_draw_pairs" = true) (k6 : PySem.W.keepIn K (.ref f6) = true)
    (a7 : PySem.W.nsIn K mainGlobals "compared" = some (some (.ref f7))) (l7 : K.lookup f7 = some ⟨oc7, od7, .func (PySem.W.fnOf "compared" "compared" (defArgs st_compared) (defBody st_compared) (defScope st_compared) .none kV7 dc7 pm7 an7 cd7 ct7), sl7⟩) (c7 : PySem.W.codeIn K cd7 "compared" = true) (k7 : PySem.W.keepIn K (.ref f7) = true)
    (a8 : PySem.W.nsIn K mainGlobals "_law_whole" = some (some (.ref f8))) (l8 : K.lookup f8 = some ⟨oc8, od8, .func (PySem.W.fnOf "_law_whole" "_law_whole" (defArgs st__law_whole) (defBody st__law_whole) (defScope st__law_whole) .none kV8 dc8 pm8 an8 cd8 ct8), sl8⟩) (c8 : PySem.W.codeIn K cd8 "_law_whole" = true) (k8 : PySem.W.keepIn K (.ref f8) = true)
    (a9 : PySem.W.nsIn K mainGlobals "_law_shared" = some (some (.ref f9))) (l9 : K.lookup f9 = some ⟨oc9, od9, .func (PySem.W.fnOf "_law_shared" "_law_shared" (defArgs st__law_shared) (defBody st__law_shared) (defScope st__law_shared) .none kV9 dc9 pm9 an9 cd9 ct9), sl9⟩) (c9 : PySem.W.codeIn K cd9 "_law_shared" = true) (k9 : PySem.W.keepIn K (.ref f9) = true)
    (a10 : PySem.W.nsIn K mainGlobals "_law_stands" = some (some (.ref f10))) (l10 : K.lookup f10 = some ⟨oc10, od10, .func (PySem.W.fnOf "_law_stands" "_law_stands" (defArgs st__law_stands) (defBody st__law_stands) (defScope st__law_stands) .none kV10 dc10 pm10 an10 cd10 ct10), sl10⟩) (c10 : PySem.W.codeIn K cd10 "_law_stands" = true) (k10 : PySem.W.keepIn K (.ref f10) = true)
    (a11 : PySem.W.nsIn K mainGlobals "ratio" = some (some (.ref f11))) (l11 : K.lookup f11 = some ⟨oc11, od11, .func (PySem.W.fnOf "ratio" "ratio" (defArgs st_ratio) (defBody st_ratio) (defScope st_ratio) .none kV11 dc11 pm11 an11 cd11 ct11), sl11⟩) (c11 : PySem.W.codeIn K cd11 "ratio" = true) (k11 : PySem.W.keepIn K (.ref f11) = true)
    (a12 : PySem.W.nsIn K mainGlobals "added" = some (some (.ref f12))) (l12 : K.lookup f12 = some ⟨oc12, od12, .func (PySem.W.fnOf "added" "added" (defArgs st_added) (defBody st_added) (defScope st_added) .none kV12 dc12 pm12 an12 cd12 ct12), sl12⟩) (c12 : PySem.W.codeIn K cd12 "added" = true) (k12 : PySem.W.keepIn K (.ref f12) = true)
    (a13 : PySem.W.nsIn K mainGlobals "multiplied" = some (some (.ref f13))) (l13 : K.lookup f13 = some ⟨oc13, od13, .func (PySem.W.fnOf "multiplied" "multiplied" (defArgs st_multiplied) (defBody st_multiplied) (defScope st_multiplied) .none kV13 dc13 pm13 an13 cd13 ct13), sl13⟩) (c13 : PySem.W.codeIn K cd13 "multiplied" = true) (k13 : PySem.W.keepIn K (.ref f13) = true)
    (a14 : PySem.W.nsIn K mainGlobals "divided" = some (some (.ref f14))) (l14 : K.lookup f14 = some ⟨oc14, od14, .func (PySem.W.fnOf "divided" "divided" (defArgs st_divided) (defBody st_divided) (defScope st_divided) .none kV14 dc14 pm14 an14 cd14 ct14), sl14⟩) (c14 : PySem.W.codeIn K cd14 "divided" = true) (k14 : PySem.W.keepIn K (.ref f14) = true)
    (a15 : PySem.W.nsIn K mainGlobals "_law_right" = some (some (.ref f15))) (l15 : K.lookup f15 = some ⟨oc15, od15, .func (PySem.W.fnOf "_law_right" "_law_right" (defArgs st__law_right) (defBody st__law_right) (defScope st__law_right) .none kV15 dc15 pm15 an15 cd15 ct15), sl15⟩) (c15 : PySem.W.codeIn K cd15 "_law_right" = true) (k15 : PySem.W.keepIn K (.ref f15) = true)
    (a16 : PySem.W.nsIn K mainGlobals "_law_back" = some (some (.ref f16))) (l16 : K.lookup f16 = some ⟨oc16, od16, .func (PySem.W.fnOf "_law_back" "_law_back" (defArgs st__law_back) (defBody st__law_back) (defScope st__law_back) .none kV16 dc16 pm16 an16 cd16 ct16), sl16⟩) (c16 : PySem.W.codeIn K cd16 "_law_back" = true) (k16 : PySem.W.keepIn K (.ref f16) = true)
    (a17 : PySem.W.nsIn K mainGlobals "law" = some (some (.ref f17))) (l17 : K.lookup f17 = some ⟨oc17, od17, .func (PySem.W.fnOf "law" "law" (defArgs st_law) (defBody st_law) (defScope st_law) .none kV17 dc17 pm17 an17 cd17 ct17), sl17⟩) (c17 : PySem.W.codeIn K cd17 "law" = true) (k17 : PySem.W.keepIn K (.ref f17) = true)
    (z_abs : PySem.W.nsIn K mainGlobals "abs" = some none)
    (z_bool : PySem.W.nsIn K mainGlobals "bool" = some none)
    (z_int : PySem.W.nsIn K mainGlobals "int" = some none)
    (z_isinstance : PySem.W.nsIn K mainGlobals "isinstance" = some none)
    (z_len : PySem.W.nsIn K mainGlobals "len" = some none)
    (z_list : PySem.W.nsIn K mainGlobals "list" = some none)
    (z_range : PySem.W.nsIn K mainGlobals "range" = some none)
    (z_tuple : PySem.W.nsIn K mainGlobals "tuple" = some none)
    (l_gcd : PySem.W.nsIn K mainGlobals "gcd" = some (some (.builtin "math.gcd"))) :
    ∃ fd : FuncData, (∀ (s : Shared) (v : Value), BindsTo s fd ⟨[v], []⟩ [("_law_script", v)]) ∧ ∀ base : Heap, K.In base → base.Ns mainGlobals mg → FnOk P w K mg base (L2.CX P w) 4 fa fd ["_law_script"] (spLaw K) := by
  have e := hfa.symm.trans (PySem.W.mg_of X G a17)
  cases e
  have F1 := fun_mk (st := st__law_digits) l1 c1 k1
  have F2 := fun_mk (st := st__law_cell) l2 c2 k2
  have F3 := fun_mk (st := st__law_number) l3 c3 k3
  have F4 := fun_mk (st := st__law_top) l4 c4 k4
  have F5 := fun_mk (st := st__law_bottom) l5 c5 k5
  have F6 := fun_mk (st := st__law_draw_pairs) l6 c6 k6
  have F7 := fun_mk (st := st_compared) l7 c7 k7
  have F8 := fun_mk (st := st__law_whole) l8 c8 k8
  have F9 := fun_mk (st := st__law_shared) l9 c9 k9
  have F10 := fun_mk (st := st__law_stands) l10 c10 k10
  have F11 := fun_mk (st := st_ratio) l11 c11 k11
  have F12 := fun_mk (st := st_added) l12 c12 k12
  have F13 := fun_mk (st := st_multiplied) l13 c13 k13
  have F14 := fun_mk (st := st_divided) l14 c14 k14
  have F15 := fun_mk (st := st__law_right) l15 c15 k15
  have F16 := fun_mk (st := st__law_back) l16 c16 k16
  have F17 := fun_mk (st := st_law) l17 c17 k17
  have b1 := F1.binds (ps := ["_law_cell_here", "_law_sizes"]) fun _ _ _ _ _ _ us hl => match us, hl with | [_, _], _ => rfl
  have b2 := F2.binds (ps := ["_law_script", "_law_k"]) fun _ _ _ _ _ _ us hl => match us, hl with | [_, _], _ => rfl
  have b3 := F3.binds (ps := ["_law_cell_here", "_law_limit"]) fun _ _ _ _ _ _ us hl => match us, hl with | [_, _], _ => rfl
  have b4 := F4.binds (ps := ["_law_cell_here", "_law_style"]) fun _ _ _ _ _ _ us hl => match us, hl with | [_, _], _ => rfl
  have b5 := F5.binds (ps := ["_law_cell_here", "_law_style"]) fun _ _ _ _ _ _ us hl => match us, hl with | [_, _], _ => rfl
  have b6 := F6.binds (ps := ["_law_script"]) fun _ _ _ _ _ _ us hl => match us, hl with | [_], _ => rfl
  have b7 := F7.binds (ps := ["one", "two"]) fun _ _ _ _ _ _ us hl => match us, hl with | [_, _], _ => rfl
  have b8 := F8.binds (ps := ["_law_value"]) fun _ _ _ _ _ _ us hl => match us, hl with | [_], _ => rfl
  have b9 := F9.binds (ps := ["_law_one", "_law_two"]) fun _ _ _ _ _ _ us hl => match us, hl with | [_, _], _ => rfl
  have b10 := F10.binds (ps := ["_law_value", "_law_top_here", "_law_bottom_here"]) fun _ _ _ _ _ _ us hl => match us, hl with | [_, _, _], _ => rfl
  have b11 := F11.binds (ps := ["top", "bottom"]) fun _ _ _ _ _ _ us hl => match us, hl with | [_, _], _ => rfl
  have b12 := F12.binds (ps := ["one", "two"]) fun _ _ _ _ _ _ us hl => match us, hl with | [_, _], _ => rfl
  have b13 := F13.binds (ps := ["one", "two"]) fun _ _ _ _ _ _ us hl => match us, hl with | [_, _], _ => rfl
  have b14 := F14.binds (ps := ["one", "two"]) fun _ _ _ _ _ _ us hl => match us, hl with | [_, _], _ => rfl
  have b15 := F15.binds (ps := ["_law_one", "_law_two"]) fun _ _ _ _ _ _ us hl => match us, hl with | [_, _], _ => rfl
  have b16 := F16.binds (ps := ["_law_one", "_law_two"]) fun _ _ _ _ _ _ us hl => match us, hl with | [_, _], _ => rfl
  have b17 := F17.binds (ps := ["_law_script"]) fun _ _ _ _ _ _ us hl => match us, hl with | [_], _ => rfl
  let T : Txt K mg := { a__law_digits := f1, d__law_digits := _, F__law_digits := F1, g__law_digits := PySem.W.mg_of X G a1, b__law_digits := b1, a__law_cell := f2, d__law_cell := _, F__law_cell := F2, g__law_cell := PySem.W.mg_of X G a2, b__law_cell := b2, a__law_number := f3, d__law_number := _, F__law_number := F3, g__law_number := PySem.W.mg_of X G a3, b__law_number := b3, a__law_top := f4, d__law_top := _, F__law_top := F4, g__law_top := PySem.W.mg_of X G a4, b__law_top := b4, a__law_bottom := f5, d__law_bottom := _, F__law_bottom := F5, g__law_bottom := PySem.W.mg_of X G a5, b__law_bottom := b5, a__law_draw_pairs := f6, d__law_draw_pairs := _, F__law_draw_pairs := F6, g__law_draw_pairs := PySem.W.mg_of X G a6, b__law_draw_pairs := b6, a_compared := f7, d_compared := _, F_compared := F7, g_compared := PySem.W.mg_of X G a7, b_compared := b7, a__law_whole := f8, d__law_whole := _, F__law_whole := F8, g__law_whole := PySem.W.mg_of X G a8, b__law_whole := b8, a__law_shared := f9, d__law_shared := _, F__law_shared := F9, g__law_shared := PySem.W.mg_of X G a9, b__law_shared := b9, a__law_stands := f10, d__law_stands := _, F__law_stands := F10, g__law_stands := PySem.W.mg_of X G a10, b__law_stands := b10, a_ratio := f11, d_ratio := _, F_ratio := F11, g_ratio := PySem.W.mg_of X G a11, b_ratio := b11, a_added := f12, d_added := _, F_added := F12, g_added := PySem.W.mg_of X G a12, b_added := b12, a_multiplied := f13, d_multiplied := _, F_multiplied := F13, g_multiplied := PySem.W.mg_of X G a13, b_multiplied := b13, a_divided := f14, d_divided := _, F_divided := F14, g_divided := PySem.W.mg_of X G a14, b_divided := b14, a__law_right := f15, d__law_right := _, F__law_right := F15, g__law_right := PySem.W.mg_of X G a15, b__law_right := b15, a__law_back := f16, d__law_back := _, F__law_back := F16, g__law_back := PySem.W.mg_of X G a16, b__law_back := b16, a_law := fa, d_law := _, F_law := F17, g_law := PySem.W.mg_of X G a17, b_law := b17, z_abs := PySem.W.mg_none_of X G z_abs, z_bool := PySem.W.mg_none_of X G z_bool, z_int := PySem.W.mg_none_of X G z_int, z_isinstance := PySem.W.mg_none_of X G z_isinstance, z_len := PySem.W.mg_none_of X G z_len, z_list := PySem.W.mg_none_of X G z_list, z_range := PySem.W.mg_none_of X G z_range, z_tuple := PySem.W.mg_none_of X G z_tuple, l_gcd := PySem.W.mg_of X G l_gcd }
  exact ⟨T.d_law, fun s v => .of_eq rfl, fun base _ _ => law_ok T⟩
end K55
open PySem PySem.W PyProof.Rows
set_option maxRecDepth 100000 in
set_option maxHeartbeats 0 in
theorem PySem.Challenge.cw_manysights_k55_ratios_whole_holds : PySem.Challenge.rw_manysights_k55_ratios_whole.Holds := by
  w_on; o_law; k_head; (case hw => w_witness2)
  k_fill
  refine L2.walk_of (l := PySem.Challenge.rw_manysights_k55_ratios_whole) (n := 63) (k := 4) (x := "_law_script") (CX := fun w => L2.CX PySem.Challenge.rw_manysights_k55_ratios_whole.prog w) (sp := fun w => K55.spLaw _) rfl (by decide) rfl ⟨rfl, by decide, by decide⟩ (fun w h Y => PySem.W.kIn_of Y) ?F (fun _ _ a ns hl _ hS => ⟨a, ns, rfl, hS, hl, fun _ => rfl⟩) (fun _ _ _ _ _ h => by
    obtain ⟨_, _, _, _, _, _, _, _, _, _, _, _, z⟩ := h
    exact z.elim)
  case F =>
    intro w mg fa h KX G hmg
    refine' K55.all_mk KX G hmg ?a1 ?l1 ?c1 ?k1 ?a2 ?l2 ?c2 ?k2 ?a3 ?l3 ?c3 ?k3 ?a4 ?l4 ?c4 ?k4 ?a5 ?l5 ?c5 ?k5 ?a6 ?l6 ?c6 ?k6 ?a7 ?l7 ?c7 ?k7 ?a8 ?l8 ?c8 ?k8 ?a9 ?l9 ?c9 ?k9 ?a10 ?l10 ?c10 ?k10 ?a11 ?l11 ?c11 ?k11 ?a12 ?l12 ?c12 ?k12 ?a13 ?l13 ?c13 ?k13 ?a14 ?l14 ?c14 ?k14 ?a15 ?l15 ?c15 ?k15 ?a16 ?l16 ?c16 ?k16 ?a17 ?l17 ?c17 ?k17 ?z_abs ?z_bool ?z_int ?z_isinstance ?z_len ?z_list ?z_range ?z_tuple ?l_gcd
    (case a1 => k_is)
    (case l1 => k_is)
    (case c1 => k_is)
    (case k1 => k_is)
    (case a2 => k_is)
    (case l2 => k_is)
    (case c2 => k_is)
    (case k2 => k_is)
    (case a3 => k_is)
    (case l3 => k_is)
    (case c3 => k_is)
    (case k3 => k_is)
    (case a4 => k_is)
    (case l4 => k_is)
    (case c4 => k_is)
    (case k4 => k_is)
    (case a5 => k_is)
    (case l5 => k_is)
    (case c5 => k_is)
    (case k5 => k_is)
    (case a6 => k_is)
    (case l6 => k_is)
    (case c6 => k_is)
    (case k6 => k_is)
    (case a7 => k_is)
    (case l7 => k_is)
    (case c7 => k_is)
    (case k7 => k_is)
    (case a8 => k_is)
    (case l8 => k_is)
    (case c8 => k_is)
    (case k8 => k_is)
    (case a9 => k_is)
    (case l9 => k_is)
    (case c9 => k_is)
    (case k9 => k_is)
    (case a10 => k_is)
    (case l10 => k_is)
    (case c10 => k_is)
    (case k10 => k_is)
    (case a11 => k_is)
    (case l11 => k_is)
    (case c11 => k_is)
    (case k11 => k_is)
    (case a12 => k_is)
    (case l12 => k_is)
    (case c12 => k_is)
    (case k12 => k_is)
    (case a13 => k_is)
    (case l13 => k_is)
    (case c13 => k_is)
    (case k13 => k_is)
    (case a14 => k_is)
    (case l14 => k_is)
    (case c14 => k_is)
    (case k14 => k_is)
    (case a15 => k_is)
    (case l15 => k_is)
    (case c15 => k_is)
    (case k15 => k_is)
    (case a16 => k_is)
    (case l16 => k_is)
    (case c16 => k_is)
    (case k16 => k_is)
    (case a17 => k_is)
    (case l17 => k_is)
    (case c17 => k_is)
    (case k17 => k_is)
    (case z_abs => k_is)
    (case z_bool => k_is)
    (case z_int => k_is)
    (case z_isinstance => k_is)
    (case z_len => k_is)
    (case z_list => k_is)
    (case z_range => k_is)
    (case z_tuple => k_is)
    (case l_gcd => k_is)

