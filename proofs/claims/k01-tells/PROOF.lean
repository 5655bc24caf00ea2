import PyProof.Rows.All
import Wide.All
import OpenK.AllK
import Wide.FinOn
import HandS.ForMost
import HandS.Wide
import HandS.Gcd
import HandS.IsInst
import HandS.Exc
import HandS.WordsExc
import HandS.ExcCtx
import HandS.Property
import HandS.ClsMeth
import HandS.Dict
import HandS.WordsDict
import HandS.TupLen
import HandS.ExcIs
import KE.KExcIs
import HandS.ExcInit
import HandS.ExcInitHot
import HandS.ExcField
import HandS.HotCalls
import KE.KDictZip
import HandS.Zip0
import HandS.Zip
import HandS.OwnIter
import HandS.Star
import KE.DatumOrd
import HandS.TupAny
import HandS.More
import PySem.Challenge.RW_manysights_k01_tells_restricted_crossed
set_option Elab.async false
set_option linter.all false
set_option maxRecDepth 100000
set_option maxHeartbeats 8000000
/-! Z: values without addresses; what a piece of Python does, told of such values alone. -/
namespace Z
open PySem PySem.Spec PyProof.Rows L2

/-- a value as data: what it is, not where it stands -/
inductive D where
  | non | bl (b : Bool) | int (i : Int) | str (x : Str) | ty (n : String) | gl (x : Str)
  | tup (l : List D) | lst (l : List D) | ins (C : Str) (fs : List (Str × D))
  | scr (l : List D)
  | dk (l : List (Key × D)) | dt (l : List (List Key × D))
  | err (C : Str) (fs : List (Str × D))
  /-- what is known by its place alone -/
  | ptr (a : Addr)

/-- the written part and what the module's names hold -/
structure Mg where
  K : PySem.W.Frag
  m : Str → Option Value
  /-- the caught exceptions -/
  pn : List (Addr × Obj)
abbrev gd (X : Cx) : Mg := ⟨X.K, X.mg, bif X.calm then [] else X.pn.take 1⟩

mutual
inductive Rep (mg : Mg) (S : Hp) : V → D → Prop
  | non : Rep mg S .non .non
  | bl (b : Bool) : Rep mg S (.bl b) (.bl b)
  | int (i : Int) : Rep mg S (.int i) (.int i)
  | str (x : Str) : Rep mg S (.str x) (.str x)
  | ty (n : String) : Rep mg S (.ty n) (.ty n)
  | gl {x : Str} {a : Addr} : mg.m x = some (.ref a) → Rep mg S (.ref a) (.gl x)
  | tup {a : Addr} {vs : List V} {ds : List D} : S a = some (.tup vs) → Reps mg S vs ds → Rep mg S (.ref a) (.tup ds)
  | lst {a : Addr} {vs : List V} {ds : List D} : Rd S a (.lst vs) → Reps mg S vs ds → Rep mg S (.ref a) (.lst ds)
  | ins {a c dx : Addr} {gs : List (Str × V)} {C : Str} {fs : List (Str × D)} : mg.m C = some (.ref c) → S a = some (.ins c dx gs) → RepF mg S gs fs → Rep mg S (.ref a) (.ins C fs)
  | scr {a : Addr} {vs : List V} {ds : List D} : SqL mg.K S a vs → Reps mg S vs ds → Rep mg S (.ref a) (.scr ds)
  | dk {a : Addr} {gs : List (Key × V)} {fs : List (Key × D)} : Rd S a (.dK gs) → RepF mg S gs fs → Rep mg S (.ref a) (.dk fs)
  | dt {a : Addr} {gs : List (List Key × V)} {fs : List (List Key × D)} : S a = some (.dT gs) → RepF mg S gs fs → Rep mg S (.ref a) (.dt fs)
  | err0 {a c : Addr} {oe : Obj} {C : Str} : (a, oe) ∈ mg.pn → mg.m C = some (.ref c) → oe.cls = .ref c → oe.dict = none → (∃ vs, oe.data = .fields vs) → Rep mg S (.ref a) (.err C [])
  | err1 {a c dd : Addr} {oe : Obj} {C : Str} {gs : List (Str × V)} {fs : List (Str × D)} : (a, oe) ∈ mg.pn → mg.m C = some (.ref c) → oe.cls = .ref c → oe.dict = some dd → (∃ vs, oe.data = .fields vs) → S dd = some (.xd gs) → RepF mg S gs fs → Rep mg S (.ref a) (.err C fs)
  | ptr (a : Addr) : Rep mg S (.ref a) (.ptr a)
inductive Reps (mg : Mg) (S : Hp) : List V → List D → Prop
  | nil : Reps mg S [] []
  | cons {v : V} {vs : List V} {d : D} {ds : List D} : Rep mg S v d → Reps mg S vs ds → Reps mg S (v :: vs) (d :: ds)
inductive RepF (mg : Mg) (S : Hp) : {κ : Type} → List (κ × V) → List (κ × D) → Prop
  | nil {κ : Type} : RepF mg S (κ := κ) [] []
  | cons {κ : Type} {f : κ} {v : V} {d : D} {gs : List (κ × V)} {fs : List (κ × D)} : Rep mg S v d → RepF mg S gs fs → RepF mg S ((f, v) :: gs) ((f, d) :: fs)
end

theorem rd_mono {S S' : Hp} {a : Addr} {u : HO} (e : Same S S') (h : Rd S a u) : Rd S' a u := by
  rcases h with h | ⟨o, h⟩
  · exact .inl (e _ _ h)
  · exact .inr ⟨o, e _ _ h⟩

theorem sq_mono {K : PySem.W.Frag} {S S' : Hp} {a : Addr} {xs : List V} (e : Same S S') (h : SqL K S a xs) : SqL K S' a xs := by
  rcases h with h | h
  · exact .inl (rd_mono e h)
  · exact .inr h
mutual
theorem Rep.mono {mg : Mg} {S S' : Hp} (e : Same S S') : ∀ {v : V} {d : D}, Rep mg S v d → Rep mg S' v d
  | _, _, .non => .non
  | _, _, .bl b => .bl b
  | _, _, .int i => .int i
  | _, _, .str x => .str x
  | _, _, .ty n => .ty n
  | _, _, .gl h => .gl h
  | _, _, .tup h r => .tup (e _ _ h) (Reps.mono e r)
  | _, _, .lst h r => .lst (rd_mono e h) (Reps.mono e r)
  | _, _, .ins hC h r => .ins hC (e _ _ h) (RepF.mono e r)
  | _, _, .scr h r => .scr (sq_mono e h) (Reps.mono e r)
  | _, _, .dk h r => .dk (rd_mono e h) (RepF.mono e r)
  | _, _, .dt h r => .dt (e _ _ h) (RepF.mono e r)
  | _, _, .err0 a b c d f => .err0 a b c d f
  | _, _, .err1 a b c d f g h => .err1 a b c d f (e _ _ g) (RepF.mono e h)
  | _, _, .ptr a => .ptr a
theorem Reps.mono {mg : Mg} {S S' : Hp} (e : Same S S') : ∀ {vs : List V} {ds : List D}, Reps mg S vs ds → Reps mg S' vs ds
  | _, _, .nil => .nil
  | _, _, .cons h r => .cons (Rep.mono e h) (Reps.mono e r)
theorem RepF.mono {mg : Mg} {S S' : Hp} (e : Same S S') : ∀ {κ : Type} {gs : List (κ × V)} {fs : List (κ × D)}, RepF mg S gs fs → RepF mg S' gs fs
  | _, _, _, .nil => .nil
  | _, _, _, .cons h r => .cons (Rep.mono e h) (RepF.mono e r)
end

mutual
/-- more caught exceptions -/
theorem Rep.pins {mg mg' : Mg} {S : Hp} (eK : mg'.K = mg.K) (em : mg'.m = mg.m) (e : ∀ p ∈ mg.pn, p ∈ mg'.pn) : ∀ {v : V} {d : D}, Rep mg S v d → Rep mg' S v d
  | _, _, .non => .non
  | _, _, .bl b => .bl b
  | _, _, .int i => .int i
  | _, _, .str x => .str x
  | _, _, .ty n => .ty n
  | _, _, .gl h => .gl (em ▸ h)
  | _, _, .tup h r => .tup h (Reps.pins eK em e r)
  | _, _, .lst h r => .lst h (Reps.pins eK em e r)
  | _, _, .ins hC h r => .ins (em ▸ hC) h (RepF.pins eK em e r)
  | _, _, .scr h r => .scr (eK ▸ h) (Reps.pins eK em e r)
  | _, _, .dk h r => .dk h (RepF.pins eK em e r)
  | _, _, .dt h r => .dt h (RepF.pins eK em e r)
  | _, _, .err0 a b c d f => .err0 (e _ a) (em ▸ b) c d f
  | _, _, .err1 a b c d f g h => .err1 (e _ a) (em ▸ b) c d f g (RepF.pins eK em e h)
  | _, _, .ptr a => .ptr a
theorem Reps.pins {mg mg' : Mg} {S : Hp} (eK : mg'.K = mg.K) (em : mg'.m = mg.m) (e : ∀ p ∈ mg.pn, p ∈ mg'.pn) : ∀ {vs : List V} {ds : List D}, Reps mg S vs ds → Reps mg' S vs ds
  | _, _, .nil => .nil
  | _, _, .cons h r => .cons (Rep.pins eK em e h) (Reps.pins eK em e r)
theorem RepF.pins {mg mg' : Mg} {S : Hp} (eK : mg'.K = mg.K) (em : mg'.m = mg.m) (e : ∀ p ∈ mg.pn, p ∈ mg'.pn) : ∀ {κ : Type} {gs : List (κ × V)} {fs : List (κ × D)}, RepF mg S gs fs → RepF mg' S gs fs
  | _, _, _, .nil => .nil
  | _, _, _, .cons h r => .cons (Rep.pins eK em e h) (RepF.pins eK em e r)
end
/-- no caught exception in it -/
inductive NoErr : D → Prop where
  | non : NoErr .non
  | bl (b : Bool) : NoErr (.bl b)
  | int (i : Int) : NoErr (.int i)
  | str (x : Str) : NoErr (.str x)
  | ty (n : String) : NoErr (.ty n)
  | gl (x : Str) : NoErr (.gl x)
  | tup {l : List D} : (∀ d ∈ l, NoErr d) → NoErr (.tup l)
  | lst {l : List D} : (∀ d ∈ l, NoErr d) → NoErr (.lst l)
  | scr {l : List D} : (∀ d ∈ l, NoErr d) → NoErr (.scr l)
  | ins {C : Str} {fs : List (Str × D)} : (∀ p ∈ fs, NoErr p.2) → NoErr (.ins C fs)
  | dk {fs : List (Key × D)} : (∀ p ∈ fs, NoErr p.2) → NoErr (.dk fs)
  | dt {fs : List (List Key × D)} : (∀ p ∈ fs, NoErr p.2) → NoErr (.dt fs)
  | ptr (a : Addr) : NoErr (.ptr a)
mutual
theorem Rep.unpin {mg mg' : Mg} {S : Hp} (eK : mg'.K = mg.K) (em : mg'.m = mg.m) : ∀ {v : V} {d : D}, Rep mg S v d → NoErr d → Rep mg' S v d
  | _, _, .non, _ => .non
  | _, _, .bl b, _ => .bl b
  | _, _, .int i, _ => .int i
  | _, _, .str x, _ => .str x
  | _, _, .ty n, _ => .ty n
  | _, _, .gl h, _ => .gl (em ▸ h)
  | _, _, .tup h r, .tup n => .tup h (Reps.unpin eK em r n)
  | _, _, .lst h r, .lst n => .lst h (Reps.unpin eK em r n)
  | _, _, .ins hC h r, .ins n => .ins (em ▸ hC) h (RepF.unpin eK em r n)
  | _, _, .scr h r, .scr n => .scr (eK ▸ h) (Reps.unpin eK em r n)
  | _, _, .dk h r, .dk n => .dk h (RepF.unpin eK em r n)
  | _, _, .dt h r, .dt n => .dt h (RepF.unpin eK em r n)
  | _, _, .err0 _ _ _ _ _, n => nomatch n
  | _, _, .err1 _ _ _ _ _ _ _, n => nomatch n
  | _, _, .ptr a, _ => .ptr a
theorem Reps.unpin {mg mg' : Mg} {S : Hp} (eK : mg'.K = mg.K) (em : mg'.m = mg.m) : ∀ {vs : List V} {ds : List D}, Reps mg S vs ds → (∀ d ∈ ds, NoErr d) → Reps mg' S vs ds
  | _, _, .nil, _ => .nil
  | _, _, .cons h r, n => .cons (Rep.unpin eK em h (n _ List.mem_cons_self)) (Reps.unpin eK em r fun d hd => n d (List.mem_cons_of_mem _ hd))
theorem RepF.unpin {mg mg' : Mg} {S : Hp} (eK : mg'.K = mg.K) (em : mg'.m = mg.m) : ∀ {κ : Type} {gs : List (κ × V)} {fs : List (κ × D)}, RepF mg S gs fs → (∀ p ∈ fs, NoErr p.2) → RepF mg' S gs fs
  | _, _, _, .nil, _ => .nil
  | _, _, _, .cons h r, n => .cons (Rep.unpin eK em h (n _ List.mem_cons_self)) (RepF.unpin eK em r fun d hd => n d (List.mem_cons_of_mem _ hd))
end
section
variable {mg : Mg} {S S' H : Hp}
theorem Reps.length : ∀ {vs : List V} {ds : List D}, Reps mg S vs ds → vs.length = ds.length
  | _, _, .nil => rfl
  | _, _, .cons _ r => congrArg (· + 1) (Reps.length r)
theorem Reps.get : ∀ {vs : List V} {ds : List D}, Reps mg S vs ds → ∀ {i : Nat} {d : D}, ds[i]? = some d → ∃ v, vs[i]? = some v ∧ Rep mg S v d
  | _, _, .nil, i, d, h => by simp at h
  | _, _, .cons h r, 0, d, e => by
    simp at e; subst e; exact ⟨_, rfl, h⟩
  | _, _, .cons h r, i + 1, d, e => by
    simp only [List.getElem?_cons_succ] at e ⊢
    exact Reps.get r e
theorem Reps.get' : ∀ {vs : List V} {ds : List D}, Reps mg S vs ds → ∀ {i : Nat} {v : V}, vs[i]? = some v → ∃ d, ds[i]? = some d ∧ Rep mg S v d
  | _, _, .nil, i, d, h => by simp at h
  | _, _, .cons h r, 0, d, e => by
    simp at e; subst e; exact ⟨_, rfl, h⟩
  | _, _, .cons h r, i + 1, d, e => by
    simp only [List.getElem?_cons_succ] at e ⊢
    exact Reps.get' r e
theorem Reps.append : ∀ {vs ws : List V} {ds es : List D}, Reps mg S vs ds → Reps mg S ws es → Reps mg S (vs ++ ws) (ds ++ es)
  | _, _, _, _, .nil, r => r
  | _, _, _, _, .cons h r, s => .cons h (Reps.append r s)
theorem Reps.one {v : V} {d : D} (h : Rep mg S v d) : Reps mg S [v] [d] := .cons h .nil
theorem Reps.set {v : V} {d : D} (h : Rep mg S v d) : ∀ {vs : List V} {ds : List D} (i : Nat), Reps mg S vs ds → Reps mg S (vs.set i v) (ds.set i d)
  | _, _, _, .nil => .nil
  | _, _, 0, .cons _ r => .cons h r
  | _, _, i + 1, .cons q r => .cons q (Reps.set h i r)
theorem Reps.drop : ∀ {vs : List V} {ds : List D} (i : Nat), Reps mg S vs ds → Reps mg S (vs.drop i) (ds.drop i)
  | _, _, 0, r => r
  | _, _, i + 1, .nil => .nil
  | _, _, i + 1, .cons _ r => Reps.drop i r
theorem Reps.take : ∀ {vs : List V} {ds : List D} (i : Nat), Reps mg S vs ds → Reps mg S (vs.take i) (ds.take i)
  | _, _, 0, r => .nil
  | _, _, i + 1, .nil => .nil
  | _, _, i + 1, .cons h r => .cons h (Reps.take i r)
theorem Reps.ints : ∀ ns : List Int, Reps mg S (ns.map V.int) (ns.map D.int)
  | [] => .nil
  | _ :: r => .cons (.int _) (Reps.ints r)
theorem Reps.ints_inv : ∀ {vs : List V} {ns : List Int}, Reps mg S vs (ns.map D.int) → vs = ns.map V.int
  | _, [], h => by cases h; rfl
  | _, n :: r, h => by
    cases h with
    | cons h t => cases h; rw [Reps.ints_inv t]; rfl
theorem Reps.bls_inv : ∀ {vs : List V} {bs : List Bool}, Reps mg S vs (bs.map D.bl) → vs = bs.map V.bl
  | _, [], h => by cases h; rfl
  | _, n :: r, h => by
    cases h with
    | cons h t => cases h; rw [Reps.bls_inv t]; rfl
theorem Reps.strs_inv : ∀ {vs : List V} {bs : List Str}, Reps mg S vs (bs.map D.str) → vs = bs.map V.str
  | _, [], h => by cases h; rfl
  | _, n :: r, h => by
    cases h with
    | cons h t => cases h; rw [Reps.strs_inv t]; rfl
theorem RepF.lookup {f : Str} : ∀ {gs : List (Str × V)} {fs : List (Str × D)}, RepF mg S gs fs → ∀ {d : D}, fs.lookup f = some d → ∃ v, gs.lookup f = some v ∧ Rep mg S v d
  | _, _, .nil, d, h => by simp at h
  | _, _, .cons (f := g) (v := v) (d := d') h r, d, e => by
    by_cases q : f = g
    · subst q
      simp [List.lookup] at e ⊢
      subst e; exact h
    · have q' : (f == g) = false := by simpa using q
      simp only [List.lookup, q'] at e ⊢
      exact RepF.lookup r e
theorem RepF.lookup_none {f : Str} : ∀ {gs : List (Str × V)} {fs : List (Str × D)}, RepF mg S gs fs → fs.lookup f = none → gs.lookup f = none
  | _, _, .nil, h => rfl
  | _, _, .cons (f := g) h r, e => by
    by_cases q : f = g
    · subst q
      simp [List.lookup] at e
    · have q' : (f == g) = false := by simpa using q
      simp only [List.lookup, q'] at e ⊢
      exact RepF.lookup_none r e
theorem RepF.length : ∀ {κ : Type} {gs : List (κ × V)} {fs : List (κ × D)}, RepF mg S gs fs → gs.length = fs.length
  | _, _, _, .nil => rfl
  | _, _, _, .cons _ r => congrArg (· + 1) (RepF.length r)
/-- tables by keys -/
def lkD {κ α : Type} [DecidableEq κ] (l : List (κ × α)) (k : κ) : Option α := (l.find? fun kv => decide (kv.1 = k)).map (·.2)
def putKD {κ α : Type} [DecidableEq κ] (kvs : List (κ × α)) (k : κ) (v : α) : List (κ × α) :=
  if (kvs.any fun kv => decide (kv.1 = k)) = true then kvs.map (fun kv => if kv.1 = k then (kv.1, v) else kv) else kvs ++ [(k, v)]
theorem lkD_nil {κ α : Type} [DecidableEq κ] {k : κ} : lkD ([] : List (κ × α)) k = none := rfl
theorem lkD_pos {κ α : Type} [DecidableEq κ] {p : κ × α} {r : List (κ × α)} {k : κ} (e : p.1 = k) : lkD (p :: r) k = some p.2 := by simp [lkD, List.find?_cons, e]
theorem lkD_neg {κ α : Type} [DecidableEq κ] {p : κ × α} {r : List (κ × α)} {k : κ} (e : ¬ p.1 = k) : lkD (p :: r) k = lkD r k := by simp [lkD, List.find?_cons, e]
theorem RepF.val {κ : Type} [DecidableEq κ] {k : κ} : ∀ {gs : List (κ × V)} {fs : List (κ × D)}, RepF mg S gs fs → ∀ {d : D}, lkD fs k = some d → ∃ v, lkD gs k = some v ∧ Rep mg S v d
  | _, _, .nil, d, h => by cases h
  | _, _, .cons (f := g) h r, d, e => by
    by_cases q : g = k
    · rw [lkD_pos q] at e ⊢
      cases e; exact ⟨_, rfl, h⟩
    · rw [lkD_neg q] at e ⊢
      exact RepF.val r e
theorem RepF.val_none {κ : Type} [DecidableEq κ] {k : κ} : ∀ {gs : List (κ × V)} {fs : List (κ × D)}, RepF mg S gs fs → (lkD gs k).isSome = (lkD fs k).isSome
  | _, _, .nil => rfl
  | _, _, .cons (f := g) h r => by
    by_cases q : g = k
    · rw [lkD_pos q, lkD_pos q]; rfl
    · rw [lkD_neg q, lkD_neg q]
      exact RepF.val_none r
theorem RepF.anyK {κ : Type} [DecidableEq κ] {k : κ} : ∀ {gs : List (κ × V)} {fs : List (κ × D)}, RepF mg S gs fs → (gs.any fun kv => decide (kv.1 = k)) = (fs.any fun kv => decide (kv.1 = k))
  | _, _, .nil => rfl
  | _, _, .cons h r => by rw [List.any_cons, List.any_cons, RepF.anyK r]
theorem RepF.repl {κ : Type} [DecidableEq κ] {k : κ} {v : V} {d : D} (h : Rep mg S v d) : ∀ {gs : List (κ × V)} {fs : List (κ × D)}, RepF mg S gs fs →
    RepF mg S (gs.map fun kv => if kv.1 = k then (kv.1, v) else kv) (fs.map fun kv => if kv.1 = k then (kv.1, d) else kv)
  | _, _, .nil => .nil
  | _, _, .cons (f := g) q r => by
    rw [List.map_cons, List.map_cons]
    by_cases c : g = k
    · rw [if_pos c, if_pos c]; exact .cons h (RepF.repl h r)
    · rw [if_neg c, if_neg c]; exact .cons q (RepF.repl h r)
theorem RepF.snoc {κ : Type} {k : κ} {v : V} {d : D} (h : Rep mg S v d) : ∀ {gs : List (κ × V)} {fs : List (κ × D)}, RepF mg S gs fs → RepF mg S (gs ++ [(k, v)]) (fs ++ [(k, d)])
  | _, _, .nil => .cons h .nil
  | _, _, .cons q r => .cons q (RepF.snoc h r)
theorem RepF.putK {κ : Type} [DecidableEq κ] {k : κ} {v : V} {d : D} (h : Rep mg S v d) {gs : List (κ × V)} {fs : List (κ × D)} (r : RepF mg S gs fs) : RepF mg S (putKD gs k v) (putKD fs k d) := by
  unfold putKD
  rw [r.anyK]
  by_cases c : (fs.any fun kv => decide (kv.1 = k)) = true
  · rw [if_pos c, if_pos c]; exact r.repl h
  · rw [if_neg c, if_neg c]; exact r.snoc h
/-- a field is stored -/
def putD (f : Str) (d : D) : List (Str × D) → List (Str × D)
  | [] => [(f, d)]
  | (g, x) :: r => if g = f then (g, d) :: r else (g, x) :: putD f d r
theorem RepF.put {f : Str} {v : V} {d : D} (h : Rep mg S v d) : ∀ {gs : List (Str × V)} {fs : List (Str × D)}, RepF mg S gs fs → RepF mg S (putF f v gs) (putD f d fs)
  | _, _, .nil => .cons h .nil
  | _, _, .cons (f := g) q r => by
    unfold putF putD
    by_cases e : g = f
    · rw [if_pos e, if_pos e]; exact .cons h r
    · rw [if_neg e, if_neg e]; exact .cons q (RepF.put h r)
end

/-! ### how the heap moves: S, what is never changed any more (known by its content), within H, all that is known -/
structure Wd (S0 H0 S H : Hp) : Prop where
  hh : Same H0 H
  ss : Same S0 S
  sh : Same S H
  nw : ∀ p, S0 p = none → H0 p ≠ none → S p = none
theorem Wd.refl {S H : Hp} (h : Same S H) : Wd S H S H := ⟨Same.refl _, Same.refl _, h, fun _ h _ => h⟩
theorem Same.ne {H H' : Hp} (e : Same H H') {p : Addr} (h : H p ≠ none) : H' p ≠ none := by
  cases q : H p with
  | none => exact absurd q h
  | some o => rw [e p o q]; intro z; cases z
theorem Wd.trans {S0 H0 S H S' H' : Hp} (a : Wd S0 H0 S H) (b : Wd S H S' H') : Wd S0 H0 S' H' :=
  ⟨a.hh.trans b.hh, a.ss.trans b.ss, b.sh, fun p h1 h2 => b.nw p (a.nw p h1 h2) (Same.ne a.hh h2)⟩
/-- a new object that is never changed -/
theorem Wd.new {S0 H0 S H : Hp} (a : Wd S0 H0 S H) {p : Addr} (hp : H p = none) (o : HO) : Wd S0 H0 (upd S p o) (upd H p o) where
  hh := fun q u e => by
    have h2 := a.hh q u e
    rw [upd_ne (ne_of_none h2 hp)]; exact h2
  ss := fun q u e => by
    have h2 := a.sh q u (a.ss q u e)
    rw [upd_ne (ne_of_none h2 hp)]; exact a.ss q u e
  sh := fun q u e => by
    by_cases c : q = p
    · subst c; rw [upd_same] at e ⊢; exact e
    · rw [upd_ne c] at e ⊢; exact a.sh q u e
  nw := fun q h1 h2 => by
    have c : q ≠ p := fun z => by
      subst z
      exact Same.ne a.hh h2 hp
    rw [upd_ne c]; exact a.nw q h1 h2
/-- an object that was made since is never changed any more -/
theorem Wd.frz {S0 H0 S H : Hp} (a : Wd S0 H0 S H) {p : Addr} {o : HO} (h0 : H0 p = none) (hp : H p = some o) (hs : S p = none) : Wd S0 H0 (upd S p o) H where
  hh := a.hh
  ss := fun q u e => by
    have c : q ≠ p := fun z => by subst z; rw [a.ss _ u e] at hs; cases hs
    rw [upd_ne c]; exact a.ss q u e
  sh := fun q u e => by
    by_cases c : q = p
    · subst c; rw [upd_same] at e; rw [hp]; exact e
    · rw [upd_ne c] at e; exact a.sh q u e
  nw := fun q h1 h2 => by
    have c : q ≠ p := fun z => by subst z; exact h2 h0
    rw [upd_ne c]; exact a.nw q h1 h2
/-- S with more that is changed no more -/
def frzS (S H : Hp) (F : List Addr) : Hp := fun p => if p ∈ F then H p else S p
theorem frzS_in {S H : Hp} {F : List Addr} {p : Addr} (h : p ∈ F) : frzS S H F p = H p := if_pos h
theorem frzS_out {S H : Hp} {F : List Addr} {p : Addr} (h : p ∉ F) : frzS S H F p = S p := if_neg h
theorem frzS_ss {S H : Hp} {F : List Addr} (h : ∀ p ∈ F, S p = none) : Same S (frzS S H F) := fun q o e => by
  rw [frzS_out fun z => by rw [h q z] at e; cases e]; exact e
theorem Wd.frzs {S0 H0 S H : Hp} (a : Wd S0 H0 S H) {F : List Addr} (h : ∀ p ∈ F, H0 p = none ∧ S p = none) : Wd S0 H0 (frzS S H F) H where
  hh := a.hh
  ss := a.ss.trans (frzS_ss fun p hp => (h p hp).2)
  sh := fun q u e => by
    by_cases c : q ∈ F
    · rw [frzS_in c] at e; exact e
    · rw [frzS_out c] at e; exact a.sh q u e
  nw := fun q h1 h2 => by
    rw [frzS_out fun z => h2 (h q z).1]; exact a.nw q h1 h2
/-- an object of our own is changed -/
theorem Wd.mut {S0 H0 S H : Hp} (a : Wd S0 H0 S H) {p : Addr} (o : HO) (h0 : H0 p = none) (hs : S p = none) : Wd S0 H0 S (upd H p o) where
  hh := fun q u e => by
    rw [upd_ne (ne_of_none e h0)]; exact a.hh q u e
  ss := a.ss
  sh := fun q u e => by
    rw [upd_ne (ne_of_none e hs)]; exact a.sh q u e
  nw := a.nw
theorem Wd.free {S0 H0 S H : Hp} (a : Wd S0 H0 S H) {p : Addr} (h : H p = none) : H0 p = none := Same.free a.hh h
theorem Wd.sfree {S0 H0 S H : Hp} (a : Wd S0 H0 S H) {p : Addr} (h : H p = none) : S p = none := Same.free a.sh h

/-! ### slots -/
/-- an object among those of one's own graph -/
inductive Os where
  | lst (l : List D)
  | dk (l : List (Key × D)) | dt (l : List (List Key × D))
/-- an object of this def's own that may still be changed -/
inductive Ow where
  | lst (l : List D)
  | ins (a : Addr) (C : Str) (fs : List (Str × D))
  | dk (l : List (Key × D)) | dt (l : List (List Key × D))
  /-- the objects of a graph by their places; g the first one -/
  | nst (g : Addr) (T : List (Addr × Os))
inductive Sl where
  | em
  | val (d : D)
  | own (o : Ow)
abbrev En := List Sl
def OsAt (mg : Mg) (S H : Hp) (a : Addr) : Os → Prop
  | .lst l => ∃ vs, H a = some (.lst vs) ∧ Reps mg S vs l
  | .dk l => ∃ gs, H a = some (.dK gs) ∧ RepF mg S gs l
  | .dt l => ∃ gs, H a = some (.dT gs) ∧ RepF mg S gs l
def OwAt (mg : Mg) (S H : Hp) (a : Addr) : Ow → Prop
  | .lst l => ∃ vs, H a = some (.lst vs) ∧ Reps mg S vs l
  | .ins a0 C fs => a = a0 ∧ ∃ c dx gs, mg.m C = some (.ref c) ∧ H a = some (.ins c dx gs) ∧ RepF mg S gs fs
  | .dk l => ∃ gs, H a = some (.dK gs) ∧ RepF mg S gs l
  | .dt l => ∃ gs, H a = some (.dT gs) ∧ RepF mg S gs l
  | .nst g T => a = g ∧ g ∈ T.map (·.1) ∧ (T.map (·.1)).Nodup ∧ ∀ p ∈ T, OsAt mg S H p.1 p.2
/-- where it stands -/
def fpx (a : Addr) : Ow → List Addr
  | .nst _ T => T.map (·.1)
  | _ => [a]
theorem OsAt.mono {mg : Mg} {S S' H H' : Hp} {a : Addr} {o : Os} (hs : Same S S') (hh : ∀ u, H a = some u → H' a = some u) (h : OsAt mg S H a o) : OsAt mg S' H' a o := by
  cases o with
  | lst l => obtain ⟨vs, e, r⟩ := h; exact ⟨vs, hh _ e, r.mono hs⟩
  | dk l => obtain ⟨vs, e, r⟩ := h; exact ⟨vs, hh _ e, r.mono hs⟩
  | dt l => obtain ⟨vs, e, r⟩ := h; exact ⟨vs, hh _ e, r.mono hs⟩
theorem OsAt.there {mg : Mg} {S H : Hp} {a : Addr} {o : Os} (h : OsAt mg S H a o) : H a ≠ none := by
  cases o with
  | lst l => obtain ⟨vs, e, r⟩ := h; rw [e]; intro z; cases z
  | dk l => obtain ⟨vs, e, r⟩ := h; rw [e]; intro z; cases z
  | dt l => obtain ⟨vs, e, r⟩ := h; rw [e]; intro z; cases z
theorem OwAt.mono {mg : Mg} {S S' H H' : Hp} {a : Addr} {o : Ow} (hs : Same S S') (hh : ∀ p ∈ fpx a o, ∀ u, H p = some u → H' p = some u) (h : OwAt mg S H a o) : OwAt mg S' H' a o := by
  cases o with
  | lst l => obtain ⟨vs, e, r⟩ := h; exact ⟨vs, hh a List.mem_cons_self _ e, r.mono hs⟩
  | ins a0 C fs => obtain ⟨z, c, dx, gs, q, e, r⟩ := h; exact ⟨z, c, dx, gs, q, hh a List.mem_cons_self _ e, r.mono hs⟩
  | dk l => obtain ⟨vs, e, r⟩ := h; exact ⟨vs, hh a List.mem_cons_self _ e, r.mono hs⟩
  | dt l => obtain ⟨vs, e, r⟩ := h; exact ⟨vs, hh a List.mem_cons_self _ e, r.mono hs⟩
  | nst g T => obtain ⟨z, h1, h2, h3⟩ := h; exact ⟨z, h1, h2, fun p hp => (h3 p hp).mono hs (hh p.1 (List.mem_map_of_mem hp))⟩
theorem OwAt.there {mg : Mg} {S H : Hp} {a : Addr} {o : Ow} (h : OwAt mg S H a o) : ∀ p ∈ fpx a o, H p ≠ none := by
  intro p hp
  cases o with
  | lst l => obtain ⟨vs, e, r⟩ := h; rw [List.mem_singleton.mp hp, e]; intro z; cases z
  | ins a0 C fs => obtain ⟨z, c, dx, gs, q, e, r⟩ := h; rw [List.mem_singleton.mp hp, e]; intro z; cases z
  | dk l => obtain ⟨vs, e, r⟩ := h; rw [List.mem_singleton.mp hp, e]; intro z; cases z
  | dt l => obtain ⟨vs, e, r⟩ := h; rw [List.mem_singleton.mp hp, e]; intro z; cases z
  | nst g T =>
    obtain ⟨z, h1, h2, h3⟩ := h
    obtain ⟨x, hx, e⟩ := List.mem_map.mp hp
    rw [← e]; exact (h3 x hx).there
theorem OwAt.self {mg : Mg} {S H : Hp} {a : Addr} {o : Ow} (h : OwAt mg S H a o) : a ∈ fpx a o := by
  cases o with
  | nst g T => obtain ⟨z, h1, h2, h3⟩ := h; rw [z]; exact h1
  | _ => exact List.mem_cons_self

/-- what stands: S0, H0 at the entry; S, H now; the slots σ; ρ, what is known of them -/
structure RE (mg : Mg) (S0 H0 S H : Hp) (σ : L2.St) (ρ : En) : Prop where
  wd : Wd S0 H0 S H
  len : ρ.length = σ.length
  val : ∀ (i : Nat) (d : D), ρ[i]? = some (.val d) → ∃ v, σ[i]? = some (some v) ∧ Rep mg S v d
  own : ∃ A : Nat → Addr, (∀ (i : Nat) (o : Ow), ρ[i]? = some (.own o) → σ[i]? = some (some (.ref (A i))) ∧ (∀ p ∈ fpx (A i) o, H0 p = none ∧ S p = none) ∧ OwAt mg S H (A i) o) ∧
    ∀ (i j : Nat) (o o' : Ow), ρ[i]? = some (.own o) → ρ[j]? = some (.own o') → i ≠ j → ∀ p ∈ fpx (A i) o, p ∉ fpx (A j) o'
section
variable {mg : Mg} {S0 H0 S H S' H' : Hp} {σ : L2.St} {ρ : En}
theorem RE.grow (R : RE mg S0 H0 S H σ ρ) (w : Wd S H S' H') : RE mg S0 H0 S' H' σ ρ where
  wd := R.wd.trans w
  len := R.len
  val := fun i d e => by
    obtain ⟨v, h1, h2⟩ := R.val i d e
    exact ⟨v, h1, h2.mono w.ss⟩
  own := by
    obtain ⟨A, h1, h2⟩ := R.own
    refine ⟨A, fun i o e => ?_, h2⟩
    obtain ⟨a, b, d⟩ := h1 i o e
    exact ⟨a, fun p hp => ⟨(b p hp).1, w.nw _ (b p hp).2 (d.there p hp)⟩, d.mono w.ss fun p _ => w.hh _⟩
theorem RE.set (R : RE mg S0 H0 S H σ ρ) {i : Nat} {v : V} {d : D} (h : Rep mg S v d) : RE mg S0 H0 S H (σ.set i (some v)) (ρ.set i (.val d)) where
  wd := R.wd
  len := by simpa using R.len
  val := fun j e hj => by
    by_cases c : i = j
    · subst c
      by_cases hi : i < ρ.length
      · rw [List.getElem?_set_self hi] at hj
        have hi' : i < σ.length := by rw [← R.len]; exact hi
        rw [List.getElem?_set_self hi']
        cases hj
        exact ⟨v, rfl, h⟩
      · rw [List.getElem?_eq_none (by simpa using hi)] at hj; cases hj
    · rw [List.getElem?_set_ne c] at hj ⊢
      exact R.val j e hj
  own := by
    obtain ⟨A, h1, h2⟩ := R.own
    have old : ∀ (j : Nat) (o : Ow), (ρ.set i (.val d))[j]? = some (.own o) → i ≠ j ∧ ρ[j]? = some (.own o) := fun j o hj => by
      by_cases c : i = j
      · subst c
        by_cases hi : i < ρ.length
        · rw [List.getElem?_set_self hi] at hj; cases hj
        · rw [List.getElem?_eq_none (by simpa using hi)] at hj; cases hj
      · rw [List.getElem?_set_ne c] at hj; exact ⟨c, hj⟩
    refine ⟨A, fun j o hj => ?_, fun j k o o' hj hk => h2 j k o o' (old j o hj).2 (old k o' hk).2⟩
    obtain ⟨c, hj⟩ := old j o hj
    rw [List.getElem?_set_ne c]
    exact h1 j o hj
/-- new objects of our own come into slot i -/
theorem RE.setOwnF (R : RE mg S0 H0 S H σ ρ) {i : Nat} {p : Addr} {o : Ow} (w : Wd S H S' H') (hp : ∀ q ∈ fpx p o, H q = none ∧ S' q = none) (h : OwAt mg S' H' p o) :
    RE mg S0 H0 S' H' (σ.set i (some (.ref p))) (ρ.set i (.own o)) := by
  have R' := R.grow w
  obtain ⟨B, g1, g2⟩ := R.own
  have h1 : ∀ (j : Nat) (o : Ow), ρ[j]? = some (.own o) → σ[j]? = some (some (.ref (B j))) ∧ (∀ p ∈ fpx (B j) o, H0 p = none ∧ S' p = none) ∧ OwAt mg S' H' (B j) o := fun j o e => by
    obtain ⟨a, b, d⟩ := g1 j o e
    exact ⟨a, fun p hp => ⟨(b p hp).1, w.nw _ (b p hp).2 (d.there p hp)⟩, d.mono w.ss fun p _ => w.hh _⟩
  have hne : ∀ (j : Nat) (o' : Ow), ρ[j]? = some (.own o') → ∀ q ∈ fpx (B j) o', q ∉ fpx p o := fun j o' hj q hq z => by
    obtain ⟨_, _, e4⟩ := g1 j o' hj
    exact e4.there q hq (hp q z).1
  refine ⟨R'.wd, by simpa using R.len, fun j d hj => ?_, fun j => if j = i then p else B j, fun j o' hj => ?_, fun j k o1 o2 hj hk hjk => ?_⟩
  · by_cases c : i = j
    · subst c
      by_cases hi : i < ρ.length
      · rw [List.getElem?_set_self hi] at hj; cases hj
      · rw [List.getElem?_eq_none (by simpa using hi)] at hj; cases hj
    · rw [List.getElem?_set_ne c] at hj ⊢
      exact R'.val j d hj
  · by_cases c : i = j
    · subst c
      by_cases hi : i < ρ.length
      · rw [List.getElem?_set_self hi] at hj
        have hi' : i < σ.length := by rw [← R.len]; exact hi
        rw [List.getElem?_set_self hi']
        cases hj
        dsimp only
        rw [if_pos rfl]
        exact ⟨rfl, fun q hq => ⟨R.wd.free (hp q hq).1, (hp q hq).2⟩, h⟩
      · rw [List.getElem?_eq_none (by simpa using hi)] at hj; cases hj
    · rw [List.getElem?_set_ne c] at hj ⊢
      dsimp only
      rw [if_neg (Ne.symm c)]
      exact h1 j o' hj
  · dsimp only
    by_cases cj : i = j
    · subst cj
      rw [if_pos rfl, if_neg (Ne.symm hjk)]
      rw [List.getElem?_set_ne hjk] at hk
      have hi : i < ρ.length := by
        have := (List.getElem?_eq_some_iff.mp hj).1
        simpa using this
      rw [List.getElem?_set_self hi] at hj
      cases hj
      exact fun q hq z => hne k o2 hk q z hq
    · rw [if_neg (Ne.symm cj)]
      rw [List.getElem?_set_ne cj] at hj
      by_cases ck : i = k
      · subst ck
        rw [if_pos rfl]
        have hi : i < ρ.length := by
          have := (List.getElem?_eq_some_iff.mp hk).1
          simpa using this
        rw [List.getElem?_set_self hi] at hk
        cases hk
        exact hne j o1 hj
      · rw [if_neg (Ne.symm ck)]
        rw [List.getElem?_set_ne ck] at hk
        exact g2 j k o1 o2 hj hk hjk
/-- one new object -/
theorem RE.setOwn (R : RE mg S0 H0 S H σ ρ) {i : Nat} {p : Addr} {o : Ow} (w : Wd S H S' H') (hp : H p = none) (hs : S' p = none) (h : OwAt mg S' H' p o) (hf : fpx p o = [p] := by rfl) :
    RE mg S0 H0 S' H' (σ.set i (some (.ref p))) (ρ.set i (.own o)) := R.setOwnF w (fun q hq => by rw [hf] at hq; rw [List.mem_singleton.mp hq]; exact ⟨hp, hs⟩) h
/-- our own are changed in their places, more may come to them -/
theorem RE.mutF (R : RE mg S0 H0 S H σ ρ) {i : Nat} {p : Addr} {o o' : Ow} (hi : ρ[i]? = some (.own o)) (hp : σ[i]? = some (some (.ref p))) (w : Wd S0 H0 S H') (hk : ∀ q, q ∉ fpx p o → ∀ u, H q = some u → H' q = some u)
    (hf : ∀ q ∈ fpx p o', q ∈ fpx p o ∨ H q = none) (h : OwAt mg S H' p o') : RE mg S0 H0 S H' σ (ρ.set i (.own o')) := by
  obtain ⟨A, h1, h2⟩ := R.own
  obtain ⟨e1, e2, e4⟩ := h1 i o hi
  have ep : A i = p := by
    rw [e1] at hp
    have := Option.some.inj (Option.some.inj hp)
    injection this
  subst ep
  have hil : i < ρ.length := (List.getElem?_eq_some_iff.mp hi).1
  have sub : ∀ (j : Nat) (o1 : Ow), ρ[j]? = some (.own o1) → i ≠ j → ∀ q ∈ fpx (A j) o1, q ∉ fpx (A i) o' := fun j o1 hj c q hq z => by
    rcases hf q z with z | z
    · exact h2 j i o1 o hj hi (Ne.symm c) q hq z
    · exact (h1 j o1 hj).2.2.there q hq z
  refine ⟨w, by simpa using R.len, fun j d hj => ?_, A, fun j o1 hj => ?_, fun j k o1 o2 hj hk' hjk => ?_⟩
  · by_cases c : i = j
    · subst c
      rw [List.getElem?_set_self hil] at hj; cases hj
    · rw [List.getElem?_set_ne c] at hj
      exact R.val j d hj
  · by_cases c : i = j
    · subst c
      rw [List.getElem?_set_self hil] at hj
      cases hj
      refine ⟨e1, fun q hq => ?_, h⟩
      rcases hf q hq with z | z
      · exact e2 q z
      · exact ⟨Same.free R.wd.hh z, Same.free R.wd.sh z⟩
    · rw [List.getElem?_set_ne c] at hj
      obtain ⟨a1, a2, a4⟩ := h1 j o1 hj
      exact ⟨a1, a2, a4.mono (Same.refl _) fun q hq => hk q (h2 j i o1 o hj hi (Ne.symm c) q hq)⟩
  · by_cases cj : i = j
    · subst cj
      rw [List.getElem?_set_self hil] at hj
      rw [List.getElem?_set_ne hjk] at hk'
      cases hj
      exact fun q hq z => sub k o2 hk' hjk q z hq
    · rw [List.getElem?_set_ne cj] at hj
      by_cases ck : i = k
      · subst ck
        rw [List.getElem?_set_self hil] at hk'
        cases hk'
        exact sub j o1 hj cj
      · rw [List.getElem?_set_ne ck] at hk'
        exact h2 j k o1 o2 hj hk' hjk
/-- an object of our own is changed in its place -/
theorem RE.mut (R : RE mg S0 H0 S H σ ρ) {i : Nat} {p : Addr} {o o' : Ow} {u : HO} (hi : ρ[i]? = some (.own o)) (hp : σ[i]? = some (some (.ref p))) (h : OwAt mg S (upd H p u) p o') (ho : fpx p o = [p] := by rfl) (ho' : fpx p o' = [p] := by rfl) :
    RE mg S0 H0 S (upd H p u) σ (ρ.set i (.own o')) := by
  obtain ⟨A, h1, h2⟩ := R.own
  obtain ⟨e1, e2, e4⟩ := h1 i o hi
  have ep : A i = p := by
    rw [e1] at hp
    have := Option.some.inj (Option.some.inj hp)
    injection this
  subst ep
  have e5 := e2 (A i) e4.self
  exact R.mutF hi hp (R.wd.mut u e5.1 e5.2) (fun q hq v hv => by rw [upd_ne fun z => hq (by rw [ho, z]; exact List.mem_cons_self)]; exact hv) (fun q hq => .inl (by rw [ho]; rw [ho'] at hq; exact hq)) h
/-- where an object of our own stands -/
theorem RE.atF (R : RE mg S0 H0 S H σ ρ) {i : Nat} {o : Ow} (hi : ρ[i]? = some (.own o)) : ∃ p, σ[i]? = some (some (.ref p)) ∧ (∀ q ∈ fpx p o, H0 q = none ∧ S q = none) ∧ OwAt mg S H p o := by
  obtain ⟨A, h1, _⟩ := R.own
  exact ⟨A i, h1 i o hi⟩
theorem RE.at (R : RE mg S0 H0 S H σ ρ) {i : Nat} {o : Ow} (hi : ρ[i]? = some (.own o)) : ∃ p, σ[i]? = some (some (.ref p)) ∧ H0 p = none ∧ S p = none ∧ OwAt mg S H p o := by
  obtain ⟨p, h1, h2, h3⟩ := R.atF hi
  exact ⟨p, h1, (h2 p h3.self).1, (h2 p h3.self).2, h3⟩
/-- slots forgotten -/
theorem RE.weak (R : RE mg S0 H0 S H σ ρ) {ρ' : En} (hl : ρ'.length = ρ.length) (h : ∀ (i : Nat) (s : Sl), ρ'[i]? = some s → s = .em ∨ ρ[i]? = some s) : RE mg S0 H0 S H σ ρ' := by
  obtain ⟨A, h1, h2⟩ := R.own
  have old : ∀ (i : Nat) (o : Ow), ρ'[i]? = some (.own o) → ρ[i]? = some (.own o) := fun i o e => (h i _ e).resolve_left (by intro z; cases z)
  exact ⟨R.wd, hl.trans R.len, fun i d e => R.val i d ((h i _ e).resolve_left (by intro z; cases z)), A, fun i o e => h1 i o (old i o e), fun i j o o' a b => h2 i j o o' (old i o a) (old j o' b)⟩
/-- the object at a place of a graph, as a value once it is changed no more -/
def Os.d : Os → D
  | .lst l => .lst l
  | .dk l => .dk l
  | .dt l => .dt l
def osAt (T : List (Addr × Os)) (p : Addr) : Option Os := (T.find? fun x => decide (x.1 = p)).map (·.2)
mutual
/-- places read n levels deep -/
def deepD (T : List (Addr × Os)) (n : Nat) : D → D
  | .ptr p => match n with
    | 0 => .ptr p
    | m + 1 => match osAt T p with
      | some (.lst l) => .lst (deepL T m l)
      | _ => .ptr p
  | d => d
termination_by d => (n, sizeOf d)
def deepL (T : List (Addr × Os)) (n : Nat) : List D → List D
  | [] => []
  | d :: r => deepD T n d :: deepL T n r
termination_by l => (n, sizeOf l)
end
/-- what our own is as a value, once it is changed no more -/
def Ow.d : Ow → D
  | .lst l => .lst l
  | .ins _ C fs => .ins C fs
  | .dk l => .dk l
  | .dt l => .dt l
  | .nst g T => deepD T (T.length + 1) (.ptr g)
theorem osAt_mem {T : List (Addr × Os)} {p : Addr} {o : Os} (h : osAt T p = some o) : (p, o) ∈ T := by
  unfold osAt at h
  obtain ⟨x, hx, rfl⟩ := Option.map_eq_some_iff.mp h
  have := List.find?_some hx
  have e : x.1 = p := by simpa using this
  subst e
  exact List.mem_of_find?_eq_some hx
mutual
theorem deepD_rep {T : List (Addr × Os)} (hT : ∀ p ∈ T, OsAt mg S H p.1 p.2) (ss : Same S S') (hs : ∀ p ∈ T, S' p.1 = H p.1) : ∀ (n : Nat) (d : D) (v : V), Rep mg S v d → Rep mg S' v (deepD T n d)
  | n, .ptr p, v, r => by
    cases r
    match n with
    | 0 => rw [deepD]; exact .ptr p
    | m + 1 =>
      rw [deepD]
      cases e : osAt T p with
      | none => exact .ptr p
      | some o =>
        cases o with
        | lst l =>
          obtain ⟨vs, e1, r1⟩ := hT _ (osAt_mem e)
          have e2 := hs _ (osAt_mem e)
          exact .lst (.inl (e2.trans e1)) (deepL_rep hT ss hs m l vs r1)
        | dk l => exact .ptr p
        | dt l => exact .ptr p
  | n, .non, v, r => by rw [deepD]; exact r.mono ss; intro p z; cases z
  | n, .bl _, v, r => by rw [deepD]; exact r.mono ss; intro p z; cases z
  | n, .int _, v, r => by rw [deepD]; exact r.mono ss; intro p z; cases z
  | n, .str _, v, r => by rw [deepD]; exact r.mono ss; intro p z; cases z
  | n, .ty _, v, r => by rw [deepD]; exact r.mono ss; intro p z; cases z
  | n, .gl _, v, r => by rw [deepD]; exact r.mono ss; intro p z; cases z
  | n, .tup _, v, r => by rw [deepD]; exact r.mono ss; intro p z; cases z
  | n, .lst _, v, r => by rw [deepD]; exact r.mono ss; intro p z; cases z
  | n, .ins _ _, v, r => by rw [deepD]; exact r.mono ss; intro p z; cases z
  | n, .scr _, v, r => by rw [deepD]; exact r.mono ss; intro p z; cases z
  | n, .dk _, v, r => by rw [deepD]; exact r.mono ss; intro p z; cases z
  | n, .dt _, v, r => by rw [deepD]; exact r.mono ss; intro p z; cases z
  | n, .err _ _, v, r => by rw [deepD]; exact r.mono ss; intro p z; cases z
termination_by n d => (n, sizeOf d)
theorem deepL_rep {T : List (Addr × Os)} (hT : ∀ p ∈ T, OsAt mg S H p.1 p.2) (ss : Same S S') (hs : ∀ p ∈ T, S' p.1 = H p.1) : ∀ (n : Nat) (l : List D) (vs : List V), Reps mg S vs l → Reps mg S' vs (deepL T n l)
  | n, [], vs, r => by cases r; rw [deepL]; exact .nil
  | n, d :: l, vs, r => by
    cases r with
    | cons h t => rw [deepL]; exact .cons (deepD_rep hT ss hs n d _ h) (deepL_rep hT ss hs n l _ t)
termination_by n l => (n, sizeOf l)
end
/-- our own, changed no more -/
theorem OwAt.rep {a : Addr} {o : Ow} (h : OwAt mg S H a o) (ss : Same S S') (hs : ∀ p ∈ fpx a o, S' p = H p) : Rep mg S' (.ref a) o.d := by
  cases o with
  | lst l => obtain ⟨vs, e, r⟩ := h; exact .lst (.inl ((hs a List.mem_cons_self).trans e)) (r.mono ss)
  | ins a0 C fs => obtain ⟨z, c, dx, gs, q, e, r⟩ := h; exact .ins q ((hs a List.mem_cons_self).trans e) (r.mono ss)
  | dk l => obtain ⟨vs, e, r⟩ := h; exact .dk (.inl ((hs a List.mem_cons_self).trans e)) (r.mono ss)
  | dt l => obtain ⟨vs, e, r⟩ := h; exact .dt ((hs a List.mem_cons_self).trans e) (r.mono ss)
  | nst g T =>
    obtain ⟨rfl, h1, h2, h3⟩ := h
    exact deepD_rep h3 ss (fun p hp => hs p.1 (List.mem_map_of_mem hp)) _ _ _ (.ptr a)
theorem RE.frz (R : RE mg S0 H0 S H σ ρ) {i : Nat} {o : Ow} (hi : ρ[i]? = some (.own o)) : ∃ S', Wd S0 H0 S' H ∧ Same S S' ∧ RE mg S0 H0 S' H σ (ρ.set i (.val o.d)) := by
  obtain ⟨A, h1, h2⟩ := R.own
  obtain ⟨e1, e2, e4⟩ := h1 i o hi
  have w := R.wd.frzs e2
  have ss : Same S (frzS S H (fpx (A i) o)) := frzS_ss fun p hp => (e2 p hp).2
  have hil : i < ρ.length := (List.getElem?_eq_some_iff.mp hi).1
  refine ⟨_, w, ss, w, by simpa using R.len, fun j d hj => ?_, A, fun j o1 hj => ?_, fun j k o1 o2 hj hk => ?_⟩
  · by_cases c : i = j
    · subst c
      rw [List.getElem?_set_self hil] at hj
      cases hj
      exact ⟨_, e1, e4.rep ss fun p hp => frzS_in hp⟩
    · rw [List.getElem?_set_ne c] at hj
      obtain ⟨v, a, b⟩ := R.val j d hj
      exact ⟨v, a, b.mono ss⟩
  · by_cases c : i = j
    · subst c; rw [List.getElem?_set_self hil] at hj; cases hj
    · rw [List.getElem?_set_ne c] at hj
      obtain ⟨a1, a2, a4⟩ := h1 j o1 hj
      exact ⟨a1, fun p hp => ⟨(a2 p hp).1, by rw [frzS_out (h2 j i o1 o hj hi (Ne.symm c) p hp)]; exact (a2 p hp).2⟩, a4.mono ss fun _ _ _ q => q⟩
  · have old : ∀ (j : Nat) (o1 : Ow), (ρ.set i (.val o.d))[j]? = some (.own o1) → ρ[j]? = some (.own o1) := fun j o1 hj => by
      by_cases c : i = j
      · subst c; rw [List.getElem?_set_self hil] at hj; cases hj
      · rw [List.getElem?_set_ne c] at hj; exact hj
    exact h2 j k o1 o2 (old j o1 hj) (old k o2 hk)
end
end Z

/-! Z: what expressions do, told of data. -/
namespace Z
open PySem PySem.Spec PyProof.Rows L2

/-- what is wanted of an exception: its class by name, its fields -/
abbrev Xd := Str → List (Str × D) → Prop
abbrev NoX : Xd := fun _ _ => False
abbrev TEd := En → (D → Prop) → Xd → Prop
abbrev TTd := En → (Bool → Prop) → Xd → Prop
abbrev TAd := En → (List D → Prop) → Xd → Prop
abbrev O2 := D → D → (D → Prop) → Prop
abbrev W0 : WX := fun _ _ _ _ => False

def RepX (mg : Mg) (S H : Hp) (d' : Option Addr) (fs : List (Str × D)) : Prop :=
  (d' = none ∧ fs = []) ∨ ∃ dd gs, d' = some dd ∧ S dd = some (.xd gs) ∧ RepF mg S gs fs
def vOk (mg : Mg) (S H : Hp) (P : D → Prop) (Q : VK) : Prop := ∀ d, P d → ∀ v S' H', Wd S H S' H' → Rep mg S' v d → Q v H'
def bOk (S H : Hp) (P : Bool → Prop) (Q : Bool → Hp → Prop) : Prop := ∀ b, P b → ∀ S' H', Wd S H S' H' → Q b H'
def aOk (mg : Mg) (S H : Hp) (P : List D → Prop) (Q : List V → Hp → Prop) : Prop := ∀ ds, P ds → ∀ vs S' H', Wd S H S' H' → Reps mg S' vs ds → Q vs H'
/-- a new list -/
def fOk (mg : Mg) (S H : Hp) (P : List D → Prop) (Q : VK) : Prop := ∀ l, P l → ∀ p vs S' H', Wd S H S' H' → H p = none → S' p = none → H' p = some (.lst vs) → Reps mg S' vs l → Q (.ref p) H'
def xOk (mg : Mg) (W : WX) (σ : L2.St) (S H : Hp) (Xp : Xd) : Prop :=
  ∀ C fs, Xp C fs → ∀ c d' S' H', mg.m C = some (.ref c) → Wd S H S' H' → RepX mg S' H' d' fs → W (.ref c) d' σ H'
def liftE (mg : Mg) (W : WX) (te : TEd) : TE := fun σ H Q => ∃ S0 H0 S ρ P Xp, RE mg S0 H0 S H σ ρ ∧ te ρ P Xp ∧ vOk mg S H P Q ∧ xOk mg W σ S H Xp
def liftT (mg : Mg) (W : WX) (tt : TTd) : TT := fun σ H Q => ∃ S0 H0 S ρ P Xp, RE mg S0 H0 S H σ ρ ∧ tt ρ P Xp ∧ bOk S H P Q ∧ xOk mg W σ S H Xp
def liftA (mg : Mg) (W : WX) (ta : TAd) : TA := fun σ H Q => ∃ S0 H0 S ρ P Xp, RE mg S0 H0 S H σ ρ ∧ ta ρ P Xp ∧ aOk mg S H P Q ∧ xOk mg W σ S H Xp
def liftF (mg : Mg) (W : WX) (tf : TAd) : TE := fun σ H Q => ∃ S0 H0 S ρ P Xp, RE mg S0 H0 S H σ ρ ∧ tf ρ P Xp ∧ fOk mg S H P Q ∧ xOk mg W σ S H Xp

section
variable {mg : Mg} {W : WX} {σ : L2.St} {S H S' H' : Hp} {P : D → Prop} {Q : VK} {Xp : Xd}
theorem vOk.grow (k : vOk mg S H P Q) (w : Wd S H S' H') : vOk mg S' H' P Q := fun d h v S2 H2 w2 r => k d h v S2 H2 (w.trans w2) r
theorem bOk.grow {P : Bool → Prop} {Q : Bool → Hp → Prop} (k : bOk S H P Q) (w : Wd S H S' H') : bOk S' H' P Q := fun d h S2 H2 w2 => k d h S2 H2 (w.trans w2)
theorem aOk.grow {P : List D → Prop} {Q : List V → Hp → Prop} (k : aOk mg S H P Q) (w : Wd S H S' H') : aOk mg S' H' P Q := fun d h v S2 H2 w2 r => k d h v S2 H2 (w.trans w2) r
theorem fOk.grow {P : List D → Prop} (k : fOk mg S H P Q) (w : Wd S H S' H') : fOk mg S' H' P Q := fun d h p vs S2 H2 w2 hp r => k d h p vs S2 H2 (w.trans w2) (w.free hp) r
theorem xOk.grow (k : xOk mg W σ S H Xp) (w : Wd S H S' H') : xOk mg W σ S' H' Xp := fun C fs h c d' S2 H2 e w2 r => k C fs h c d' S2 H2 e (w.trans w2) r
/-- a new list that is changed no more -/
theorem vOk.frz (k : vOk mg S H P Q) : fOk mg S H (fun l => P (.lst l)) Q := fun l h p vs S2 H2 w hp hs e r => by
  have ss : Same S2 (upd S2 p (.lst vs)) := fun q v e => by rw [upd_ne (ne_of_none e hs)]; exact e
  exact k _ h _ _ _ (w.frz hp e hs) (.lst (.inl upd_same) (r.mono ss))
theorem xOk.no : xOk mg W σ S H NoX := fun _ _ h => h.elim
end

theorem PE.weak {X : Cx} {e : Expr} {t t' : TE} (h : PE X e t) (w : ∀ σ H Q, t' σ H Q → t σ H Q) : PE X e t' := ⟨fun p s σ H Q I q => h.run p s σ H Q I (w σ H Q q)⟩
theorem PT.weak {X : Cx} {e : Expr} {t t' : TT} (h : PT X e t) (w : ∀ σ H Q, t' σ H Q → t σ H Q) : PT X e t' := ⟨fun p s σ H Q I q => h.run p s σ H Q I (w σ H Q q)⟩
theorem PW.weak {X : Cx} {e : Expr} {t t' : TT} (h : PW X e t) (w : ∀ σ H Q, t' σ H Q → t σ H Q) : PW X e t' := ⟨fun u p s σ H Q I q => h.run u p s σ H Q I (w σ H Q q)⟩
theorem PA.weak {X : Cx} {e : List Expr} {t t' : TA} (h : PA X e t) (w : ∀ σ H Q, t' σ H Q → t σ H Q) : PA X e t' := ⟨fun u p s σ H Q I q => h.run u p s σ H Q I (w σ H Q q)⟩

abbrev DE (X : Cx) (W : WX) (e : Expr) (te : TEd) : Prop := PE X e (liftE (gd X) W te)
abbrev DT (X : Cx) (W : WX) (e : Expr) (tt : TTd) : Prop := PT X e (liftT (gd X) W tt)
abbrev DW (X : Cx) (W : WX) (e : Expr) (tt : TTd) : Prop := PW X e (liftT (gd X) W tt)
abbrev DA (X : Cx) (W : WX) (es : List Expr) (ta : TAd) : Prop := PA X es (liftA (gd X) W ta)
abbrev DF (X : Cx) (W : WX) (e : Expr) (tf : TAd) : Prop := PE X e (liftF (gd X) W tf)

/-! ### names and constants -/
def eVar (i : Nat) : TEd := fun ρ P _ => ∃ d, ρ[i]? = some (.val d) ∧ P d
def eC (d : D) : TEd := fun _ P _ => P d
section
variable {X : Cx} {W : WX} {pos : Pos} {mg : Mg}
theorem vOk.now {S0 H0 S H : Hp} {σ : L2.St} {ρ : En} {P : D → Prop} {Q : VK} (k : vOk mg S H P Q) (R : RE mg S0 H0 S H σ ρ) {d : D} (h : P d) {v : V} (r : Rep mg S v d) : Q v H := k d h v S H (.refl R.wd.sh) r
theorem de_name {e : Expr} {i : Nat} (h : PE X e (tVar i)) : DE X W e (eVar i) := PE.weak h fun σ H Q ⟨S0, H0, S, ρ, P, Xp, R, ⟨d, hd, hP⟩, k, _⟩ => by
  obtain ⟨v, hv, r⟩ := R.val i d hd
  exact ⟨v, hv, k.now R hP r⟩
theorem de_c {e : Expr} {v : V} {d : D} (h : PE X e (tC v)) (r : ∀ S, Rep (gd X) S v d) : DE X W e (eC d) := PE.weak h fun σ H Q ⟨S0, H0, S, ρ, P, Xp, R, hP, k, _⟩ => k.now R hP (r S)
theorem de_int {i j} : DE X W (.Constant (.int i) j pos) (eC (.int i)) := de_c pe_int fun _ => .int i
theorem de_bl {b j} : DE X W (.Constant (.bool b) j pos) (eC (.bl b)) := de_c pe_bl fun _ => .bl b
theorem de_non {j} : DE X W (.Constant .none j pos) (eC .non) := de_c pe_non fun _ => .non
theorem de_str {x j} : DE X W (.Constant (.str x) j pos) (eC (.str x)) := de_c pe_str fun _ => .str x
theorem de_gl {x : Str} {a : Addr} (hg : Gl X x) (hm : X.mg x = some (.ref a)) (hd : (x == ("__debug__" : Str)) = false := by decide) : DE X W (.Name x pos) (eC (.gl x)) :=
  de_c (pe_glob (v := .ref a) hg hm rfl hd) fun _ => .gl hm
theorem de_ty {x : Str} {n : String} (hg : Gl X x) (hm : X.mg x = none) (hv : bootBuiltins x = some (.type n)) (hn : x ≠ "__name__" := by decide) (hd : (x == ("__debug__" : Str)) = false := by decide) : DE X W (.Name x pos) (eC (.ty n)) :=
  de_c (pe_bltn (v := .ty n) hg hm hv rfl hn hd) fun _ => .ty n
/-! ### operators by values -/
def rL (mg : Mg) (o : O2) : R2 := fun x y H Q => ∃ S dx dy P, Same S H ∧ Rep mg S x dx ∧ Rep mg S y dy ∧ o dx dy P ∧ vOk mg S H P Q
def uL (mg : Mg) (o : D → (D → Prop) → Prop) : V → Hp → VK → Prop := fun x H Q => ∃ S dx P, Same S H ∧ Rep mg S x dx ∧ o dx P ∧ vOk mg S H P Q
def eOp (o : O2) (a b : TEd) : TEd := fun ρ P Xp => a ρ (fun x => b ρ (fun y => o x y P) Xp) Xp
def eUn (o : D → (D → Prop) → Prop) (a : TEd) : TEd := fun ρ P Xp => a ρ (fun x => o x P) Xp
theorem lift_op {o : O2} {ta tb : TEd} (σ : L2.St) (H : Hp) (Q : VK) (h : liftE mg W (eOp o ta tb) σ H Q) : tOp (rL mg o) (liftE mg W ta) (liftE mg W tb) σ H Q := by
  obtain ⟨S0, H0, S, ρ, P, Xp, R, h, k, x⟩ := h
  exact ⟨S0, H0, S, ρ, _, Xp, R, h, fun d hd v S1 H1 w1 r1 => ⟨S0, H0, S1, ρ, _, Xp, R.grow w1, hd, fun d2 hd2 v2 S2 H2 w2 r2 => ⟨S2, d, d2, P, w2.sh, r1.mono w2.ss, r2, hd2, k.grow (w1.trans w2)⟩, x.grow w1⟩, x⟩
theorem lift_un {o : D → (D → Prop) → Prop} {ta : TEd} (σ : L2.St) (H : Hp) (Q : VK) (h : liftE mg W (eUn o ta) σ H Q) : tUn (uL mg o) (liftE mg W ta) σ H Q := by
  obtain ⟨S0, H0, S, ρ, P, Xp, R, h, k, x⟩ := h
  exact ⟨S0, H0, S, ρ, _, Xp, R, h, fun d hd v S1 H1 w1 r1 => ⟨S1, d, P, w1.sh, r1, hd, k.grow w1⟩, x⟩
variable {a b c : Expr} {ta tb tc : TEd}
theorem de_op {op : Operator} {o : O2} (ho : OpR X (binaryOp op) (rL (gd X) o)) (ha : DE X W a ta) (hb : DE X W b tb) : DE X W (.BinOp a op b pos) (eOp o ta tb) := PE.weak (pe_op ho ha hb) lift_op
theorem de_un {op : UnaryOp} {o : D → (D → Prop) → Prop} (ho : UnR X (unaryOp op) (uL (gd X) o)) (ha : DE X W a ta) : DE X W (.UnaryOp op a pos) (eUn o ta) := PE.weak (pe_un ho ha) lift_un
theorem de_cmp {op : CmpOp} {o : O2} (ho : OpR X (compareOp op) (rL (gd X) o)) (ha : DE X W a ta) (hb : DE X W b tb) (hm : behindInMarks op b = false) : DE X W (.Compare a [op] [b] pos) (eOp o ta tb) := PE.weak (pe_cmpR ho ha hb hm) lift_op
/-- a bool as a test -/
def isBl (d : D) (P : Bool → Prop) : Prop := match d with | .bl b => P b | _ => False
def caseB (d : D) (T F : Prop) : Prop := match d with | .bl true => T | .bl false => F | _ => False
def tBl (t : TEd) : TTd := fun ρ P Xp => t ρ (fun d => isBl d P) Xp
theorem Rep.bl_inv {S : Hp} {v : V} {b : Bool} (h : Rep mg S v (.bl b)) : v = .bl b := by cases h; rfl
theorem Rep.int_inv {S : Hp} {v : V} {b : Int} (h : Rep mg S v (.int b)) : v = .int b := by cases h; rfl
theorem Rep.str_inv {S : Hp} {v : V} {b : Str} (h : Rep mg S v (.str b)) : v = .str b := by cases h; rfl
theorem Rep.non_inv {S : Hp} {v : V} (h : Rep mg S v .non) : v = .non := by cases h; rfl
theorem lift_tBl {t : TEd} (σ : L2.St) (H : Hp) (Q : Bool → Hp → Prop) (h : liftT mg W (tBl t) σ H Q) : liftE mg W t σ H fun x H1 => ∃ c, x = .bl c ∧ Q c H1 := by
  obtain ⟨S0, H0, S, ρ, P, Xp, R, h, k, x⟩ := h
  refine ⟨S0, H0, S, ρ, _, Xp, R, h, fun d hd v S1 H1 w1 r1 => ?_, x⟩
  cases d with
  | bl b => exact ⟨b, r1.bl_inv, k b hd S1 H1 w1⟩
  | _ => exact hd.elim
theorem dt_cmp {op : CmpOp} {o : O2} (ho : OpR X (compareOp op) (rL (gd X) o)) (ha : DE X W a ta) (hb : DE X W b tb) (hm : behindInMarks op b = false) : DT X W (.Compare a [op] [b] pos) (tBl (eOp o ta tb)) :=
  PT.weak (pt_cmpR ho ha hb hm) fun σ H Q h => by
    have q := lift_tBl σ H Q h
    exact lift_op σ H _ q
/-- a op1 b op2 c -/
def eCh (o o' : O2) (a b c : TEd) : TEd := fun ρ P Xp => a ρ (fun x => b ρ (fun y => o x y fun z => caseB z (c ρ (fun w => o' y w P) Xp) (P (.bl false))) Xp) Xp
theorem lift_ch {o o' : O2} (σ : L2.St) (H : Hp) (Q : VK) (h : liftE mg W (eCh o o' ta tb tc) σ H Q) : tChain (rL mg o) (rL mg o') (liftE mg W ta) (liftE mg W tb) (liftE mg W tc) σ H Q := by
  obtain ⟨S0, H0, S, ρ, P, Xp, R, h, k, x⟩ := h
  refine ⟨S0, H0, S, ρ, _, Xp, R, h, fun d hd v S1 H1 w1 r1 => ⟨S0, H0, S1, ρ, _, Xp, R.grow w1, hd, fun d2 hd2 v2 S2 H2 w2 r2 => ⟨S2, d, d2, _, w2.sh, r1.mono w2.ss, r2, hd2, fun d3 hd3 v3 S3 H3 w3 r3 => ?_⟩, x.grow w1⟩, x⟩
  match d3, hd3 with
  | .bl true, hd3 =>
    refine ⟨true, r3.bl_inv, ?_⟩
    rw [if_pos rfl]
    have w := (w1.trans w2).trans w3
    exact ⟨S0, H0, S3, ρ, _, Xp, R.grow w, hd3, fun d4 hd4 v4 S4 H4 w4 r4 => ⟨S4, d2, d4, P, w4.sh, r2.mono (w3.ss.trans w4.ss), r4, hd4, k.grow (w.trans w4)⟩, x.grow w⟩
  | .bl false, hd3 =>
    refine ⟨false, r3.bl_inv, ?_⟩
    rw [if_neg Bool.false_ne_true]
    exact k _ hd3 _ _ _ ((w1.trans w2).trans w3) (.bl false)
theorem de_chain {op op' : CmpOp} {o o' : O2} (ho : OpR X (compareOp op) (rL (gd X) o)) (ho' : OpR X (compareOp op') (rL (gd X) o')) (ha : DE X W a ta) (hb : DE X W b tb) (hc : DE X W c tc)
    (hm : lastMarks [op, op'] [b, c] = false := by with_unfolding_all rfl) : DE X W (.Compare a [op, op'] [b, c] pos) (eCh o o' ta tb tc) := PE.weak (pe_chain ho ho' ha hb hc hm) lift_ch
theorem dt_chain {op op' : CmpOp} {o o' : O2} (ho : OpR X (compareOp op) (rL (gd X) o)) (ho' : OpR X (compareOp op') (rL (gd X) o')) (ha : DE X W a ta) (hb : DE X W b tb) (hc : DE X W c tc)
    (hm : lastMarks [op, op'] [b, c] = false := by with_unfolding_all rfl) : DT X W (.Compare a [op, op'] [b, c] pos) (tBl (eCh o o' ta tb tc)) :=
  PT.weak (pt_chain ho ho' ha hb hc hm) fun σ H Q h => by
    have q := lift_tBl σ H Q h
    exact lift_ch σ H _ q
theorem dt_val {e : Expr} {t : TEd} (h : DE X W e t) (he : ∀ whole, isTrue e X.env whole = (do let v ← whole; standAt e.pos; holding [v] (truthy v)) := by intro _; rfl) : DT X W e (tBl t) :=
  PT.weak (pt_val h he) fun σ H Q h => lift_tBl σ H Q h
/-- a value's truth -/
def truP (d : D) (P : Bool → Prop) : Prop := match d with
  | .non => P false
  | .bl b => P b
  | .int i => P (i != 0)
  | .str y => y.length ≤ sizeLine ∧ P ((y.length : Int) != 0)
  | .lst l => P (!l.isEmpty)
  | .tup l => P (!l.isEmpty)
  | _ => False
def tTr (t : TEd) : TTd := fun ρ P Xp => t ρ (fun d => truP d P) Xp
theorem Reps.isEmpty {S : Hp} {vs : List V} {ds : List D} (h : Reps mg S vs ds) : vs.isEmpty = ds.isEmpty := by cases h <;> rfl
theorem tru_of {K : PySem.W.Frag} {S H : Hp} {v : V} {d : D} {P : Bool → Prop} (r : Rep mg S v d) (sh : Same S H) (h : truP d P) : ∃ k, TruV K v H k ∧ P k := by
  cases r with
  | non => exact ⟨false, rfl, h⟩
  | bl b => exact ⟨b, rfl, h⟩
  | int i => exact ⟨_, rfl, h⟩
  | str x => exact ⟨_, ⟨h.1, rfl⟩, h.2⟩
  | tup e q => exact ⟨_, .inr (.inl ⟨_, .inl (.inl (sh _ _ e)), rfl⟩), by rw [q.isEmpty]; exact h⟩
  | lst e q => exact ⟨_, .inl ⟨_, .inl (rd_mono sh e), rfl⟩, by rw [q.isEmpty]; exact h⟩
  | _ => exact h.elim
theorem dt_tr {e : Expr} {t : TEd} (h : DE X W e t) (he : ∀ whole, isTrue e X.env whole = (do let v ← whole; standAt e.pos; holding [v] (truthy v)) := by intro _; rfl) : DT X W e (tTr t) :=
  PT.weak (pt_truth h he) fun σ H Q ⟨S0, H0, S, ρ, P, Xp, R, h, k, x⟩ => ⟨S0, H0, S, ρ, _, Xp, R, h, fun d hd v S1 H1 w1 r1 => by
    obtain ⟨b, h1, h2⟩ := tru_of r1 w1.sh hd
    exact ⟨b, h1, k b h2 S1 H1 w1⟩, x⟩
/-! ### and, or, not -/
def tAnd (t u : TTd) : TTd := fun ρ P Xp => t ρ (fun b => if b = true then u ρ P Xp else P false) Xp
def tOr (t u : TTd) : TTd := fun ρ P Xp => t ρ (fun b => if b = true then P true else u ρ P Xp) Xp
def tNot (t : TTd) : TTd := fun ρ P Xp => t ρ (fun b => P (!b)) Xp
variable {tA tB' : TTd} {rest : List Expr}
theorem dw_and1 (ha : DT X W a tA) : DW X W (.BoolOp .And [a] pos) tA := pw_and1 ha
theorem dw_or1 (ha : DT X W a tA) : DW X W (.BoolOp .Or [a] pos) tA := pw_or1 ha
theorem dw_and (ha : DT X W a tA) (hb : DW X W (.BoolOp .And (b :: rest) pos) tB') : DW X W (.BoolOp .And (a :: b :: rest) pos) (tAnd tA tB') := PW.weak (pw_and ha hb) fun σ H Q ⟨S0, H0, S, ρ, P, Xp, R, h, k, x⟩ =>
  ⟨S0, H0, S, ρ, _, Xp, R, h, fun b hd S1 H1 w1 => by
    cases b with
    | true => rw [if_pos rfl] at hd ⊢; exact ⟨S0, H0, S1, ρ, P, Xp, R.grow w1, hd, k.grow w1, x.grow w1⟩
    | false => rw [if_neg Bool.false_ne_true] at hd ⊢; exact k _ hd _ _ w1, x⟩
theorem dw_or (ha : DT X W a tA) (hb : DW X W (.BoolOp .Or (b :: rest) pos) tB') : DW X W (.BoolOp .Or (a :: b :: rest) pos) (tOr tA tB') := PW.weak (pw_or ha hb) fun σ H Q ⟨S0, H0, S, ρ, P, Xp, R, h, k, x⟩ =>
  ⟨S0, H0, S, ρ, _, Xp, R, h, fun b hd S1 H1 w1 => by
    cases b with
    | true => rw [if_pos rfl] at hd ⊢; exact k _ hd _ _ w1
    | false => rw [if_neg Bool.false_ne_true] at hd ⊢; exact ⟨S0, H0, S1, ρ, P, Xp, R.grow w1, hd, k.grow w1, x.grow w1⟩, x⟩
theorem dt_w {e : Expr} (h : DW X W e tA) : DT X W e tA := h.pt
theorem dt_not (ha : DT X W a tA) : DT X W (.UnaryOp .Not a pos) (tNot tA) := PT.weak (pt_not ha) fun σ H Q ⟨S0, H0, S, ρ, P, Xp, R, h, k, x⟩ =>
  ⟨S0, H0, S, ρ, _, Xp, R, h, fun b hd S1 H1 w1 => k _ hd _ _ w1, x⟩
/-- .. as values -/
def eAnd (a b : TEd) : TEd := fun ρ P Xp => a ρ (fun d => caseB d (b ρ P Xp) (P (.bl false))) Xp
def eOr (a b : TEd) : TEd := fun ρ P Xp => a ρ (fun d => caseB d (P (.bl true)) (b ρ P Xp)) Xp
def eNot (a : TEd) : TEd := fun ρ P Xp => a ρ (fun d => isBl d fun b => P (.bl (!b))) Xp
theorem de_one {op} {t : TEd} (h : DE X W a t) : DE X W (.BoolOp op [a] pos) t := pe_one h
theorem de_and (ha : DE X W a ta) (hb : DE X W (.BoolOp .And (b :: rest) pos) tb) : DE X W (.BoolOp .And (a :: b :: rest) pos) (eAnd ta tb) := PE.weak (pe_and ha hb) fun σ H Q ⟨S0, H0, S, ρ, P, Xp, R, h, k, x⟩ =>
  ⟨S0, H0, S, ρ, _, Xp, R, h, fun d hd v S1 H1 w1 r1 => by
    match d, hd with
    | .bl true, hd => exact ⟨true, r1.bl_inv, by rw [if_pos rfl]; exact ⟨S0, H0, S1, ρ, P, Xp, R.grow w1, hd, k.grow w1, x.grow w1⟩⟩
    | .bl false, hd => exact ⟨false, r1.bl_inv, by rw [if_neg Bool.false_ne_true]; exact k _ hd _ _ _ w1 (.bl _)⟩, x⟩
theorem de_or (ha : DE X W a ta) (hb : DE X W (.BoolOp .Or (b :: rest) pos) tb) : DE X W (.BoolOp .Or (a :: b :: rest) pos) (eOr ta tb) := PE.weak (pe_or ha hb) fun σ H Q ⟨S0, H0, S, ρ, P, Xp, R, h, k, x⟩ =>
  ⟨S0, H0, S, ρ, _, Xp, R, h, fun d hd v S1 H1 w1 r1 => by
    match d, hd with
    | .bl true, hd => exact ⟨true, r1.bl_inv, by rw [if_pos rfl]; exact k _ hd _ _ _ w1 (.bl _)⟩
    | .bl false, hd => exact ⟨false, r1.bl_inv, by rw [if_neg Bool.false_ne_true]; exact ⟨S0, H0, S1, ρ, P, Xp, R.grow w1, hd, k.grow w1, x.grow w1⟩⟩, x⟩
theorem de_not (ha : DE X W a ta) : DE X W (.UnaryOp .Not a pos) (eNot ta) := PE.weak (pe_not ha) fun σ H Q ⟨S0, H0, S, ρ, P, Xp, R, h, k, x⟩ =>
  ⟨S0, H0, S, ρ, _, Xp, R, h, fun d hd v S1 H1 w1 r1 => by
    match d, hd with
    | .bl b, hd => exact ⟨b, r1.bl_inv, k _ hd _ _ _ w1 (.bl _)⟩, x⟩
def eIf (t : TTd) (a b : TEd) : TEd := fun ρ P Xp => t ρ (fun c => if c = true then a ρ P Xp else b ρ P Xp) Xp
theorem de_if (hc : DT X W c tA) (ha : DE X W a ta) (hb : DE X W b tb) : DE X W (.IfExp c a b pos) (eIf tA ta tb) := PE.weak (pe_ifExp hc ha hb) fun σ H Q ⟨S0, H0, S, ρ, P, Xp, R, h, k, x⟩ =>
  ⟨S0, H0, S, ρ, _, Xp, R, h, fun c hd S1 H1 w1 => by
    cases c with
    | true => rw [if_pos rfl] at hd ⊢; exact ⟨S0, H0, S1, ρ, P, Xp, R.grow w1, hd, k.grow w1, x.grow w1⟩
    | false => rw [if_neg Bool.false_ne_true] at hd ⊢; exact ⟨S0, H0, S1, ρ, P, Xp, R.grow w1, hd, k.grow w1, x.grow w1⟩, x⟩
/-! ### argument lists, displays -/
def aNil : TAd := fun _ P _ => P []
def aCons (a : TEd) (r : TAd) : TAd := fun ρ P Xp => a ρ (fun d => r ρ (fun ds => P (d :: ds)) Xp) Xp
variable {e : Expr} {es : List Expr} {te : TEd} {tr : TAd}
theorem da_nil : DA X W [] aNil := PA.weak pa_nil fun σ H Q ⟨S0, H0, S, ρ, P, Xp, R, h, k, x⟩ => k _ h _ _ _ (.refl R.wd.sh) .nil
theorem da_cons (ha : DE X W e te) (hr : DA X W es tr) (hs : starEach (e :: es) X.env = (false, eval e X.env) :: starEach es X.env := by rfl) : DA X W (e :: es) (aCons te tr) := PA.weak (pa_cons ha hr hs) fun σ H Q ⟨S0, H0, S, ρ, P, Xp, R, h, k, x⟩ =>
  ⟨S0, H0, S, ρ, _, Xp, R, h, fun d hd v S1 H1 w1 r1 => ⟨S0, H0, S1, ρ, _, Xp, R.grow w1, hd, fun ds hds vs S2 H2 w2 r2 => k _ hds _ _ _ (w1.trans w2) (.cons (r1.mono w2.ss) r2), x.grow w1⟩, x⟩
/-- a new tuple -/
def eTup (t : TAd) : TEd := fun ρ P Xp => t ρ (fun ds => ds.length ≤ sizeLine ∧ P (.tup ds)) Xp
theorem vOk.tup {S H : Hp} {P : D → Prop} {Q : VK} (k : vOk mg S H P Q) {S' H' : Hp} (w : Wd S H S' H') {vs : List V} {ds : List D} (r : Reps mg S' vs ds) (h : P (.tup ds)) {p : Addr} (hp : H' p = none) : Q (.ref p) (upd H' p (.tup vs)) := by
  have ss : Same S' (upd S' p (.tup vs)) := fun q v e => by rw [upd_ne (ne_of_none (w.sh _ _ e) hp)]; exact e
  exact k _ h _ _ _ (w.new hp _) (.tup upd_same (r.mono ss))
theorem de_tup {x1} (h : DA X W es tr) : DE X W (.Tuple es x1 pos) (eTup tr) := PE.weak (pe_tup h) fun σ H Q ⟨S0, H0, S, ρ, P, Xp, R, h, k, x⟩ =>
  ⟨S0, H0, S, ρ, _, Xp, R, h, fun ds hd vs S1 H1 w1 r1 => ⟨by rw [r1.length]; exact hd.1, fun p hp => k.tup w1 r1 hd.2 hp⟩, x⟩
/-- a new list -/
theorem fOk.new {S H : Hp} {P : List D → Prop} {Q : VK} (k : fOk mg S H P Q) {S' H' : Hp} (w : Wd S H S' H') {vs : List V} {ds : List D} (r : Reps mg S' vs ds) (h : P ds) {p : Addr} (hp : H' p = none) : Q (.ref p) (upd H' p (.lst vs)) :=
  k _ h _ _ _ _ (w.mut _ (w.free hp) (w.sfree hp)) (w.free hp) (w.sfree hp) upd_same r
def fLst (t : TAd) : TAd := fun ρ P Xp => t ρ (fun ds => ds.length ≤ sizeLine ∧ P ds) Xp
theorem df_lst (h : DA X W es tr) : DF X W (.List es pos) (fLst tr) := PE.weak (pe_lst h) fun σ H Q ⟨S0, H0, S, ρ, P, Xp, R, h, k, x⟩ =>
  ⟨S0, H0, S, ρ, _, Xp, R, h, fun ds hd vs S1 H1 w1 r1 => ⟨by rw [r1.length]; exact hd.1, fun p hp => k.new w1 r1 hd.2 hp⟩, x⟩
/-- a new list as a value that is changed no more -/
def eF (t : TAd) : TEd := fun ρ P Xp => t ρ (fun l => P (.lst l)) Xp
theorem de_f {t : TAd} (h : DF X W e t) : DE X W e (eF t) := PE.weak h fun σ H Q ⟨S0, H0, S, ρ, P, Xp, R, h, k, x⟩ => ⟨S0, H0, S, ρ, _, Xp, R, h, k.frz, x⟩
/-! ### calls -/
abbrev Cd := List D → (D → Prop) → Prop
abbrev Fd := List D → (List D → Prop) → Prop
def cL (mg : Mg) (c : Cd) : List V → Hp → VK → Prop := fun vs H Q => ∃ S ds P, Same S H ∧ Reps mg S vs ds ∧ c ds P ∧ vOk mg S H P Q
def cF (mg : Mg) (c : Fd) : List V → Hp → VK → Prop := fun vs H Q => ∃ S ds P, Same S H ∧ Reps mg S vs ds ∧ c ds P ∧ fOk mg S H P Q
def eCB (c : Cd) (t : TAd) : TEd := fun ρ P Xp => t ρ (fun ds => c ds P) Xp
def fCB (c : Fd) (t : TAd) : TAd := fun ρ P Xp => t ρ (fun ds => c ds P) Xp
theorem lift_cb {c : Cd} {t : TAd} (σ : L2.St) (H : Hp) (Q : VK) (h : liftE mg W (eCB c t) σ H Q) : tCB (cL mg c) (liftA mg W t) σ H Q := by
  obtain ⟨S0, H0, S, ρ, P, Xp, R, h, k, x⟩ := h
  exact ⟨S0, H0, S, ρ, _, Xp, R, h, fun ds hd vs S1 H1 w1 r1 => ⟨S1, ds, P, w1.sh, r1, hd, k.grow w1⟩, x⟩
theorem lift_fb {c : Fd} {t : TAd} (σ : L2.St) (H : Hp) (Q : VK) (h : liftF mg W (fCB c t) σ H Q) : tCB (cF mg c) (liftA mg W t) σ H Q := by
  obtain ⟨S0, H0, S, ρ, P, Xp, R, h, k, x⟩ := h
  exact ⟨S0, H0, S, ρ, _, Xp, R, h, fun ds hd vs S1 H1 w1 r1 => ⟨S1, ds, P, w1.sh, r1, hd, k.grow w1⟩, x⟩
variable {x : Str} {p : Pos} {id T : String}
theorem de_callB {c : Cd} (hc : CallR X (.builtin id) (cL (gd X) c)) (hg : Gl X x) (hm : X.mg x = none) (hv : bootBuiltins x = some (.builtin id)) (ha : DA X W (e :: es) tr) (hn : x ≠ "__name__" := by decide) (hdb : (x == ("__debug__" : Str)) = false := by decide)
    (he : starEach (e :: es) X.env = (false, eval e X.env) :: starEach es X.env := by rfl) (hpl : (backTo pos (starEach es X.env)).any (·.1) = false := by rfl) : DE X W (.Call (.Name x p) (e :: es) [] pos) (eCB c tr) :=
  PE.weak (pe_callB hc hg hm hv ha hn hdb he hpl) lift_cb
theorem de_callTy {c : Cd} (hc : CallR X (.type T) (cL (gd X) c)) (hg : Gl X x) (hm : X.mg x = none) (hv : bootBuiltins x = some (.type T)) (ha : DA X W (e :: es) tr) (hn : x ≠ "__name__" := by decide) (hdb : (x == ("__debug__" : Str)) = false := by decide)
    (he : starEach (e :: es) X.env = (false, eval e X.env) :: starEach es X.env := by rfl) (hpl : (backTo pos (starEach es X.env)).any (·.1) = false := by rfl) : DE X W (.Call (.Name x p) (e :: es) [] pos) (eCB c tr) :=
  PE.weak (pe_callTy hc hg hm hv ha hn hdb he hpl) lift_cb
theorem df_callB {c : Fd} (hc : CallR X (.builtin id) (cF (gd X) c)) (hg : Gl X x) (hm : X.mg x = none) (hv : bootBuiltins x = some (.builtin id)) (ha : DA X W (e :: es) tr) (hn : x ≠ "__name__" := by decide) (hdb : (x == ("__debug__" : Str)) = false := by decide)
    (he : starEach (e :: es) X.env = (false, eval e X.env) :: starEach es X.env := by rfl) (hpl : (backTo pos (starEach es X.env)).any (·.1) = false := by rfl) : DF X W (.Call (.Name x p) (e :: es) [] pos) (fCB c tr) :=
  PE.weak (pe_callB hc hg hm hv ha hn hdb he hpl) lift_fb
theorem df_callTy {c : Fd} (hc : CallR X (.type T) (cF (gd X) c)) (hg : Gl X x) (hm : X.mg x = none) (hv : bootBuiltins x = some (.type T)) (ha : DA X W (e :: es) tr) (hn : x ≠ "__name__" := by decide) (hdb : (x == ("__debug__" : Str)) = false := by decide)
    (he : starEach (e :: es) X.env = (false, eval e X.env) :: starEach es X.env := by rfl) (hpl : (backTo pos (starEach es X.env)).any (·.1) = false := by rfl) : DF X W (.Call (.Name x p) (e :: es) [] pos) (fCB c tr) :=
  PE.weak (pe_callTy hc hg hm hv ha hn hdb he hpl) lift_fb
/-- a module's name for a built-in function -/
theorem de_callBfun {c : Cd} (hc : CallR X (.builtin id) (cL (gd X) c)) (hg : Gl X x) (hm : X.mg x = some (.builtin id)) (ha : DA X W (e :: es) tr) (hdb : (x == ("__debug__" : Str)) = false := by decide)
    (he : starEach (e :: es) X.env = (false, eval e X.env) :: starEach es X.env := by rfl) (hpl : (backTo pos (starEach es X.env)).any (·.1) = false := by rfl) : DE X W (.Call (.Name x p) (e :: es) [] pos) (eCB c tr) :=
  PE.weak (pe_callBfun hc hg hm ha hdb he hpl) lift_cb
/-! ### what is let out -/
theorem passLN {X : Cx} : Passes (L2N.CX X.prog X.w) X E0 := fun _ _ _ _ _ _ _ h => by
  obtain ⟨_, _, _, _, _, _, _, _, _, _, _, _, z⟩ := h
  exact z.elim
theorem takesN0 {X : Cx} : L2N.Takes X (fun _ _ _ _ => False) := fun _ _ x => by
  obtain ⟨_, _, _, _, _, _, _, _, _, _, _, _, _, _, _, _, z⟩ := x
  exact z.elim
theorem okN {P : Program} {w : World} {K : PySem.W.Frag} {mg : Str → Option Value} {base : Heap} {x qual : Str} {st : Stmt} {f : Addr} {fd : FuncData} {N ps : List Str} {k : Nat} {sp : Sp} (F : Fun K x qual st f fd) (S : FnScope N ps (defScope st)) (len : ∀ vs H Q E, sp vs H Q E → vs.length = ps.length)
    (hbody : ∀ (cdv : Value) (A : Around) (outer : List Env) (s : Shared) (H : Hp) (vs : List V) (Q : VK) (E : XK), Room k (A.deeper (envOfC qual (defScope st) s.heap.objs.size f cdv)) → sp vs H Q E →
      ∃ t, PSs (cxOf (L2N.CX P w) P w K mg base N qual (defScope st) f cdv A outer s H E) (defBody st) t ∧ t { nx := fun _ H' => Q .non H', rt := Q } (L2.start N vs) H) : FnOk P w K mg base (L2N.CX P w) (k + 1) f fd ps sp := by
  obtain ⟨oc, od, kV, doc, pm, an, cdv, ct, osl, rfl, lk, hcd⟩ := F.ex
  exact fn_of lk hcd S len fun A outer s H vs Q E hr hsp => hbody cdv A outer s H vs Q E hr hsp
/-! ### what a def promises, told of data -/
abbrev Spd := List D → (D → Prop) → Xd → Prop
def spL (mg : Mg) (n : Nat) (sp : Spd) : Sp := fun vs H Q E => vs.length = n ∧ ∃ S ds P Xp, Same S H ∧ Reps mg S vs ds ∧ sp ds P Xp ∧ vOk mg S H P Q ∧
  ∀ C fs, Xp C fs → ∀ c d' S' H', mg.m C = some (.ref c) → Wd S H S' H' → RepX mg S' H' d' fs → E (.ref c) d' H'
def eCall (n : Nat) (sp : Spd) (t : TAd) : TEd := fun ρ P Xp => t ρ (fun ds => ds.length = n ∧ sp ds P Xp) Xp
/-- .. of a def that hands back a new list -/
abbrev Spf := List D → (List D → Prop) → Xd → Prop
def spF (mg : Mg) (n : Nat) (sp : Spf) : Sp := fun vs H Q E => vs.length = n ∧ ∃ S ds P Xp, Same S H ∧ Reps mg S vs ds ∧ sp ds P Xp ∧ fOk mg S H P Q ∧
  ∀ C fs, Xp C fs → ∀ c d' S' H', mg.m C = some (.ref c) → Wd S H S' H' → RepX mg S' H' d' fs → E (.ref c) d' H'
def fCall (n : Nat) (sp : Spf) (t : TAd) : TAd := fun ρ P Xp => t ρ (fun ds => ds.length = n ∧ sp ds P Xp) Xp
variable {k : Nat} {f : Addr} {fd : FuncData} {ps : List Str}
theorem de_call {sp : Spd} {n : Nat} (F : FnOk X.prog X.w X.K X.mg X.base (L2N.CX X.prog X.w) k f fd ps (spL (gd X) n sp)) (hr : Room k X.A) (hg : Gl X x) (hm : X.mg x = some (.ref f)) (hk : PySem.W.keepIn X.K (.ref f) = true) (hb : Binds X.K fd ps []) (tk : L2N.Takes X W)
    (ha : DA X W (e :: es) tr) (hdb : (x == ("__debug__" : Str)) = false := by decide) (he : starEach (e :: es) X.env = (false, eval e X.env) :: starEach es X.env := by rfl) (hpl : (backTo pos (starEach es X.env)).any (·.1) = false := by rfl) :
    DE X W (.Call (.Name x p) (e :: es) [] pos) (eCall n sp tr) :=
  PE.weak (pe_callS F hr hg hm hk hb (fun σ => L2N.passAt tk σ) ha hdb he hpl) fun σ H Q ⟨S0, H0, S, ρ, P, Xp, R, h, k, x⟩ =>
    ⟨S0, H0, S, ρ, _, Xp, R, h, fun ds hd vs S1 H1 w1 r1 => ⟨r1.length.trans hd.1, S1, ds, P, Xp, w1.sh, r1, hd.2, k.grow w1, x.grow w1⟩, x⟩
theorem df_call {sp : Spf} {n : Nat} (F : FnOk X.prog X.w X.K X.mg X.base (L2N.CX X.prog X.w) k f fd ps (spF (gd X) n sp)) (hr : Room k X.A) (hg : Gl X x) (hm : X.mg x = some (.ref f)) (hk : PySem.W.keepIn X.K (.ref f) = true) (hb : Binds X.K fd ps []) (tk : L2N.Takes X W)
    (ha : DA X W (e :: es) tr) (hdb : (x == ("__debug__" : Str)) = false := by decide) (he : starEach (e :: es) X.env = (false, eval e X.env) :: starEach es X.env := by rfl) (hpl : (backTo pos (starEach es X.env)).any (·.1) = false := by rfl) :
    DF X W (.Call (.Name x p) (e :: es) [] pos) (fCall n sp tr) :=
  PE.weak (pe_callS F hr hg hm hk hb (fun σ => L2N.passAt tk σ) ha hdb he hpl) fun σ H Q ⟨S0, H0, S, ρ, P, Xp, R, h, k, x⟩ =>
    ⟨S0, H0, S, ρ, _, Xp, R, h, fun ds hd vs S1 H1 w1 r1 => ⟨r1.length.trans hd.1, S1, ds, P, Xp, w1.sh, r1, hd.2, k.grow w1, x.grow w1⟩, x⟩
/-! ### subscripts -/
def eIx (a b : TEd) (o : O2) : TEd := eOp o a b
theorem de_ix {o : O2} (hr : IxR X (rL (gd X) o)) (ha : DE X W a ta) (hb : DE X W b tb) (hs : PlainIx b) : DE X W (.Subscript a b pos) (eOp o ta tb) := PE.weak (pe_ix hr ha hb hs) lift_op
end
end Z

/-! Z: statements, loops, comprehensions, defs. -/
namespace Z
open PySem PySem.Spec PyProof.Rows L2

structure Ed where
  nx : En → Prop
  rt : D → Prop
  ro : Ow → Prop := fun _ => False
  bk : En → Prop := fun _ => False
  ct : En → Prop := fun _ => False
  xc : Str → List (Str × D) → En → Prop := fun _ _ _ => False
abbrev TSd := Ed → En → Prop
structure EdOk (mg : Mg) (W : WX) (S0 H0 S : Hp) (Φ : Ed) (Dn : Ends) : Prop where
  nx : ∀ ρ', Φ.nx ρ' → ∀ σ' S' H', RE mg S0 H0 S' H' σ' ρ' → Same S S' → Dn.nx σ' H'
  rt : ∀ d, Φ.rt d → ∀ v S' H', Wd S0 H0 S' H' → Rep mg S' v d → Dn.rt v H'
  ro : ∀ o, Φ.ro o → ∀ p S' H', Wd S0 H0 S' H' → (∀ q ∈ fpx p o, H0 q = none ∧ S' q = none) → OwAt mg S' H' p o → Dn.rt (.ref p) H'
  bk : ∀ ρ', Φ.bk ρ' → ∀ σ' S' H', RE mg S0 H0 S' H' σ' ρ' → Same S S' → Dn.bk σ' H'
  ct : ∀ ρ', Φ.ct ρ' → ∀ σ' S' H', RE mg S0 H0 S' H' σ' ρ' → Same S S' → Dn.ct σ' H'
  xc : ∀ C fs ρ', Φ.xc C fs ρ' → ∀ c d' σ' S' H', mg.m C = some (.ref c) → RE mg S0 H0 S' H' σ' ρ' → RepX mg S' H' d' fs → Same S S' → W (.ref c) d' σ' H'
def liftS (mg : Mg) (W : WX) (ts : TSd) : TS := fun Dn σ H => ∃ S0 H0 S ρ Φ, RE mg S0 H0 S H σ ρ ∧ ts Φ ρ ∧ EdOk mg W S0 H0 S Φ Dn
theorem EdOk.mono {mg : Mg} {W : WX} {S0 H0 S S' : Hp} {Φ : Ed} {Dn : Ends} (k : EdOk mg W S0 H0 S Φ Dn) (h : Same S S') : EdOk mg W S0 H0 S' Φ Dn where
  nx := fun ρ' h' σ' S2 H' R s => k.nx ρ' h' σ' S2 H' R (h.trans s)
  rt := k.rt
  ro := k.ro
  bk := fun ρ' h' σ' S2 H' R s => k.bk ρ' h' σ' S2 H' R (h.trans s)
  ct := fun ρ' h' σ' S2 H' R s => k.ct ρ' h' σ' S2 H' R (h.trans s)
  xc := fun C fs ρ' h' c d' σ' S2 H' e R rx s => k.xc C fs ρ' h' c d' σ' S2 H' e R rx (h.trans s)
theorem PS.weak {X : Cx} {e : Stmt} {t t' : TS} (h : PS X e t) (w : ∀ D σ H, t' D σ H → t D σ H) : PS X e t' := ⟨fun p s σ H D I q => h.run p s σ H D I (w D σ H q)⟩
theorem PSs.weak {X : Cx} {e : List Stmt} {t t' : TS} (h : PSs X e t) (w : ∀ D σ H, t' D σ H → t D σ H) : PSs X e t' := ⟨fun p s σ H D I q => h.run p s σ H D I (w D σ H q)⟩
abbrev DS (X : Cx) (W : WX) (st : Stmt) (ts : TSd) : Prop := PS X st (liftS (gd X) W ts)
abbrev DSs (X : Cx) (W : WX) (st : List Stmt) (ts : TSd) : Prop := PSs X st (liftS (gd X) W ts)

section
variable {X : Cx} {W : WX} {pos : Pos} {mg : Mg} {st : Stmt} {rest : List Stmt} {t u : TSd} {e : Expr} {te : TEd} {tf : TAd} {S0 H0 S H : Hp} {σ : L2.St} {ρ : En} {Φ : Ed} {Dn : Ends}
theorem EdOk.x (k : EdOk mg W S0 H0 S Φ Dn) (R : RE mg S0 H0 S H σ ρ) : xOk mg W σ S H (fun C fs => Φ.xc C fs ρ) := fun C fs h c d' S' H' e w r => k.xc C fs ρ h c d' σ S' H' e (R.grow w) r w.ss
def sNext : TSd := fun Φ ρ => Φ.nx ρ
def sSeq (t u : TSd) : TSd := fun Φ ρ => t { Φ with nx := u Φ } ρ
theorem dss_nil : DSs X W [] sNext := PSs.weak pss_nil fun D σ H ⟨S0, H0, S, ρ, Φ, R, h, k⟩ => k.nx ρ h σ S H R (Same.refl _)
theorem lift_seq (D : Ends) (σ : L2.St) (H : Hp) (h : liftS mg W (sSeq t u) D σ H) : L2.tSeq (liftS mg W t) (liftS mg W u) D σ H := by
  obtain ⟨S0, H0, S, ρ, Φ, R, h, k⟩ := h
  exact ⟨S0, H0, S, ρ, { Φ with nx := u Φ }, R, h, { nx := fun ρ' h' σ' S' H' R' s => ⟨S0, H0, S', ρ', Φ, R', h', k.mono s⟩, rt := k.rt, ro := k.ro, bk := k.bk, ct := k.ct, xc := k.xc }⟩
theorem dss_cons (h1 : DS X W st t) (h2 : DSs X W rest u) : DSs X W (st :: rest) (sSeq t u) := PSs.weak (pss_cons h1 h2) lift_seq
theorem dss_one (h1 : DS X W st t) : DSs X W [st] t := pss_one h1
def sBrk : TSd := fun Φ ρ => Φ.bk ρ
def sCont : TSd := fun Φ ρ => Φ.ct ρ
theorem ds_pass : DS X W (.Pass pos) sNext := PS.weak ps_pass fun D σ H ⟨S0, H0, S, ρ, Φ, R, h, k⟩ => k.nx ρ h σ S H R (Same.refl _)
theorem ds_break : DS X W (.Break pos) sBrk := PS.weak ps_break fun D σ H ⟨S0, H0, S, ρ, Φ, R, h, k⟩ => k.bk ρ h σ S H R (Same.refl _)
theorem ds_continue : DS X W (.Continue pos) sCont := PS.weak ps_continue fun D σ H ⟨S0, H0, S, ρ, Φ, R, h, k⟩ => k.ct ρ h σ S H R (Same.refl _)
theorem ds_doc {x j pos'} : DS X W (.Expr (.Constant (.str x) j pos) pos') sNext := PS.weak ps_doc fun D σ H ⟨S0, H0, S, ρ, Φ, R, h, k⟩ => k.nx ρ h σ S H R (Same.refl _)
def sDrop (te : TEd) : TSd := fun Φ ρ => te ρ (fun _ => Φ.nx ρ) (fun C fs => Φ.xc C fs ρ)
theorem ds_expr (he : DE X W e te) (hs : swapsWith e none pos.line X.env = pure false := by rfl) : DS X W (.Expr e pos) (sDrop te) := PS.weak (ps_expr he hs) fun D σ H ⟨S0, H0, S, ρ, Φ, R, h, k⟩ =>
  ⟨S0, H0, S, ρ, _, _, R, h, fun d hd v S1 H1 w1 r1 => k.nx ρ hd σ S1 H1 (R.grow w1) w1.ss, k.x R⟩
def sRet (te : TEd) : TSd := fun Φ ρ => te ρ Φ.rt (fun C fs => Φ.xc C fs ρ)
theorem ds_ret (he : DE X W e te) : DS X W (.Return (some e) pos) (sRet te) := PS.weak (ps_ret he) fun D σ H ⟨S0, H0, S, ρ, Φ, R, h, k⟩ =>
  ⟨S0, H0, S, ρ, _, _, R, h, fun d hd v S1 H1 w1 r1 => k.rt d hd v S1 H1 (R.wd.trans w1) r1, k.x R⟩
/-- a new list is handed back -/
def sRetF (tf : TAd) : TSd := fun Φ ρ => tf ρ (fun l => Φ.ro (.lst l)) (fun C fs => Φ.xc C fs ρ)
theorem ds_retF (he : DF X W e tf) : DS X W (.Return (some e) pos) (sRetF tf) := PS.weak (ps_ret he) fun D σ H ⟨S0, H0, S, ρ, Φ, R, h, k⟩ =>
  ⟨S0, H0, S, ρ, _, _, R, h, fun l hd p vs S1 H1 w1 hp hs e1 r1 => k.ro _ hd p S1 H1 (R.wd.trans w1) (fun q hq => by rw [List.mem_singleton.mp hq]; exact ⟨R.wd.free hp, hs⟩) ⟨vs, e1, r1⟩, k.x R⟩
def sRetN : TSd := fun Φ _ => Φ.rt .non
theorem ds_retN : DS X W (.Return none pos) sRetN := PS.weak ps_retN fun D σ H ⟨S0, H0, S, ρ, Φ, R, h, k⟩ => k.rt _ h _ S H R.wd .non
/-- an object of our own is handed back -/
def sRetO (i : Nat) : TSd := fun Φ ρ => ∃ o, ρ[i]? = some (.own o) ∧ Φ.ro o
theorem ds_retO {i : Nat} (he : PE X e (tVar i)) : DS X W (.Return (some e) pos) (sRetO i) := PS.weak (ps_ret he) fun D σ H ⟨S0, H0, S, ρ, Φ, R, ⟨o, ho, h⟩, k⟩ => by
  obtain ⟨p, h1, h2, h4⟩ := R.atF ho
  exact ⟨_, h1, k.ro o h p S H R.wd h2 h4⟩
def sIf (c : TTd) (t u : TSd) : TSd := fun Φ ρ => c ρ (fun b => if b = true then t Φ ρ else u Φ ρ) (fun C fs => Φ.xc C fs ρ)
theorem ds_if {c : Expr} {a b : List Stmt} {tc : TTd} (hc : DT X W c tc) (ha : DSs X W a t) (hb : DSs X W b u) : DS X W (.If c a b pos) (sIf tc t u) := PS.weak (ps_if hc ha hb) fun D σ H ⟨S0, H0, S, ρ, Φ, R, h, k⟩ =>
  ⟨S0, H0, S, ρ, _, _, R, h, fun b hb S1 H1 w1 => by
    cases b with
    | true => rw [if_pos rfl] at hb ⊢; exact ⟨S0, H0, S1, ρ, Φ, R.grow w1, hb, k.mono w1.ss⟩
    | false => rw [if_neg Bool.false_ne_true] at hb ⊢; exact ⟨S0, H0, S1, ρ, Φ, R.grow w1, hb, k.mono w1.ss⟩, k.x R⟩
/-! ### targets -/
abbrev TGd := D → En → (En → Prop) → Prop
abbrev TGsd := List D → En → (En → Prop) → Prop
def liftG (mg : Mg) (vs : List Nat) (tg : TGd) : TG := fun v σ H Q => ∃ S0 H0 S ρ d P, RE mg S0 H0 S H σ ρ ∧ Rep mg S v d ∧ tg d ρ P ∧ ∀ ρ', P ρ' → ∀ σ' S' H', RE mg S0 H0 S' H' σ' ρ' → wipe σ' vs = wipe σ vs → Wd S H S' H' → Q σ' H'
def liftGs (mg : Mg) (vs : List Nat) (tg : TGsd) : TGs := fun us σ H Q => ∃ S0 H0 S ρ ds P, RE mg S0 H0 S H σ ρ ∧ Reps mg S us ds ∧ tg ds ρ P ∧ ∀ ρ', P ρ' → ∀ σ' S' H', RE mg S0 H0 S' H' σ' ρ' → wipe σ' vs = wipe σ vs → Wd S H S' H' → Q σ' H'
abbrev DG (X : Cx) (vs : List Nat) (e : Expr) (tg : TGd) : Prop := PG X e (liftG (gd X) vs tg)
abbrev DGs (X : Cx) (vs : List Nat) (es : List Expr) (tg : TGsd) : Prop := PGs X es (liftGs (gd X) vs tg)
theorem PG.weak {X : Cx} {e : Expr} {t t' : TG} (h : PG X e t) (w : ∀ v σ H Q, t' v σ H Q → t v σ H Q) : PG X e t' := ⟨fun p s σ H v u Q I r q => h.run p s σ H v u Q I r (w v σ H Q q)⟩
theorem PGs.weak {X : Cx} {e : List Expr} {t t' : TGs} (h : PGs X e t) (w : ∀ v σ H Q, t' v σ H Q → t v σ H Q) : PGs X e t' := ⟨fun p s σ H v u Q I r q => h.run p s σ H v u Q I r (w v σ H Q q)⟩
theorem wipe_get (σ : L2.St) (j : Nat) : ∀ vs : List Nat, (wipe σ vs)[j]? = if j ∈ vs ∧ j < σ.length then some none else σ[j]?
  | [] => by simp [wipe]
  | v :: vs => by
    have ih := wipe_get σ j vs
    have hl : (wipe σ vs).length = σ.length := wipe_length σ vs
    unfold wipe
    by_cases c : v = j
    · subst c
      by_cases hj : v < σ.length
      · rw [List.getElem?_set_self (by rw [hl]; exact hj), if_pos ⟨List.mem_cons_self, hj⟩]
      · rw [if_neg (fun z => hj z.2), List.getElem?_eq_none (by simpa [hl] using hj), List.getElem?_eq_none (by simpa using hj)]
    · rw [List.getElem?_set_ne c, ih]
      have q : (j ∈ v :: vs ∧ j < σ.length) ↔ (j ∈ vs ∧ j < σ.length) := by
        constructor
        · rintro ⟨a, b⟩
          rcases List.mem_cons.mp a with z | z
          · exact absurd z.symm c
          · exact ⟨z, b⟩
        · rintro ⟨a, b⟩; exact ⟨List.mem_cons_of_mem _ a, b⟩
      simp only [q]
theorem wipe_set {σ : L2.St} {i : Nat} {x : Option V} {vs : List Nat} (h : i ∈ vs) : wipe (σ.set i x) vs = wipe σ vs := by
  apply List.ext_getElem?
  intro j
  rw [wipe_get, wipe_get, List.length_set]
  by_cases c : j ∈ vs ∧ j < σ.length
  · rw [if_pos c, if_pos c]
  · rw [if_neg c, if_neg c]
    by_cases q : i = j
    · subst q
      have hj : ¬ i < σ.length := fun z => c ⟨h, z⟩
      rw [List.getElem?_eq_none (by simpa using hj), List.getElem?_eq_none (by simpa using hj)]
    · rw [List.getElem?_set_ne q]
theorem wipe_wipe {σ : L2.St} {vs : List Nat} : wipe (wipe σ vs) vs = wipe σ vs := by
  apply List.ext_getElem?
  intro j
  rw [wipe_get, wipe_length, wipe_get]
  by_cases c : j ∈ vs ∧ j < σ.length
  · simp only [if_pos c]
  · simp only [if_neg c]
def gN (i : Nat) : TGd := fun d ρ P => P (ρ.set i (.val d))
theorem dg_name {i : Nat} {x : Str} {vs : List Nat} (hN : X.N.Nodup) (hi : X.N[i]? = some x) (hx : Loc X.env.scope x) (hf : X.fn x = true ∨ X.env.scope.names.lookup x = some .local := by first | exact .inl rfl | exact .inr rfl | assumption) (hv : i ∈ vs := by decide) : DG X vs (.Name x pos) (gN i) :=
  PG.weak (pg_name hN hi hx hf) fun v σ H Q ⟨S0, H0, S, ρ, d, P, R, r, h, k⟩ => k _ h _ S H (R.set r) (wipe_set hv) (.refl R.wd.sh)
def gsNil : TGsd := fun ds ρ P => ds = [] ∧ P ρ
def gsCons (t : TGd) (u : TGsd) : TGsd := fun ds ρ P => match ds with | d :: r => t d ρ fun ρ' => u r ρ' P | [] => False
def asTup (d : D) (n : Nat) (P : List D → Prop) : Prop := match d with | .tup l => l.length = n ∧ P l | _ => False
theorem dgs_nil {vs : List Nat} : DGs X vs [] gsNil := PGs.weak pgs_nil fun us σ H Q ⟨S0, H0, S, ρ, ds, P, R, r, h, k⟩ => by
  obtain ⟨rfl, h⟩ := h
  cases r
  exact ⟨rfl, k _ h _ S H R rfl (.refl R.wd.sh)⟩
theorem dgs_cons {vs : List Nat} {es : List Expr} {t : TGd} {u : TGsd} (h1 : DG X vs e t) (h2 : DGs X vs es u) (hs : (assignEach (e :: es) X.env).map (·.2) = assign e X.env :: (assignEach es X.env).map (·.2) := by rfl) : DGs X vs (e :: es) (gsCons t u) :=
  PGs.weak (pgs_cons h1 h2 hs) fun us σ H Q ⟨S0, H0, S, ρ, ds, P, R, r, h, k⟩ => by
    cases r with
    | nil => exact h.elim
    | cons r rs => exact ⟨_, _, rfl, S0, H0, S, ρ, _, _, R, r, h, fun ρ' h' σ' S' H' R' wi w => ⟨S0, H0, S', ρ', _, P, R', rs.mono w.ss, h', fun ρ2 h2 σ2 S2 H2 R2 wi2 w2 => k ρ2 h2 σ2 S2 H2 R2 (wi2.trans wi) (w.trans w2)⟩⟩
def gTup (n : Nat) (t : TGsd) : TGd := fun d ρ P => asTup d n fun l => t l ρ P
theorem dg_tup {vs : List Nat} {es : List Expr} {k : Nat} {t : TGsd} {n : Nat} (hc : X.calm = true) (h : DGs X vs es t)
    (hn : (assignEach es X.env).length = n := by rfl) (hst : (assignEach es X.env).findIdx? (·.1) = none := by rfl) : DG X vs (.Tuple es k pos) (gTup n t) :=
  PG.weak (pg_tup hc h hn hst) fun v σ H Q ⟨S0, H0, S, ρ, d, P, R, r, h, k⟩ => by
    cases r with
    | tup e r => exact ⟨_, _, rfl, .inl (.inl (R.wd.sh _ _ e)), r.length.trans h.1, S0, H0, S, ρ, _, P, R, r, h.2, k⟩
    | _ => exact h.elim
/-! ### assignment -/
def sAsg (te : TEd) (tg : TGd) : TSd := fun Φ ρ => te ρ (fun d => tg d ρ Φ.nx) (fun C fs => Φ.xc C fs ρ)
theorem lift_asg {vs : List Nat} {tg : TGd} (D : Ends) (σ : L2.St) (H : Hp) (h : liftS mg W (sAsg te tg) D σ H) : L2.tAsg (liftE mg W te) (liftG mg vs tg) D σ H := by
  obtain ⟨S0, H0, S, ρ, Φ, R, h, k⟩ := h
  exact ⟨S0, H0, S, ρ, _, _, R, h, fun d hd v S1 H1 w1 r1 => ⟨S0, H0, S1, ρ, d, _, R.grow w1, r1, hd, fun ρ' h' σ' S' H' R' _ w => k.nx ρ' h' σ' S' H' R' (w1.ss.trans w.ss)⟩, k.x R⟩
theorem ds_asg {vs : List Nat} {tg : Expr} {g : TGd} (he : DE X W e te) (hg : DG X vs tg g) (hs : swapsWithSole [tg] e pos.line X.env = pure false := by rfl) (hw : swappedStores [tg] e X.env = pure none := by rfl)
    (h1 : (assignEach [tg] X.env).map (·.2) = [assign tg X.env] := by rfl) : DS X W (.Assign [tg] e pos) (sAsg te g) := PS.weak (ps_asg he hg hs hw h1) lift_asg
def sSet (te : TEd) (i : Nat) : TSd := fun Φ ρ => te ρ (fun d => Φ.nx (ρ.set i (.val d))) (fun C fs => Φ.xc C fs ρ)
theorem ds_set {i : Nat} {x : Str} {pos' : Pos} (hN : X.N.Nodup) (hi : X.N[i]? = some x) (hx : Loc X.env.scope x) (he : DE X W e te) (hs : swapsWith e (some (.Name x pos')) pos.line X.env = pure false := by rfl) (hf : X.fn x = true ∨ X.env.scope.names.lookup x = some .local := by first | exact .inl rfl | exact .inr rfl | assumption) :
    DS X W (.Assign [.Name x pos'] e pos) (sSet te i) := PS.weak (ps_set hN hi hx he hs hf) fun D σ H ⟨S0, H0, S, ρ, Φ, R, h, k⟩ =>
  ⟨S0, H0, S, ρ, _, _, R, h, fun d hd v S1 H1 w1 r1 => k.nx _ hd _ S1 H1 ((R.grow w1).set r1) w1.ss, k.x R⟩
/-- a new list into a slot, our own -/
def sSetF (tf : TAd) (i : Nat) : TSd := fun Φ ρ => tf ρ (fun l => Φ.nx (ρ.set i (.own (.lst l)))) (fun C fs => Φ.xc C fs ρ)
theorem ds_setF {i : Nat} {x : Str} {pos' : Pos} (hN : X.N.Nodup) (hi : X.N[i]? = some x) (hx : Loc X.env.scope x) (he : DF X W e tf) (hs : swapsWith e (some (.Name x pos')) pos.line X.env = pure false := by rfl) (hf : X.fn x = true ∨ X.env.scope.names.lookup x = some .local := by first | exact .inl rfl | exact .inr rfl | assumption) :
    DS X W (.Assign [.Name x pos'] e pos) (sSetF tf i) := PS.weak (ps_set hN hi hx he hs hf) fun D σ H ⟨S0, H0, S, ρ, Φ, R, h, k⟩ =>
  ⟨S0, H0, S, ρ, _, _, R, h, fun l hd p vs S1 H1 w1 hp hs e1 r1 => k.nx _ hd _ S1 H1 (R.setOwn w1 hp hs ⟨vs, e1, r1⟩) w1.ss, k.x R⟩
/-- slot i is changed no more -/
def sFrz (i : Nat) (t : TSd) : TSd := fun Φ ρ => match ρ[i]? with | some (.own o) => t Φ (ρ.set i (.val o.d)) | _ => t Φ ρ
theorem lift_frz {i : Nat} (D : Ends) (σ : L2.St) (H : Hp) (h : liftS mg W (sFrz i t) D σ H) : liftS mg W t D σ H := by
  obtain ⟨S0, H0, S, ρ, Φ, R, h, k⟩ := h
  unfold sFrz at h
  split at h
  · rename_i o ho
    obtain ⟨S', w, ss, R'⟩ := R.frz ho
    exact ⟨S0, H0, S', _, Φ, R', h, k.mono ss⟩
  · exact ⟨S0, H0, S, ρ, Φ, R, h, k⟩
theorem ds_frz (i : Nat) (h : DS X W st t) : DS X W st (sFrz i t) := PS.weak h lift_frz
/-- name op= e -/
def sAug (i : Nat) (te : TEd) (o : O2) : TSd := fun Φ ρ => te ρ (fun y => ∃ x, ρ[i]? = some (.val x) ∧ o x y fun d => Φ.nx (ρ.set i (.val d))) (fun C fs => Φ.xc C fs ρ)
/-! ### our own lists changed -/
theorem tyV_list {K : PySem.W.Frag} {H : Hp} {p : Addr} {vs : List V} (h : H p = some (.lst vs)) : tyV K "list" (.ref p) H := .inl ⟨rfl, _, .inl (.inl h)⟩
def sApp (i : Nat) (te : TEd) : TSd := fun Φ ρ => ∃ l, ρ[i]? = some (.own (.lst l)) ∧ te ρ (fun d => l.length < sizeLine ∧ Φ.nx (ρ.set i (.own (.lst (l ++ [d]))))) (fun C fs => Φ.xc C fs ρ)
theorem lift_app {K : PySem.W.Frag} {i : Nat} (D : Ends) (σ : L2.St) (H : Hp) (h : liftS mg W (sApp i te) D σ H) : L2.tDrop (tBM K "list" rAppend (tVar i) (L2.tCons (liftE mg W te) L2.tNil)) D σ H := by
  obtain ⟨S0, H0, S, ρ, Φ, R, ⟨l, hl, h⟩, k⟩ := h
  obtain ⟨p, h1, h2, h3, vs, h4, h5⟩ := R.at hl
  refine ⟨_, h1, tyV_list h4, S0, H0, S, ρ, _, _, R, h, fun d hd v S1 H1 w1 r1 => ?_, k.x R⟩
  have R1 := R.grow w1
  have e1 := w1.hh _ _ h4
  exact ⟨p, vs, v, rfl, rfl, e1, by rw [h5.length]; exact hd.1, k.nx _ hd.2 _ S1 _ (R1.mut hl h1 ⟨_, upd_same, (h5.mono w1.ss).append (.one r1)⟩) w1.ss⟩
/-- x.append(e), x in slot i -/
theorem ds_app {o : Expr} {i : Nat} {apos cpos : Pos} (ho : PE X o (tVar i)) (he : DE X W e te) (hbase : attributeBase o "append" X.env (eval o X.env) = eval o X.env := by rfl)
    (hfew : ((backTo cpos (starEach [e] X.env)).all (fun x => !x.1) && (backToKw cpos (keywordEach [] X.env)).all (fun x => x.1.isSome)
      && decide (([e] : List Expr).length + ([] : List Keyword).length + (if ([] : List Keyword).isEmpty then 0 else 1) < 30)) = true := by rfl)
    (hline : (apos.endLine == cpos.line) = true := by rfl) (hs : starEach [e] X.env = (false, eval e X.env) :: starEach [] X.env := by rfl) (hplain : (backTo cpos (starEach [] X.env)).any (·.1) = false := by rfl)
    (hsw : swapsWith (.Call (.Attribute o "append" apos) [e] [] cpos) none pos.line X.env = pure false := by rfl) : DS X W (.Expr (.Call (.Attribute o "append" apos) [e] [] cpos) pos) (sApp i te) :=
  PS.weak (ps_expr (pe_bm PySem.F.plainAttrs_list PySem.F.slot_list_append PySem.F.type_list_append mt_append ho (pa_cons he pa_nil hs) hbase hfew hline hs hplain) hsw) lift_app
/-- x[a] = e, x in slot i -/
def sSetIx (i : Nat) (tix te : TEd) : TSd := fun Φ ρ => te ρ (fun d => ∃ l, ρ[i]? = some (.own (.lst l)) ∧ tix ρ (fun z => ∃ n j, z = .int n ∧ ixN l.length n = some j ∧ Φ.nx (ρ.set i (.own (.lst (l.set j d))))) (fun C fs => Φ.xc C fs ρ)) (fun C fs => Φ.xc C fs ρ)
theorem lift_setIx {i : Nat} {tix : TEd} (D : Ends) (σ : L2.St) (H : Hp) (h : liftS mg W (sSetIx i tix te) D σ H) : L2.tAsg (liftE mg W te) (gSub (tVar i) (liftE mg W tix) rSetL) D σ H := by
  obtain ⟨S0, H0, S, ρ, Φ, R, h, k⟩ := h
  refine ⟨S0, H0, S, ρ, _, _, R, h, fun d hd v S1 H1 w1 r1 => ?_, k.x R⟩
  obtain ⟨l, hl, h⟩ := hd
  have R1 := R.grow w1
  obtain ⟨p, h1, h2, h3, vs, h4, h5⟩ := R1.at hl
  refine ⟨_, h1, S0, H0, S1, ρ, _, _, R1, h, fun z hz v2 S2 H2 w2 r2 => ?_, (k.mono w1.ss).x R1⟩
  obtain ⟨n, j, rfl, hj, hn⟩ := hz
  have R2 := R1.grow w2
  refine ⟨p, vs, n, j, rfl, r2.int_inv, w2.hh _ _ h4, by rw [h5.length]; exact hj, ?_⟩
  exact k.nx _ hn _ S2 _ (R2.mut hl h1 ⟨_, upd_same, (h5.mono w2.ss).set (r1.mono w2.ss) j⟩) (w1.ss.trans w2.ss)
theorem ds_setIx {o ix : Expr} {i : Nat} {tix : TEd} {tpos : Pos} (ho : PE X o (tVar i)) (hi : DE X W ix tix) (he : DE X W e te)
    (ha : ∀ v, assign (.Subscript o ix tpos) X.env v = (do
      let ov ← holding [v] (eval o X.env)
      let iv ← holding [v, ov] (eval ix X.env)
      standAt tpos
      holding [v, ov, iv] (setItem ov iv v)
      release [v, ov, iv] []) := by intro _; rfl)
    (hs : swapsWithSole [.Subscript o ix tpos] e pos.line X.env = pure false := by rfl) (hw : swappedStores [.Subscript o ix tpos] e X.env = pure none := by rfl)
    (h1 : (assignEach [.Subscript o ix tpos] X.env).map (·.2) = [assign (.Subscript o ix tpos) X.env] := by rfl) : DS X W (.Assign [.Subscript o ix tpos] e pos) (sSetIx i tix te) :=
  PS.weak (ps_asg he (pg_sub ho hi set_list ha) hs hw h1) lift_setIx
/-! ### loops -/
/-- an iterator of these items -/
structure ItOk (mg : Mg) (J : It) (S : Hp) (items : List D) : Prop where
  go : ∀ i H, Same S H → i < items.length → J.go i H
  stop : ∀ i H, Same S H → items.length ≤ i → J.stop i H
  yld : ∀ (i : Nat) S1 H x H', Same S S1 → Same S1 H → J.yld i H x H' → ∀ d, items[i]? = some d → ∃ S2, Wd S1 H S2 H' ∧ Rep mg S2 x d
def liftI (mg : Mg) (W : WX) (ti : TAd) : TI := fun σ H Q => ∃ S0 H0 S ρ P Xp, RE mg S0 H0 S H σ ρ ∧ ti ρ P Xp ∧ (∀ items, P items → ∀ J S' H', Wd S H S' H' → ItOk mg J S' items → Q J H') ∧ xOk mg W σ S H Xp
abbrev DI (X : Cx) (W : WX) (tg it : Expr) (ti : TAd) : Prop := PI X tg it (liftI (gd X) W ti)
theorem PI.weak {X : Cx} {e i : Expr} {t t' : TI} (h : PI X e i t) (w : ∀ σ H Q, t' σ H Q → t σ H Q) : PI X e i t' := ⟨fun p s σ H Q I q => h.run p s σ H Q I (w σ H Q q)⟩
def sFor (ti : TAd) (tg : TGd) (tb : TSd) : TSd := fun Φ ρ => ti ρ (fun items => ∃ I : Nat → En → Prop, I 0 ρ ∧
  (∀ (i : Nat) x ρ', items[i]? = some x → I i ρ' → tg x ρ' fun ρ2 => tb { Φ with nx := I (i + 1), ct := I (i + 1), bk := Φ.nx } ρ2) ∧ ∀ ρ', I items.length ρ' → Φ.nx ρ') (fun C fs => Φ.xc C fs ρ)
theorem lift_for {ti : TAd} {tg : TGd} {tb : TSd} {vs : List Nat} (D : Ends) (σ : L2.St) (H : Hp) (h : liftS mg W (sFor ti tg tb) D σ H) : L2.tFor (liftI mg W ti) (liftG mg vs tg) (liftS mg W tb) D σ H := by
  obtain ⟨S0, H0, S, ρ, Φ, R, h, k⟩ := h
  refine ⟨S0, H0, S, ρ, _, _, R, h, fun items ⟨I, i0, iS, iE⟩ J S1 H1 w1 ok => ?_, k.x R⟩
  refine ⟨fun i m σ' H' => ∃ S' ρ', RE mg S0 H0 S' H' σ' ρ' ∧ Same S1 S' ∧ I i ρ' ∧ i + m = items.length, ⟨items.length, S1, ρ, R.grow w1, Same.refl _, i0, by omega⟩, fun i m σ' H' ⟨S', ρ', R', s', hI, em⟩ => ?_⟩
  by_cases hi : i < items.length
  · refine .inr ⟨ok.go i H' (s'.trans R'.wd.sh) hi, fun σ2 H2 => ∃ S2 ρ2, RE mg S0 H0 S2 H2 σ2 ρ2 ∧ Same S1 S2 ∧ I (i + 1) ρ2, fun σ2 H2 ⟨S2, ρ2, R2, s2, hI2⟩ => ⟨m - 1, by omega, S2, ρ2, R2, s2, hI2, by omega⟩, fun x H2 hy => ?_⟩
    obtain ⟨S2, w2, r2⟩ := ok.yld i S' H' x H2 s' R'.wd.sh hy _ (List.getElem?_eq_getElem hi)
    refine ⟨S0, H0, S2, ρ', _, _, R'.grow w2, r2, iS i _ ρ' (List.getElem?_eq_getElem hi) hI, fun ρ3 h3 σ3 S3 H3 R3 _ w3 => ?_⟩
    have s3 : Same S1 S3 := s'.trans (w2.ss.trans w3.ss)
    exact ⟨S0, H0, S3, ρ3, _, R3, h3, { nx := fun ρ4 h4 σ4 S4 H4 R4 s4 => ⟨S4, ρ4, R4, s3.trans s4, h4⟩, rt := k.rt, ro := k.ro, bk := fun ρ4 h4 σ4 S4 H4 R4 s4 => k.nx ρ4 h4 σ4 S4 H4 R4 (w1.ss.trans (s3.trans s4)), ct := fun ρ4 h4 σ4 S4 H4 R4 s4 => ⟨S4, ρ4, R4, s3.trans s4, h4⟩, xc := fun C fs ρ4 h4 c4 d4 σ4 S4 H4 e4 R4 rx4 s4 => k.xc C fs ρ4 h4 c4 d4 σ4 S4 H4 e4 R4 rx4 (w1.ss.trans (s3.trans s4)) }⟩
  · have ei : i = items.length := by omega
    subst ei
    exact .inl ⟨ok.stop _ H' (s'.trans R'.wd.sh) (Nat.le_refl _), k.nx ρ' (iE ρ' hI) σ' S' H' R' (w1.ss.trans s')⟩
theorem ds_for {vs : List Nat} {tg iter : Expr} {body : List Stmt} {ti : TAd} {g : TGd} {tb : TSd} (hp : PassesOwn (model X.prog X.w) X.A X.env X.xe) (hc : X.calm = true) (hi : DI X W tg iter ti) (hg : DG X vs tg g) (hb : DSs X W body tb)
    (hs : ∀ x, foldedSetIterable iter X.env x = pure x := by intro _; rfl) : DS X W (.For tg iter body [] pos) (sFor ti g tb) := PS.weak (ps_for hp hc hi hg hb hs) lift_for
def sWhile (c : TTd) (tb : TSd) : TSd := fun Φ ρ => ∃ I : Nat → En → Prop, (∃ m, I m ρ) ∧ ∀ m ρ', I m ρ' → c ρ' (fun b => if b = true then tb { Φ with nx := fun r => ∃ m', m' < m ∧ I m' r, ct := fun r => ∃ m', m' < m ∧ I m' r, bk := Φ.nx } ρ' else Φ.nx ρ') (fun C fs => Φ.xc C fs ρ')
theorem lift_while {c : TTd} {tb : TSd} (D : Ends) (σ : L2.St) (H : Hp) (h : liftS mg W (sWhile c tb) D σ H) : L2.tWhile (liftT mg W c) (liftS mg W tb) D σ H := by
  obtain ⟨S0, H0, S, ρ, Φ, R, ⟨I, ⟨m, i0⟩, iS⟩, k⟩ := h
  refine ⟨fun m σ' H' => ∃ S' ρ', RE mg S0 H0 S' H' σ' ρ' ∧ Same S S' ∧ I m ρ', ⟨m, S, ρ, R, Same.refl _, i0⟩, fun m σ' H' ⟨S', ρ', R', s', hI⟩ => ?_⟩
  refine ⟨S0, H0, S', ρ', _, _, R', iS m ρ' hI, fun b hb S1 H1 w1 => ?_, (k.mono s').x R'⟩
  cases b with
  | true =>
    rw [if_pos rfl] at hb ⊢
    have s1 := s'.trans w1.ss
    refine ⟨fun σ2 H2 => ∃ S2 ρ2, RE mg S0 H0 S2 H2 σ2 ρ2 ∧ Same S S2 ∧ ∃ m', m' < m ∧ I m' ρ2, fun σ2 H2 ⟨S2, ρ2, R2, s2, m', hm, hI2⟩ => ⟨m', hm, S2, ρ2, R2, s2, hI2⟩, S0, H0, S1, ρ', _, R'.grow w1, hb, ?_⟩
    exact { nx := fun ρ4 h4 σ4 S4 H4 R4 s4 => ⟨S4, ρ4, R4, s1.trans s4, h4⟩, rt := k.rt, ro := k.ro, bk := fun ρ4 h4 σ4 S4 H4 R4 s4 => k.nx ρ4 h4 σ4 S4 H4 R4 (s1.trans s4), ct := fun ρ4 h4 σ4 S4 H4 R4 s4 => ⟨S4, ρ4, R4, s1.trans s4, h4⟩, xc := fun C fs ρ4 h4 c4 d4 σ4 S4 H4 e4 R4 rx4 s4 => k.xc C fs ρ4 h4 c4 d4 σ4 S4 H4 e4 R4 rx4 (s1.trans s4) }
  | false =>
    rw [if_neg Bool.false_ne_true] at hb ⊢
    exact k.nx ρ' hb σ' S1 H1 (R'.grow w1) (s'.trans w1.ss)
theorem ds_while {c : Expr} {body : List Stmt} {tc : TTd} {tb : TSd} (hp : PassesOwn (model X.prog X.w) X.A X.env X.xe) (hc : DT X W c tc) (hb : DSs X W body tb) : DS X W (.While c body [] pos) (sWhile tc tb) := PS.weak (ps_while hp hc hb) lift_while
/-! ### what is walked -/
theorem itl_ok {K : PySem.W.Frag} {S : Hp} {a : Addr} {vs : List V} {ds : List D} (h : SqL K S a vs) (r : Reps mg S vs ds) : ItOk mg (Itl K a) S ds where
  go := fun i H s hi => by
    have hi' : i < vs.length := by rw [r.length]; exact hi
    exact ⟨vs, vs[i], sq_mono s h, List.getElem?_eq_getElem hi'⟩
  stop := fun i H s hi => ⟨vs, sq_mono s h, by rw [r.length]; exact hi⟩
  yld := fun i S1 H x H' s1 s2 hy d hd => by
    obtain ⟨rfl, hy⟩ := hy
    obtain ⟨v, hv, rv⟩ := r.get hd
    have e := hy vs (sq_mono (s1.trans s2) h)
    rw [hv] at e
    cases e
    exact ⟨S1, .refl s2, rv.mono s1⟩
theorem itt_ok {K : PySem.W.Frag} {S : Hp} {a : Addr} {vs : List V} {ds : List D} (h : S a = some (.tup vs)) (r : Reps mg S vs ds) : ItOk mg (Itt K a) S ds where
  go := fun i H s hi => by
    have hi' : i < vs.length := by rw [r.length]; exact hi
    exact ⟨vs, vs[i], .inl (.inl (s _ _ h)), List.getElem?_eq_getElem hi'⟩
  stop := fun i H s hi => ⟨vs, .inl (.inl (s _ _ h)), by rw [r.length]; exact hi⟩
  yld := fun i S1 H x H' s1 s2 hy d hd => by
    obtain ⟨rfl, hy⟩ := hy
    obtain ⟨v, hv, rv⟩ := r.get hd
    have e := hy vs (.inl (.inl (s2 _ _ (s1 _ _ h))))
    rw [hv] at e
    cases e
    exact ⟨S1, .refl s2, rv.mono s1⟩
def rangeD (lo : Int) (n : Nat) : List D := (List.range n).map fun i => .int (lo + (i : Nat))
theorem rangeD_get {lo : Int} {n i : Nat} {d : D} (h : (rangeD lo n)[i]? = some d) : i < n ∧ d = .int (lo + (i : Nat)) := by
  unfold rangeD at h
  rw [List.getElem?_map] at h
  by_cases c : i < n
  · rw [List.getElem?_range c] at h
    exact ⟨c, (Option.some.inj h).symm⟩
  · rw [List.getElem?_eq_none (by simpa using c)] at h; cases h
theorem rangeD_length {lo : Int} {n : Nat} : (rangeD lo n).length = n := by unfold rangeD; simp
theorem itr_ok {S : Hp} {lo : Int} {n : Nat} : ItOk mg (Itr lo n) S (rangeD lo n) where
  go := fun i H s hi => by rw [rangeD_length] at hi; exact hi
  stop := fun i H s hi => by rw [rangeD_length] at hi; exact hi
  yld := fun i S1 H x H' s1 s2 hy d hd => by
    obtain ⟨rfl, rfl⟩ := hy
    obtain ⟨_, rfl⟩ := rangeD_get hd
    exact ⟨S1, .refl s2, .int _⟩
/-- a list or a tuple that stands: which of the two the caller says (the library's rules are two) -/
def iLst (te : TEd) : TAd := fun ρ P Xp => te ρ (fun d => match d with | .lst l => P l | _ => False) Xp
def iTup (te : TEd) : TAd := fun ρ P Xp => te ρ (fun d => match d with | .tup l => P l | _ => False) Xp
variable {tg l : Expr} {ta : TAd} {a b : Expr} {p : Pos}
theorem di_list (hl : DE X W l te) : DI X W tg l (iLst te) := PI.weak (pi_list hl) fun σ H Q ⟨S0, H0, S, ρ, P, Xp, R, h, k, x⟩ => ⟨S0, H0, S, ρ, _, Xp, R, h, fun d hd v S1 H1 w1 r1 => by
  cases r1 with
  | lst e r => exact ⟨_, rfl, ⟨_, .inl (rd_mono w1.sh e)⟩, k _ hd _ S1 H1 w1 (itl_ok (.inl e) r)⟩
  | _ => exact hd.elim, x⟩
theorem di_tup (hl : DE X W l te) : DI X W tg l (iTup te) := PI.weak (pi_tup hl) fun σ H Q ⟨S0, H0, S, ρ, P, Xp, R, h, k, x⟩ => ⟨S0, H0, S, ρ, _, Xp, R, h, fun d hd v S1 H1 w1 r1 => by
  cases r1 with
  | tup e r => exact ⟨_, rfl, ⟨_, .inl (.inl (w1.sh _ _ e))⟩, k _ hd _ S1 H1 w1 (itt_ok e r)⟩
  | _ => exact hd.elim, x⟩
/-- our own list in slot i, not changed by the loop -/
def iOwn (i : Nat) : TAd := fun ρ P _ => ∃ l, ρ[i]? = some (.own (.lst l)) ∧ P l
def rng1 (ds : List D) (P : List D → Prop) : Prop := match ds with | [.int j] => -(2 ^ 62) ≤ j ∧ j < 2 ^ 62 ∧ P (rangeD 0 j.toNat) | _ => False
def rng2 (ds : List D) (P : List D → Prop) : Prop := match ds with | [.int i, .int j] => (-(2 ^ 62) ≤ i ∧ i < 2 ^ 62 ∧ -(2 ^ 62) ≤ j ∧ j < 2 ^ 62) ∧ P (rangeD i (j - i).toNat) | _ => False
def iRng1 (ta : TAd) : TAd := fun ρ P Xp => ta ρ (fun ds => rng1 ds P) Xp
def iRng2 (ta : TAd) : TAd := fun ρ P Xp => ta ρ (fun ds => rng2 ds P) Xp
theorem Reps.one_inv {S : Hp} {vs : List V} {d : D} (h : Reps mg S vs [d]) : ∃ v, vs = [v] ∧ Rep mg S v d := by
  cases h with
  | cons h r => cases r; exact ⟨_, rfl, h⟩
theorem Reps.two_inv {S : Hp} {vs : List V} {d e : D} (h : Reps mg S vs [d, e]) : ∃ v u, vs = [v, u] ∧ Rep mg S v d ∧ Rep mg S u e := by
  cases h with
  | cons h r => cases r with
    | cons h2 r => cases r; exact ⟨_, _, rfl, h, h2⟩
theorem di_rng1 {pos : Pos} (hg : Gl X "range") (hm : X.mg "range" = none) (ha : DA X W [a] ta) (hs : starEach [a] X.env = [(false, eval a X.env)] := by rfl) : DI X W tg (.Call (.Name "range" p) [a] [] pos) (iRng1 ta) :=
  PI.weak (pi_range1 hg hm ha hs) fun σ H Q ⟨S0, H0, S, ρ, P, Xp, R, h, k, x⟩ => ⟨S0, H0, S, ρ, _, Xp, R, h, fun ds hd vs S1 H1 w1 r1 => by
    match ds, hd with
    | [.int j], hd =>
      obtain ⟨v, rfl, rv⟩ := r1.one_inv
      cases rv
      exact ⟨j, rfl, hd.1, hd.2.1, k _ hd.2.2 _ S1 H1 w1 itr_ok⟩, x⟩
theorem di_rng2 {pos : Pos} (hg : Gl X "range") (hm : X.mg "range" = none) (ha : DA X W [a, b] ta) (hs : starEach [a, b] X.env = [(false, eval a X.env), (false, eval b X.env)] := by rfl) (hs2 : starEach [b] X.env = [(false, eval b X.env)] := by rfl) :
    DI X W tg (.Call (.Name "range" p) [a, b] [] pos) (iRng2 ta) :=
  PI.weak (pi_range2 hg hm ha hs hs2) fun σ H Q ⟨S0, H0, S, ρ, P, Xp, R, h, k, x⟩ => ⟨S0, H0, S, ρ, _, Xp, R, h, fun ds hd vs S1 H1 w1 r1 => by
    match ds, hd with
    | [.int i, .int j], hd =>
      obtain ⟨v, u, rfl, rv, ru⟩ := r1.two_inv
      cases rv
      cases ru
      exact ⟨i, j, rfl, hd.1, k _ hd.2 _ S1 H1 w1 itr_ok⟩, x⟩
end
/-! ### comprehensions -/
def wipeD (ρ : En) : List Nat → En
  | [] => ρ
  | v :: vs => (wipeD ρ vs).set v .em
theorem wipeD_length (ρ : En) : ∀ vs : List Nat, (wipeD ρ vs).length = ρ.length
  | [] => rfl
  | v :: vs => by unfold wipeD; rw [List.length_set, wipeD_length ρ vs]
theorem wipeD_get (ρ : En) (j : Nat) : ∀ vs : List Nat, (wipeD ρ vs)[j]? = if j ∈ vs ∧ j < ρ.length then some .em else ρ[j]?
  | [] => by simp [wipeD]
  | v :: vs => by
    have ih := wipeD_get ρ j vs
    have hl : (wipeD ρ vs).length = ρ.length := wipeD_length ρ vs
    unfold wipeD
    by_cases c : v = j
    · subst c
      by_cases hj : v < ρ.length
      · rw [List.getElem?_set_self (by rw [hl]; exact hj), if_pos ⟨List.mem_cons_self, hj⟩]
      · rw [if_neg (fun z => hj z.2), List.getElem?_eq_none (by simpa [hl] using hj), List.getElem?_eq_none (by simpa using hj)]
    · rw [List.getElem?_set_ne c, ih]
      have q : (j ∈ v :: vs ∧ j < ρ.length) ↔ (j ∈ vs ∧ j < ρ.length) := by
        constructor
        · rintro ⟨a, b⟩
          rcases List.mem_cons.mp a with z | z
          · exact absurd z.symm c
          · exact ⟨z, b⟩
        · rintro ⟨a, b⟩; exact ⟨List.mem_cons_of_mem _ a, b⟩
      simp only [q]
theorem RE.wipe {mg : Mg} {S0 H0 S H : Hp} {σ : L2.St} {ρ : En} (R : RE mg S0 H0 S H σ ρ) (vs : List Nat) : RE mg S0 H0 S H (L2.wipe σ vs) (wipeD ρ vs) := by
  have old : ∀ (i : Nat) (s : Sl), (wipeD ρ vs)[i]? = some s → s = .em ∨ (ρ[i]? = some s ∧ (L2.wipe σ vs)[i]? = σ[i]?) := fun i s e => by
    rw [wipeD_get] at e
    rw [wipe_get, ← R.len]
    by_cases c : i ∈ vs ∧ i < ρ.length
    · rw [if_pos c] at e; exact .inl (Option.some.inj e).symm
    · rw [if_neg c] at e ⊢; exact .inr ⟨e, rfl⟩
  obtain ⟨A, h1, h2⟩ := R.own
  have o1 : ∀ (i : Nat) (o : Ow), (wipeD ρ vs)[i]? = some (.own o) → ρ[i]? = some (.own o) ∧ (L2.wipe σ vs)[i]? = σ[i]? := fun i o e => (old i _ e).resolve_left (by intro z; cases z)
  refine ⟨R.wd, by rw [wipeD_length, wipe_length]; exact R.len, fun i d e => ?_, A, fun i o e => ?_, fun i j o o' a b => h2 i j o o' (o1 i o a).1 (o1 j o' b).1⟩
  · have q := (old i _ e).resolve_left (by intro z; cases z)
    rw [q.2]; exact R.val i d q.1
  · have q := o1 i o e
    rw [q.2]; exact h1 i o q.1
/-- [elt for target in iter if ..] -/
def fLc (ti : TAd) (tg : TGd) (tt : TTd) (te : TEd) (vs : List Nat) : TAd := fun ρ P Xp => ti ρ (fun items => ∃ I : Nat → List D → Prop, I 0 [] ∧
  (∀ (i : Nat) x acc, items[i]? = some x → I i acc → tg x (wipeD ρ vs) fun ρ2 => tt ρ2 (fun b => if b = true then te ρ2 (fun y => acc.length < sizeLine ∧ I (i + 1) (acc ++ [y])) NoX else I (i + 1) acc) NoX) ∧ ∀ acc, I items.length acc → P acc) Xp
theorem lift_lc {mg : Mg} {W : WX} {ti : TAd} {tg : TGd} {tt : TTd} {te : TEd} {vs : List Nat} (σ : L2.St) (H : Hp) (Q : VK) (h : liftF mg W (fLc ti tg tt te vs) σ H Q) : tLc (liftI mg W ti) (liftG mg vs tg) (liftT mg W0 tt) (liftE mg W0 te) vs σ H Q := by
  obtain ⟨S0, H0, S, ρ, P, Xp, R, h, k, x⟩ := h
  refine ⟨S0, H0, S, ρ, _, Xp, R, h, fun items ⟨I, i0, iS, iE⟩ J S1 H1 w1 ok D hD => ?_, x⟩
  have hDH : H D = none := w1.free hD
  refine ⟨fun i m H' => ∃ S' acc vl, Wd S H S' H' ∧ Same S1 S' ∧ S' D = none ∧ H' D = some (.lst vl) ∧ Reps mg S' vl acc ∧ I i acc ∧ i + m = items.length,
    ⟨items.length, S1, [], [], w1.mut _ hDH (w1.sfree hD), Same.refl _, w1.sfree hD, upd_same, .nil, i0, by omega⟩, fun i m H' ⟨S', acc, vl, w', s', hs', e', r', hI, em⟩ => ?_⟩
  by_cases hi : i < items.length
  · refine .inr ⟨ok.go i H' (s'.trans w'.sh) hi, fun H2 => ∃ S2 acc2 vl2, Wd S H S2 H2 ∧ Same S1 S2 ∧ S2 D = none ∧ H2 D = some (.lst vl2) ∧ Reps mg S2 vl2 acc2 ∧ I (i + 1) acc2, fun H2 ⟨S2, acc2, vl2, w2, s2, hs2, e2, r2, hI2⟩ => ⟨m - 1, by omega, S2, acc2, vl2, w2, s2, hs2, e2, r2, hI2, by omega⟩, fun v H2 hy => ?_⟩
    obtain ⟨S2, w2, r2⟩ := ok.yld i S' H' v H2 s' w'.sh hy _ (List.getElem?_eq_getElem hi)
    have w02 := w'.trans w2
    have hsD : ∀ S3 H3, Wd S' H' S3 H3 → S3 D = none := fun S3 H3 w => w.nw D hs' (by rw [e']; intro z; cases z)
    refine ⟨S0, H0, S2, _, _, _, (R.grow w02).wipe vs, r2, iS i _ acc (List.getElem?_eq_getElem hi) hI, fun ρ3 h3 σ3 S3 H3 R3 ew w3 => ⟨ew.trans wipe_wipe, ?_⟩⟩
    have w23 := w2.trans w3
    refine ⟨S0, H0, S3, ρ3, _, _, R3, h3, fun b hb S4 H4 w4 => ?_, xOk.no⟩
    have w24 := w23.trans w4
    cases b with
    | true =>
      rw [if_pos rfl] at hb
      refine iteT ?_
      refine ⟨S0, H0, S4, ρ3, _, _, R3.grow w4, hb, fun y hy v5 S5 H5 w5 r5 => ?_, xOk.no⟩
      have w25 := w24.trans w5
      have e5 : H5 D = some (.lst vl) := w25.hh _ _ e'
      have s5 : S5 D = none := hsD _ _ w25
      refine ⟨vl, e5, by rw [r'.length]; exact hy.1, S5, acc ++ [y], vl ++ [v5], (w'.trans w25).mut _ hDH s5, s'.trans w25.ss, s5, upd_same, (r'.mono w25.ss).append (.one r5), hy.2⟩
    | false =>
      rw [if_neg Bool.false_ne_true] at hb
      refine iteF ?_
      exact ⟨S4, acc, vl, w'.trans w24, s'.trans w24.ss, hsD _ _ w24, w24.hh _ _ e', r'.mono w24.ss, hb⟩
  · have ei : i = items.length := by omega
    subst ei
    exact .inl ⟨ok.stop _ H' (s'.trans w'.sh) (Nat.le_refl _), k acc (iE acc hI) D vl S' H' w' hDH hs' e' r'⟩
def tYes : TTd := fun _ P _ => P true
abbrev DTs (X : Cx) (ifs : List Expr) (tt : TTd) : Prop := PTs X ifs (liftT (gd X) W0 tt)
section
variable {X : Cx} {W : WX} {elt tg iter : Expr} {ifs : List Expr} {scope : Scope} {own : List (Str × Nat)} {pos : Pos} {ti : TAd} {g : TGd} {tt : TTd} {te : TEd}
theorem dts_nil : DTs X [] tYes := ⟨fun pins s σ H Q I ⟨S0, H0, S, ρ, P, Xp, R, h, k, x⟩ => pts_nil.run pins s σ H Q I (k _ h S H (.refl R.wd.sh))⟩
theorem dts_one {c : Expr} (h : DT X W0 c tt) : DTs X [c] tt := pts_one h
theorem gd_blk (hc : X.calm = true) {s : Shared} {H : Hp} {cenv : Env} {fp : List Addr} : gd (X.blk s H scope cenv fp) = gd X := by
  show (⟨X.K, X.mg, bif X.calm then [] else ([] : List (Addr × Obj)).take 1⟩ : Mg) = ⟨X.K, X.mg, bif X.calm then [] else X.pn.take 1⟩
  rw [hc]
  rfl
theorem blkE (hc : X.calm = true) (h : ∀ (s : Shared) (H : Hp) (C : Addr) (cl : List (Str × Addr)) (fp : List Addr), DE (X.blk s H scope (compEnvC scope cl C X.env) fp) W0 elt te) (s : Shared) (H : Hp) (C : Addr) (cl : List (Str × Addr)) (fp : List Addr) :
    PE (X.blk s H scope (compEnvC scope cl C X.env) fp) elt (liftE (gd X) W0 te) := by
  have q := h s H C cl fp
  unfold DE at q
  rw [gd_blk hc] at q
  exact q
theorem blkT (hc : X.calm = true) (h : ∀ (s : Shared) (H : Hp) (C : Addr) (cl : List (Str × Addr)) (fp : List Addr), DTs (X.blk s H scope (compEnvC scope cl C X.env) fp) ifs tt) (s : Shared) (H : Hp) (C : Addr) (cl : List (Str × Addr)) (fp : List Addr) :
    PTs (X.blk s H scope (compEnvC scope cl C X.env) fp) ifs (liftT (gd X) W0 tt) := by
  have q := h s H C cl fp
  unfold DTs at q
  rw [gd_blk hc] at q
  exact q
theorem blkG (hc : X.calm = true) {vs : List Nat} (h : ∀ (s : Shared) (H : Hp) (C : Addr) (cl : List (Str × Addr)) (fp : List Addr), DG (X.blk s H scope (compEnvC scope cl C X.env) fp) vs tg g) (s : Shared) (H : Hp) (C : Addr) (cl : List (Str × Addr)) (fp : List Addr) :
    PG (X.blk s H scope (compEnvC scope cl C X.env) fp) tg (liftG (gd X) vs g) := by
  have q := h s H C cl fp
  unfold DG at q
  rw [gd_blk hc] at q
  exact q
theorem df_lc (hc : X.calm = true) (hN : X.N.Nodup) (hi : DI X W tg iter ti) (ok : BlkOk X.N X.env.scope scope own)
    (hg : ∀ (s : Shared) (H : Hp) (C : Addr) (cl : List (Str × Addr)) (fp : List Addr), DG (X.blk s H scope (compEnvC scope cl C X.env) fp) (own.map (·.2)) tg g) (ht : ∀ (s : Shared) (H : Hp) (C : Addr) (cl : List (Str × Addr)) (fp : List Addr), DTs (X.blk s H scope (compEnvC scope cl C X.env) fp) ifs tt)
    (he : ∀ (s : Shared) (H : Hp) (C : Addr) (cl : List (Str × Addr)) (fp : List Addr), DE (X.blk s H scope (compEnvC scope cl C X.env) fp) W0 elt te) (hs : ∀ x, foldedSetIterable iter X.env x = pure x := by intro _; rfl) :
    DF X W (.ListComp elt [⟨tg, iter, ifs, 0⟩] scope pos) (fLc ti g tt te (own.map (·.2))) := PE.weak (pe_lc hc hN hi ok (blkG hc hg) (blkT hc ht) (blkE hc he) hs) lift_lc
end
/-! ### defs -/
def startD (n : Nat) (ds : List D) : En := ds.map Sl.val ++ List.replicate (n - ds.length) .em
theorem startD_val : ∀ {ds : List D} {n i : Nat} {d : D}, (startD n ds)[i]? = some (.val d) → ds[i]? = some d := fun {ds n i d} h => by
  unfold startD at h
  by_cases c : i < ds.length
  · rw [List.getElem?_append_left (by simpa using c), List.getElem?_map] at h
    cases e : ds[i]? with
    | none => rw [e] at h; cases h
    | some x => rw [e] at h; cases h; rfl
  · rw [List.getElem?_append_right (by simpa using c)] at h
    rw [List.getElem?_replicate] at h
    split at h
    · cases h
    · cases h
theorem startD_own {ds : List D} {n i : Nat} {o : Ow} (h : (startD n ds)[i]? = some (.own o)) : False := by
  unfold startD at h
  by_cases c : i < ds.length
  · rw [List.getElem?_append_left (by simpa using c), List.getElem?_map] at h
    cases e : ds[i]? with
    | none => rw [e] at h; cases h
    | some x => rw [e] at h; cases h
  · rw [List.getElem?_append_right (by simpa using c)] at h
    rw [List.getElem?_replicate] at h
    split at h
    · cases h
    · cases h
theorem RE.start {mg : Mg} {S H : Hp} (hs : Same S H) {N : List Str} {vs : List V} {ds : List D} (r : Reps mg S vs ds) : RE mg S H S H (L2.start N vs) (startD N.length ds) where
  wd := .refl hs
  len := by unfold startD L2.start; simp [r.length]
  val := fun i d e => by
    obtain ⟨v, hv, rv⟩ := r.get (startD_val e)
    refine ⟨v, ?_, rv⟩
    unfold L2.start
    have hi : i < vs.length := (List.getElem?_eq_some_iff.mp hv).1
    rw [List.getElem?_append_left (by simpa using hi), List.getElem?_map, hv]
    rfl
  own := ⟨fun _ => 0, fun i o e => (startD_own e).elim, fun i j o o' e => (startD_own e).elim⟩
/-- a def keeps its promise: from its body's walk -/
theorem ok_def {P : Program} {w : World} {K : PySem.W.Frag} {mg : Str → Option Value} {base : Heap} {x qual : Str} {st : Stmt} {f : Addr} {fd : FuncData} {N ps : List Str} {k : Nat} {sp : Spd} {t : TSd} (F : Fun K x qual st f fd) (S : FnScope N ps (defScope st))
    (body : ∀ (cdv : Value) (A : Around) (outer : List Env) (s : Shared) (H : Hp) (E : XK) (W : WX), Room k (A.deeper (envOfC qual (defScope st) s.heap.objs.size f cdv)) → (∀ c d σ H, W c d σ H = E c d H) → L2N.Takes (cxOf (L2N.CX P w) P w K mg base N qual (defScope st) f cdv A outer s H E) W → DSs (cxOf (L2N.CX P w) P w K mg base N qual (defScope st) f cdv A outer s H E) W (defBody st) t)
    (pure : ∀ ds Q Xp, ds.length = ps.length → sp ds Q Xp → t { nx := fun _ => Q .non, rt := Q, ro := fun o => Q o.d, xc := fun C fs _ => Xp C fs } (startD N.length ds)) :
    FnOk P w K mg base (L2N.CX P w) (k + 1) f fd ps (spL ⟨K, mg, []⟩ ps.length sp) := by
  refine okN F S (fun vs H Q E h => h.1) (fun cdv A outer s H vs Q E hr h => ?_)
  obtain ⟨hl, S1, ds, P1, Xp, sh, r, hsp, kv, kx⟩ := h
  have tk : L2N.Takes (cxOf (L2N.CX P w) P w K mg base N qual (defScope st) f cdv A outer s H E) (fun c d _ H => E c d H) := L2N.takes_of rfl rfl rfl rfl
  refine ⟨_, body cdv A outer s H E _ hr (fun _ _ _ _ => rfl) tk, S1, H, S1, _, _, RE.start sh r, pure ds P1 Xp (by rw [← r.length]; exact hl) hsp, ?_⟩
  exact { nx := fun ρ' h' σ' S' H' R' _ => kv _ h' _ S' H' R'.wd .non,
          rt := fun d hd v S' H' w' r' => kv d hd v S' H' w' r',
          ro := fun o ho p S' H' w' hp ow => kv _ ho _ _ _ (w'.frzs hp) (ow.rep (frzS_ss fun q hq => (hp q hq).2) fun q hq => frzS_in hq),
          bk := fun _ h => h.elim, ct := fun _ h => h.elim,
          xc := fun C fs ρ' h' c d' σ' S' H' e R' rx _ => kx C fs h' c d' S' H' e R'.wd rx }
/-- .. one that hands back a new list -/
theorem ok_defF {P : Program} {w : World} {K : PySem.W.Frag} {mg : Str → Option Value} {base : Heap} {x qual : Str} {st : Stmt} {f : Addr} {fd : FuncData} {N ps : List Str} {k : Nat} {sp : Spf} {t : TSd} (F : Fun K x qual st f fd) (S : FnScope N ps (defScope st))
    (body : ∀ (cdv : Value) (A : Around) (outer : List Env) (s : Shared) (H : Hp) (E : XK) (W : WX), Room k (A.deeper (envOfC qual (defScope st) s.heap.objs.size f cdv)) → (∀ c d σ H, W c d σ H = E c d H) → L2N.Takes (cxOf (L2N.CX P w) P w K mg base N qual (defScope st) f cdv A outer s H E) W → DSs (cxOf (L2N.CX P w) P w K mg base N qual (defScope st) f cdv A outer s H E) W (defBody st) t)
    (pure : ∀ ds Q Xp, ds.length = ps.length → sp ds Q Xp → t { nx := fun _ => False, rt := fun _ => False, ro := fun o => match o with | .lst l => Q l | _ => False, xc := fun C fs _ => Xp C fs } (startD N.length ds)) :
    FnOk P w K mg base (L2N.CX P w) (k + 1) f fd ps (spF ⟨K, mg, []⟩ ps.length sp) := by
  refine okN F S (fun vs H Q E h => h.1) (fun cdv A outer s H vs Q E hr h => ?_)
  obtain ⟨hl, S1, ds, P1, Xp, sh, r, hsp, kv, kx⟩ := h
  have tk : L2N.Takes (cxOf (L2N.CX P w) P w K mg base N qual (defScope st) f cdv A outer s H E) (fun c d _ H => E c d H) := L2N.takes_of rfl rfl rfl rfl
  refine ⟨_, body cdv A outer s H E _ hr (fun _ _ _ _ => rfl) tk, S1, H, S1, _, _, RE.start sh r, pure ds P1 Xp (by rw [← r.length]; exact hl) hsp, ?_⟩
  exact { nx := fun ρ' h' => h'.elim, rt := fun d hd => hd.elim,
          ro := fun o ho p S' H' w' hp ow => by
            cases o with
            | lst l => obtain ⟨vs', e1, r1⟩ := ow; exact kv l ho p vs' S' H' w' (hp p List.mem_cons_self).1 (hp p List.mem_cons_self).2 e1 r1
            | _ => exact ho.elim,
          bk := fun _ h => h.elim, ct := fun _ h => h.elim,
          xc := fun C fs ρ' h' c d' σ' S' H' e R' rx _ => kx C fs h' c d' S' H' e R'.wd rx }
end Z

/-! Z: operators, comparisons, built-ins, told of data. -/
namespace Z
open PySem PySem.Spec PyProof.Rows L2
section
variable {X : Cx} {mg : Mg}
/-! ### ints -/
def oI (C : Int → Int → Prop) (g : Int → Int → Int) : O2 := fun x y P => match x, y with | .int i, .int j => C i j ∧ P (.int (g i j)) | _, _ => False
theorem or_I {f : Value → Value → Sem Value} {C : Int → Int → Prop} {g : Int → Int → Int} (h : OpR X f (rI C fun i j => .int (g i j))) : OpR X f (rL (gd X) (oI C g)) := by
  intro pins s σ H x y v u Q I rx ry ⟨S, dx, dy, P, sh, r1, r2, ho, k⟩
  cases dx <;> cases dy <;> first | exact ho.elim | skip
  cases r1; cases r2
  exact h pins s σ H _ _ v u Q I rx ry ⟨_, _, rfl, rfl, ho.1, k _ ho.2 _ S H (.refl sh) (.int _)⟩
theorem or_I0 {f : Value → Value → Sem Value} {g : Int → Int → Int} (h : OpR X f (rI0 fun i j => .int (g i j))) : OpR X f (rL (gd X) (oI (fun _ _ => True) g)) := by
  intro pins s σ H x y v u Q I rx ry ⟨S, dx, dy, P, sh, r1, r2, ho, k⟩
  cases dx <;> cases dy <;> first | exact ho.elim | skip
  cases r1; cases r2
  exact h pins s σ H _ _ v u Q I rx ry ⟨_, _, rfl, rfl, k _ ho.2 _ S H (.refl sh) (.int _)⟩
/-- // by any divisor below 2 ^ 9000 -/
def CDivX (_ j : Int) : Prop := j ≠ 0 ∧ j.natAbs.log2 < 9000
theorem op_fdivX : OpR X (binaryOp .FloorDiv) (rI CDivX fun i j => .int (i.fdiv j)) := opI fun _ _ _ _ _ _ _ hc q => floordiv_int hc.1 q (.inl (PyProof.noPylong_of_log2 hc.2))
abbrev oSub : O2 := oI (fun _ _ => True) fun i j => i - j
abbrev oMul : O2 := oI CMulW fun i j => i * j
abbrev oFdiv : O2 := oI CDivX fun i j => i.fdiv j
abbrev oMod : O2 := oI (fun _ j => j ≠ 0) fun i j => i.fmod j
abbrev oPow : O2 := oI CPow fun i j => i ^ j.toNat
theorem or_sub : OpR X (binaryOp .Sub) (rL (gd X) oSub) := or_I0 op_sub
theorem or_mul : OpR X (binaryOp .Mult) (rL (gd X) oMul) := or_I op_mulW
theorem or_fdiv : OpR X (binaryOp .FloorDiv) (rL (gd X) oFdiv) := or_I op_fdivX
theorem or_mod : OpR X (binaryOp .Mod) (rL (gd X) oMod) := or_I op_modN
theorem or_pow : OpR X (binaryOp .Pow) (rL (gd X) oPow) := or_I op_pow
def oNeg : D → (D → Prop) → Prop := fun x P => match x with | .int i => P (.int (-i)) | _ => False
theorem ur_neg : UnR X (unaryOp .USub) (uL (gd X) oNeg) := by
  intro pins s σ H x v Q I rx ⟨S, dx, P, sh, r1, ho, k⟩
  cases dx <;> first | exact ho.elim | skip
  cases r1
  exact un_neg pins s σ H _ v Q I rx ⟨_, rfl, k _ ho _ S H (.refl sh) (.int _)⟩
/-- + of ints, texts, lists; of tuples where the first is not empty -/
def oAdd : O2 := fun x y P => match x, y with
  | .int i, .int j => P (.int (i + j))
  | .str i, .str j => i.length + j.length ≤ sizeLine ∧ P (.str (i ++ j))
  | .lst a, .lst b => a.length + b.length ≤ sizeLine ∧ P (.lst (a ++ b))
  | .tup a, .tup b => a ≠ [] ∧ a.length + b.length ≤ sizeLine ∧ P (.tup (a ++ b))
  | _, _ => False
theorem Inv.lstR {X : Cx} {pins : List (Addr × Obj)} {σ : L2.St} {H : Hp} {s : Shared} {l : Addr} {xs : List V} (I : Inv X pins σ H s) (hH : Rd H l (.lst xs)) : xs.length ≤ sizeLine ∧ ∃ (its : List Value) (n : Nat), Vals xs its ∧ xs.length = its.length ∧ s.heap.get? l = some { cls := .type "list", data := .seq its.toArray n } := by
  obtain ⟨h1, its, n, h2, h3⟩ := hH.ok I.hok
  exact ⟨h1, its, n, h2, h2.length, h3⟩
theorem cat_ok {pins : List (Addr × Obj)} {s : Shared} {σ : L2.St} {H : Hp} {l b : Addr} {xs zs : List V} {Q : VK} {v u : Value} (I : Inv X pins σ H s) (rx : RelV (.ref l) v) (ry : RelV (.ref b) u) (hH : Rd H l (.lst xs)) (hB : Rd H b (.lst zs)) (hz : xs.length + zs.length ≤ sizeLine)
    (q : ∀ p, H p = none → Q (.ref p) (upd H p (.lst (xs ++ zs)))) : wpAny (model X.prog X.w) X.A (binaryOp .Add v u) (EP X pins σ Q) X.xe s := by
  cases rx
  cases ry
  obtain ⟨z, its, n, r, hl, e⟩ := Inv.lstR I hH
  obtain ⟨z2, its2, n2, r2, hl2, e2⟩ := Inv.lstR I hB
  refine PySem.P.add_list e e2 ?_ (by rw [List.size_toArray, List.size_toArray]; omega)
  have ea : its.toArray ++ its2.toArray = (its ++ its2).toArray := by simp
  rw [ea]
  exact ⟨.ref _, _, I.lnew (t' := s.toks) (r.append r2) (by rw [List.length_append]; omega), rfl, q _ I.fresh⟩
theorem Reps.nil_iff {S : Hp} {vs : List V} {ds : List D} (h : Reps mg S vs ds) : vs = [] ↔ ds = [] := by
  cases h <;> simp
theorem or_add : OpR X (binaryOp .Add) (rL (gd X) oAdd) := by
  intro pins s σ H x y v u Q I rx ry ⟨S, dx, dy, P, sh, r1, r2, ho, k⟩
  cases dx <;> cases dy <;> first | exact ho.elim | skip
  · cases r1; cases r2
    exact op_add pins s σ H _ _ v u Q I rx ry ⟨_, _, rfl, rfl, k _ ho _ S H (.refl sh) (.int _)⟩
  · cases r1; cases r2
    exact op_add_str pins s σ H _ _ v u Q I rx ry ⟨_, _, rfl, rfl, ho.1, k _ ho.2 _ S H (.refl sh) (.str _)⟩
  · cases r1 with
    | tup e1 q1 => cases r2 with
      | tup e2 q2 =>
        refine op_catT pins s σ H _ _ v u Q I rx ry ⟨_, _, _, _, rfl, rfl, .inl (.inl (sh _ _ e1)), .inl (.inl (sh _ _ e2)), fun z => ho.1 (q1.nil_iff.mp z), by rw [q1.length, q2.length]; exact ho.2.1, fun z => ?_, fun z p hp => k.tup (.refl sh) (q1.append q2) ho.2.2 hp⟩
        have z' := q2.nil_iff.mp z
        have h3 := ho.2.2
        rw [z', List.append_nil] at h3
        exact k _ h3 _ S H (.refl sh) (.tup e1 q1)
  · cases r1 with
    | lst e1 q1 => cases r2 with
      | lst e2 q2 =>
        refine cat_ok I rx ry (rd_mono sh e1) (rd_mono sh e2) (by rw [q1.length, q2.length]; exact ho.1) fun p hp => ?_
        have hs : S p = none := Same.free sh hp
        exact vOk.frz k _ ho.2 p _ S _ ((Wd.refl sh).mut _ hp hs) hp hs upd_same (q1.append q2)
/-! ### comparisons -/
def oC (g : Int → Int → Bool) : O2 := fun x y P => match x, y with | .int i, .int j => P (.bl (g i j)) | _, _ => False
theorem or_C {f : Value → Value → Sem Value} {g : Int → Int → Bool} (h : OpR X f (rI0 fun i j => .bl (g i j))) : OpR X f (rL (gd X) (oC g)) := by
  intro pins s σ H x y v u Q I rx ry ⟨S, dx, dy, P, sh, r1, r2, ho, k⟩
  cases dx <;> cases dy <;> first | exact ho.elim | skip
  cases r1; cases r2
  exact h pins s σ H _ _ v u Q I rx ry ⟨_, _, rfl, rfl, k _ ho _ S H (.refl sh) (.bl _)⟩
abbrev oLt : O2 := oC fun i j => decide (i < j)
abbrev oLe : O2 := oC fun i j => decide (i ≤ j)
abbrev oGt : O2 := oC fun i j => decide (j < i)
abbrev oGe : O2 := oC fun i j => decide (j ≤ i)
theorem or_lt : OpR X (compareOp .Lt) (rL (gd X) oLt) := or_C op_lt
theorem or_le : OpR X (compareOp .LtE) (rL (gd X) oLe) := or_C op_le
theorem or_gt : OpR X (compareOp .Gt) (rL (gd X) oGt) := or_C op_gt
theorem or_ge : OpR X (compareOp .GtE) (rL (gd X) oGe) := or_C op_ge
end
/-! ### data at any depth -/
mutual
def pyOf : D → PyData
  | .non => .none
  | .bl b => .bool b
  | .int i => .int i
  | .str x => .str x
  | .tup l => .tuple (pyAll l)
  | .lst l => .list (pyAll l)
  | .ty _ => .none
  | .gl _ => .none
  | .ins _ _ => .none
  | .scr _ => .none
  | .dk _ => .none
  | .dt _ => .none
  | .err _ _ => .none
  | .ptr _ => .none
def pyAll : List D → List PyData
  | [] => []
  | d :: r => pyOf d :: pyAll r
end
mutual
def dataD : D → Bool
  | .non => true
  | .bl _ => true
  | .int _ => true
  | .str _ => true
  | .tup l => dataAll l
  | .lst l => dataAll l
  | .ty _ => false
  | .gl _ => false
  | .ins _ _ => false
  | .scr _ => false
  | .dk _ => false
  | .dt _ => false
  | .err _ _ => false
  | .ptr _ => false
def dataAll : List D → Bool
  | [] => true
  | d :: r => dataD d && dataAll r
end
section
variable {X : Cx} {mg : Mg}
mutual
theorem Rep.dp {K : PySem.W.Frag} {S H : Hp} (sh : Same S H) : ∀ {d : D} {v : V}, Rep mg S v d → dataD d = true → Dp K H v (pyOf d)
  | _, _, .non, _ => by rw [pyOf]; exact .non
  | _, _, .bl b, _ => by rw [pyOf]; exact .bl b
  | _, _, .int i, _ => by rw [pyOf]; exact .int i
  | _, _, .str x, _ => by rw [pyOf]; exact .str x
  | _, _, .ty n, h => by rw [dataD] at h; cases h
  | _, _, .gl _, h => by rw [dataD] at h; cases h
  | _, _, .tup e r, h => by rw [dataD] at h; rw [pyOf]; exact .tup (.inl (.inl (sh _ _ e))) (Reps.dp sh r h)
  | _, _, .lst e r, h => by rw [dataD] at h; rw [pyOf]; exact .lst (.inl (rd_mono sh e)) (Reps.dp sh r h)
  | _, _, .ins _ _ _, h => by rw [dataD] at h; cases h
  | _, _, .scr _ _, h => by rw [dataD] at h; cases h
  | _, _, .dk _ _, h => by rw [dataD] at h; cases h
  | _, _, .dt _ _, h => by rw [dataD] at h; cases h
  | _, _, .err0 _ _ _ _ _, h => by rw [dataD] at h; cases h
  | _, _, .err1 _ _ _ _ _ _ _, h => by rw [dataD] at h; cases h
  | _, _, .ptr _, h => by rw [dataD] at h; cases h
theorem Reps.dp {K : PySem.W.Frag} {S H : Hp} (sh : Same S H) : ∀ {ds : List D} {vs : List V}, Reps mg S vs ds → dataAll ds = true → DpAll K H vs (pyAll ds)
  | _, _, .nil, _ => by rw [pyAll]; exact .nil
  | _, _, .cons h r, e => by
    rw [dataAll, Bool.and_eq_true] at e
    rw [pyAll]
    exact .cons (Rep.dp sh h e.1) (Reps.dp sh r e.2)
end
/-- what may be compared: data of small depth -/
def okD (d : D) : Prop := dataD d = true ∧ SeqAt.shaped (pyOf d) = true
def eqD (x y : D) : Bool := PyData.eqv (pyOf x) (pyOf y)
/-- == of ints, texts, bools, None directly; of lists and tuples as data -/
def oEqN (neg : Bool) : O2 := fun x y P => match x, y with
  | .int i, .int j => P (.bl (if neg then !decide (i = j) else decide (i = j)))
  | .str i, .str j => P (.bl (if neg then !decide (i = j) else decide (i = j)))
  | .bl i, .bl j => P (.bl (if neg then !decide (i = j) else decide (i = j)))
  | x, y => okD x ∧ okD y ∧ P (.bl (if neg then !eqD x y else eqD x y))
abbrev oEq : O2 := oEqN false
abbrev oNe : O2 := oEqN true
theorem eq_data (hu : X.A.units + 64 < cLine) {pins : List (Addr × Obj)} {s : Shared} {σ : L2.St} {H S : Hp} {x y : V} {v u : Value} {Q : VK} {dx dy : D} {P : D → Prop} (I : Inv X pins σ H s) (rx : RelV x v) (ry : RelV y u) (sh : Same S H) (r1 : Rep (gd X) S x dx) (r2 : Rep (gd X) S y dy) (k : vOk (gd X) S H P Q)
    (ho : okD dx ∧ okD dy ∧ P (.bl (eqD dx dy))) : wpAny (model X.prog X.w) X.A (compareOp .Eq v u) (EP X pins σ Q) X.xe s :=
  op_eqD hu pins s σ H x y v u Q I rx ry ⟨_, _, r1.dp sh ho.1.1, r2.dp sh ho.2.1.1, ho.1.2, ho.2.1.2, k _ ho.2.2 _ S H (.refl sh) (.bl _)⟩
theorem ne_data (hu : X.A.units + 64 < cLine) {pins : List (Addr × Obj)} {s : Shared} {σ : L2.St} {H S : Hp} {x y : V} {v u : Value} {Q : VK} {dx dy : D} {P : D → Prop} (I : Inv X pins σ H s) (rx : RelV x v) (ry : RelV y u) (sh : Same S H) (r1 : Rep (gd X) S x dx) (r2 : Rep (gd X) S y dy) (k : vOk (gd X) S H P Q)
    (ho : okD dx ∧ okD dy ∧ P (.bl (!eqD dx dy))) : wpAny (model X.prog X.w) X.A (compareOp .NotEq v u) (EP X pins σ Q) X.xe s :=
  op_neD hu pins s σ H x y v u Q I rx ry ⟨_, _, r1.dp sh ho.1.1, r2.dp sh ho.2.1.1, ho.1.2, ho.2.1.2, k _ ho.2.2 _ S H (.refl sh) (.bl _)⟩
theorem dec_inj {α : Type} [DecidableEq α] {f : α → V} (hf : ∀ a b, f a = f b → a = b) (a b : α) : decide (f a = f b) = decide (a = b) := by
  by_cases h : a = b
  · subst h; simp
  · rw [decide_eq_false h, decide_eq_false fun z => h (hf _ _ z)]
theorem or_eq (hu : X.A.units + 64 < cLine) : OpR X (compareOp .Eq) (rL (gd X) oEq) := by
  intro pins s σ H x y v u Q I rx ry ⟨S, dx, dy, P, sh, r1, r2, ho, k⟩
  cases dx <;> cases dy <;> first | exact eq_data hu I rx ry sh r1 r2 k ho | skip
  · cases r1; cases r2
    refine op_eq pins s σ H _ _ v u Q I rx ry ⟨rfl, ?_⟩
    rw [dec_inj (f := V.bl) (fun _ _ z => by injection z)]
    exact k _ ho _ S H (.refl sh) (.bl _)
  · cases r1; cases r2
    refine op_eq pins s σ H _ _ v u Q I rx ry ⟨rfl, ?_⟩
    rw [dec_inj (f := V.int) (fun _ _ z => by injection z)]
    exact k _ ho _ S H (.refl sh) (.bl _)
  · cases r1; cases r2
    refine op_eq pins s σ H _ _ v u Q I rx ry ⟨rfl, ?_⟩
    rw [dec_inj (f := V.str) (fun _ _ z => by injection z)]
    exact k _ ho _ S H (.refl sh) (.bl _)
theorem or_ne (hu : X.A.units + 64 < cLine) : OpR X (compareOp .NotEq) (rL (gd X) oNe) := by
  intro pins s σ H x y v u Q I rx ry ⟨S, dx, dy, P, sh, r1, r2, ho, k⟩
  cases dx <;> cases dy <;> first | exact ne_data hu I rx ry sh r1 r2 k ho | skip
  · cases r1; cases r2
    refine op_ne pins s σ H _ _ v u Q I rx ry ⟨rfl, ?_⟩
    rw [dec_inj (f := V.bl) (fun _ _ z => by injection z)]
    exact k _ ho _ S H (.refl sh) (.bl _)
  · cases r1; cases r2
    refine op_ne pins s σ H _ _ v u Q I rx ry ⟨rfl, ?_⟩
    rw [dec_inj (f := V.int) (fun _ _ z => by injection z)]
    exact k _ ho _ S H (.refl sh) (.bl _)
  · cases r1; cases r2
    refine op_ne pins s σ H _ _ v u Q I rx ry ⟨rfl, ?_⟩
    rw [dec_inj (f := V.str) (fun _ _ z => by injection z)]
    exact k _ ho _ S H (.refl sh) (.bl _)
/-! ### x in a list or tuple of flat items -/
def flatD : D → Bool
  | .non => true
  | .bl _ => true
  | .int _ => true
  | .str _ => true
  | _ => false
def eqF : D → D → Bool
  | .non, .non => true
  | .bl a, .bl b => a == b
  | .bl a, .int b => (if a then 1 else 0) == b
  | .int a, .bl b => a == (if b then 1 else 0)
  | .int a, .int b => a == b
  | .str a, .str b => a == b
  | _, _ => false
theorem Rep.flat {S : Hp} {v : V} {d : D} (h : Rep mg S v d) (f : flatD d = true) : flatV v = true := by cases h <;> first | rfl | cases f
theorem Rep.eqF {S : Hp} {v u : V} {d e : D} (h : Rep mg S v d) (h2 : Rep mg S u e) (f : flatD d = true) (f2 : flatD e = true) : eqV v u = eqF d e := by
  cases h <;> cases h2 <;> first | rfl | cases f | cases f2
theorem Reps.flat {S : Hp} : ∀ {vs : List V} {ds : List D}, Reps mg S vs ds → ds.all flatD = true → vs.all flatV = true
  | _, _, .nil, _ => rfl
  | _, _, .cons h r, f => by
    rw [List.all_cons, Bool.and_eq_true] at f ⊢
    exact ⟨h.flat f.1, Reps.flat r f.2⟩
def inD (x : D) (l : List D) : Bool := l.any fun y => eqF y x
theorem Reps.inD {S : Hp} {v : V} {d : D} (h : Rep mg S v d) (f : flatD d = true) : ∀ {vs : List V} {ds : List D}, Reps mg S vs ds → ds.all flatD = true → inV v vs = Z.inD d ds
  | _, _, .nil, _ => rfl
  | _, _, .cons q r, g => by
    rw [List.all_cons, Bool.and_eq_true] at g
    have ih := Reps.inD h f r g.2
    unfold inV at ih ⊢
    unfold Z.inD at ih ⊢
    rw [List.any_cons, List.any_cons, ih, q.eqF h g.1 f]
def oInN (neg : Bool) : O2 := fun x y P => match y with
  | .lst l => flatD x = true ∧ l.all flatD = true ∧ P (.bl (if neg then !inD x l else inD x l))
  | .tup l => flatD x = true ∧ l.all flatD = true ∧ P (.bl (if neg then !inD x l else inD x l))
  | _ => False
theorem or_inN (neg : Bool) {f : Value → Value → Sem Value} (h : OpR X f (rIn X.K neg)) : OpR X f (rL (gd X) (oInN neg)) := by
  intro pins s σ H x y v u Q I rx ry ⟨S, dx, dy, P, sh, r1, r2, ho, k⟩
  cases r2 with
  | lst e r => exact h pins s σ H _ _ v u Q I rx ry ⟨_, _, rfl, .inl (.inl (rd_mono sh e)), r1.flat ho.1, r.flat ho.2.1, by rw [Reps.inD r1 ho.1 r ho.2.1]; exact k _ ho.2.2 _ S H (.refl sh) (.bl _)⟩
  | tup e r => exact h pins s σ H _ _ v u Q I rx ry ⟨_, _, rfl, .inr (.inl (.inl (sh _ _ e))), r1.flat ho.1, r.flat ho.2.1, by rw [Reps.inD r1 ho.1 r ho.2.1]; exact k _ ho.2.2 _ S H (.refl sh) (.bl _)⟩
  | _ => exact ho.elim
abbrev oIn : O2 := oInN false
abbrev oNotIn : O2 := oInN true
theorem or_in : OpR X (compareOp .In) (rL (gd X) oIn) := or_inN false op_in_seq
theorem or_notIn : OpR X (compareOp .NotIn) (rL (gd X) oNotIn) := or_inN true op_notIn_seq
/-! ### subscripts -/
def oIx : O2 := fun x y P => match x, y with
  | .lst l, .int i => ∃ d, atI l i = some d ∧ P d
  | .tup l, .int i => ∃ d, atI l i = some d ∧ P d
  | .scr l, .int i => ∃ d, atI l i = some d ∧ P d
  | .str z, .int i => z.length ≤ sizeLine ∧ ∃ c, atI z.cps.toList i = some c ∧ P (.str ⟨#[c]⟩)
  | _, _ => False
theorem Reps.at {S : Hp} {vs : List V} {ds : List D} (r : Reps mg S vs ds) {i : Int} {d : D} (h : atI ds i = some d) : ∃ v, atI vs i = some v ∧ Rep mg S v d := by
  unfold atI at h ⊢
  rw [r.length]
  cases e : ixN ds.length i with
  | none => rw [e] at h; cases h
  | some j =>
    rw [e] at h
    exact r.get h
theorem ir_ix : IxR X (rL (gd X) oIx) := by
  intro value slice pins s σ H x y v u Q I rx ry ⟨S, dx, dy, P, sh, r1, r2, ho, k⟩ hs
  cases dy <;> cases dx <;> first | exact ho.elim | skip
  all_goals cases r2
  · cases r1
    obtain ⟨hz, c, hc, hP⟩ := ho
    exact ix_str value slice pins s σ H _ _ v u Q I rx ry ⟨_, _, c, rfl, rfl, hz, hc, k _ hP _ S H (.refl sh) (.str _)⟩ hs
  · cases r1 with
    | tup e r =>
      obtain ⟨d, hd, hP⟩ := ho
      obtain ⟨w, hw, rw'⟩ := r.at hd
      exact ix_tup value slice pins s σ H _ _ v u Q I rx ry ⟨_, _, _, w, rfl, rfl, .inl (.inl (sh _ _ e)), hw, k _ hP _ S H (.refl sh) rw'⟩ hs
  · cases r1 with
    | lst e r =>
      obtain ⟨d, hd, hP⟩ := ho
      obtain ⟨w, hw, rw'⟩ := r.at hd
      exact ix_list value slice pins s σ H _ _ v u Q I rx ry ⟨_, _, _, w, rfl, rfl, .inl (rd_mono sh e), hw, k _ hP _ S H (.refl sh) rw'⟩ hs
  · cases r1 with
    | scr e r =>
      obtain ⟨d, hd, hP⟩ := ho
      obtain ⟨w, hw, rw'⟩ := r.at hd
      exact ix_list value slice pins s σ H _ _ v u Q I rx ry ⟨_, _, _, w, rfl, rfl, sq_mono sh e, hw, k _ hP _ S H (.refl sh) rw'⟩ hs
/-! ### built-ins -/
def cLen : Cd := fun ds P => match ds with
  | [.lst l] => P (.int l.length)
  | [.tup l] => P (.int l.length)
  | [.scr l] => P (.int l.length)
  | [.str x] => x.length ≤ sizeLine ∧ P (.int x.length)
  | _ => False
theorem cr_len : CallR X (.builtin "len") (cL (gd X) cLen) := by
  intro pins s σ H xs us Q I r ⟨S, ds, P, sh, r1, ho, k⟩
  match ds, ho with
  | [.lst l], ho =>
    obtain ⟨v, rfl, q⟩ := r1.one_inv
    cases q with
    | lst e q => exact call_len pins s σ H _ us Q I r ⟨_, _, rfl, .inl ⟨_, .inl (rd_mono sh e), rfl⟩, by rw [q.length]; exact k _ ho _ S H (.refl sh) (.int _)⟩
  | [.tup l], ho =>
    obtain ⟨v, rfl, q⟩ := r1.one_inv
    cases q with
    | tup e q => exact call_len pins s σ H _ us Q I r ⟨_, _, rfl, .inr ⟨_, .inl (.inl (sh _ _ e)), rfl⟩, by rw [q.length]; exact k _ ho _ S H (.refl sh) (.int _)⟩
  | [.scr l], ho =>
    obtain ⟨v, rfl, q⟩ := r1.one_inv
    cases q with
    | scr e q => exact call_len pins s σ H _ us Q I r ⟨_, _, rfl, .inl ⟨_, sq_mono sh e, rfl⟩, by rw [q.length]; exact k _ ho _ S H (.refl sh) (.int _)⟩
  | [.str x], ho =>
    obtain ⟨v, rfl, q⟩ := r1.one_inv
    cases q
    exact call_len pins s σ H _ us Q I r ⟨_, _, rfl, ⟨ho.1, rfl⟩, k _ ho.2 _ S H (.refl sh) (.int _)⟩
def cAbs : Cd := fun ds P => match ds with | [.int i] => P (.int (if i < 0 then -i else i)) | _ => False
theorem cr_abs : CallR X (.builtin "abs") (cL (gd X) cAbs) := by
  intro pins s σ H xs us Q I r ⟨S, ds, P, sh, r1, ho, k⟩
  match ds, ho with
  | [.int i], ho =>
    obtain ⟨v, rfl, q⟩ := r1.one_inv
    cases q
    exact call_abs pins s σ H _ us Q I r ⟨_, rfl, k _ ho _ S H (.refl sh) (.int _)⟩
def cInt : Cd := fun ds P => match ds with | [.int i] => P (.int i) | [.bl b] => P (.int (if b then 1 else 0)) | _ => False
theorem cr_int : CallR X (.type "int") (cL (gd X) cInt) := by
  intro pins s σ H xs us Q I r ⟨S, ds, P, sh, r1, ho, k⟩
  match ds, ho with
  | [.int i], ho =>
    obtain ⟨v, rfl, q⟩ := r1.one_inv
    cases q
    exact call_int1 pins s σ H _ us Q I r (.inl ⟨_, rfl, k _ ho _ S H (.refl sh) (.int _)⟩)
  | [.bl i], ho =>
    obtain ⟨v, rfl, q⟩ := r1.one_inv
    cases q
    exact call_int1 pins s σ H _ us Q I r (.inr ⟨_, rfl, k _ ho _ S H (.refl sh) (.int _)⟩)
/-- max(a, b), min(a, b); max(list) -/
def cMax : Cd := fun ds P => match ds with
  | [.int i, .int j] => P (.int (if j > i then j else i))
  | [.lst l] => ∃ ns : List Int, l = ns.map D.int ∧ 0 < ns.length ∧ ∀ m, m ∈ ns → (∀ y, y ∈ ns → y ≤ m) → P (.int m)
  | _ => False
def cMin : Cd := fun ds P => match ds with
  | [.int i, .int j] => P (.int (if j < i then j else i))
  | [.lst l] => ∃ ns : List Int, l = ns.map D.int ∧ 0 < ns.length ∧ ∀ m, m ∈ ns → (∀ y, y ∈ ns → m ≤ y) → P (.int m)
  | _ => False
theorem cr_maxD (hc : X.calm = true) : CallR X (.builtin "max") (cL (gd X) cMax) := by
  intro pins s σ H xs us Q I r ⟨S, ds, P, sh, r1, ho, k⟩
  match ds, ho with
  | [.int i, .int j], ho =>
    obtain ⟨v, u, rfl, q, q2⟩ := r1.two_inv
    cases q; cases q2
    exact call_max2 hc pins s σ H _ us Q I r ⟨_, _, rfl, k _ ho _ S H (.refl sh) (.int _)⟩
  | [.lst l], ho =>
    obtain ⟨ns, rfl, h0, ho⟩ := ho
    obtain ⟨v, rfl, q⟩ := r1.one_inv
    cases q with
    | lst e q =>
      have q' := q.ints_inv
      subst q'
      exact cr_max hc pins s σ H _ us Q I r ⟨_, ns, rfl, .inl (rd_mono sh e), h0, fun m h1 h2 => k _ (ho m h1 h2) _ S H (.refl sh) (.int _)⟩
theorem cr_minD (hc : X.calm = true) : CallR X (.builtin "min") (cL (gd X) cMin) := by
  intro pins s σ H xs us Q I r ⟨S, ds, P, sh, r1, ho, k⟩
  match ds, ho with
  | [.int i, .int j], ho =>
    obtain ⟨v, u, rfl, q, q2⟩ := r1.two_inv
    cases q; cases q2
    exact call_min2 hc pins s σ H _ us Q I r ⟨_, _, rfl, k _ ho _ S H (.refl sh) (.int _)⟩
  | [.lst l], ho =>
    obtain ⟨ns, rfl, h0, ho⟩ := ho
    obtain ⟨v, rfl, q⟩ := r1.one_inv
    cases q with
    | lst e q =>
      have q' := q.ints_inv
      subst q'
      exact cr_min hc pins s σ H _ us Q I r ⟨_, ns, rfl, .inl (rd_mono sh e), h0, fun m h1 h2 => k _ (ho m h1 h2) _ S H (.refl sh) (.int _)⟩
def cSum : Cd := fun ds P => match ds with
  | [.lst l] => ∃ ns : List Int, l = ns.map D.int ∧ P (.int ns.sum)
  | _ => False
theorem cr_sumD (hc : X.calm = true) : CallR X (.builtin "sum") (cL (gd X) cSum) := by
  intro pins s σ H xs us Q I r ⟨S, ds, P, sh, r1, ho, k⟩
  match ds, ho with
  | [.lst l], ho =>
    obtain ⟨ns, rfl, ho⟩ := ho
    obtain ⟨v, rfl, q⟩ := r1.one_inv
    cases q with
    | lst e q =>
      have q' := q.ints_inv
      subst q'
      exact cr_sum hc pins s σ H _ us Q I r ⟨_, ns, rfl, .inl (rd_mono sh e), k _ ho _ S H (.refl sh) (.int _)⟩
def cAny : Cd := fun ds P => match ds with
  | [.lst l] => ∃ bs : List Bool, l = bs.map D.bl ∧ P (.bl (bs.any id))
  | _ => False
def cAll : Cd := fun ds P => match ds with
  | [.lst l] => ∃ bs : List Bool, l = bs.map D.bl ∧ P (.bl (bs.all id))
  | _ => False
theorem cr_anyD (hc : X.calm = true) : CallR X (.builtin "any") (cL (gd X) cAny) := by
  intro pins s σ H xs us Q I r ⟨S, ds, P, sh, r1, ho, k⟩
  match ds, ho with
  | [.lst l], ho =>
    obtain ⟨ns, rfl, ho⟩ := ho
    obtain ⟨v, rfl, q⟩ := r1.one_inv
    cases q with
    | lst e q =>
      have q' := q.bls_inv
      subst q'
      exact cr_any hc pins s σ H _ us Q I r ⟨_, ns, rfl, .inl (rd_mono sh e), k _ ho _ S H (.refl sh) (.bl _)⟩
theorem cr_allD (hc : X.calm = true) : CallR X (.builtin "all") (cL (gd X) cAll) := by
  intro pins s σ H xs us Q I r ⟨S, ds, P, sh, r1, ho, k⟩
  match ds, ho with
  | [.lst l], ho =>
    obtain ⟨ns, rfl, ho⟩ := ho
    obtain ⟨v, rfl, q⟩ := r1.one_inv
    cases q with
    | lst e q =>
      have q' := q.bls_inv
      subst q'
      exact cr_all hc pins s σ H _ us Q I r ⟨_, ns, rfl, .inl (rd_mono sh e), k _ ho _ S H (.refl sh) (.bl _)⟩
/-- tuple(x) -/
def cTup : Cd := fun ds P => match ds with | [.lst l] => P (.tup l) | [.tup l] => P (.tup l) | _ => False
theorem cr_tup : CallR X (.type "tuple") (cL (gd X) cTup) := by
  intro pins s σ H xs us Q I r ⟨S, ds, P, sh, r1, ho, k⟩
  match ds, ho with
  | [.lst l], ho =>
    obtain ⟨v, rfl, q⟩ := r1.one_inv
    cases q with
    | lst e q => exact call_tuple_of pins s σ H _ us Q I r ⟨_, _, rfl, .inl ⟨.inl (rd_mono sh e), fun p hp => k.tup (.refl sh) q ho hp⟩⟩
  | [.tup l], ho =>
    obtain ⟨v, rfl, q⟩ := r1.one_inv
    cases q with
    | tup e q => exact call_tuple_of pins s σ H _ us Q I r ⟨_, _, rfl, .inr ⟨.inl (.inl (sh _ _ e)), k _ ho _ S H (.refl sh) (.tup e q)⟩⟩
/-- list(x): a new list -/
def cLst : Fd := fun ds P => match ds with | [.lst l] => P l | [.tup l] => P l | [.scr l] => P l | _ => False
theorem cr_lst : CallR X (.type "list") (cF (gd X) cLst) := by
  intro pins s σ H xs us Q I r ⟨S, ds, P, sh, r1, ho, k⟩
  match ds, ho with
  | [.lst l], ho =>
    obtain ⟨v, rfl, q⟩ := r1.one_inv
    cases q with
    | lst e q => exact call_list_of pins s σ H _ us Q I r ⟨_, _, rfl, .inl (.inl (rd_mono sh e)), fun p hp => k.new (.refl sh) q ho hp⟩
  | [.tup l], ho =>
    obtain ⟨v, rfl, q⟩ := r1.one_inv
    cases q with
    | tup e q => exact call_list_of pins s σ H _ us Q I r ⟨_, _, rfl, .inr (.inl (.inl (sh _ _ e))), fun p hp => k.new (.refl sh) q ho hp⟩
  | [.scr l], ho =>
    obtain ⟨v, rfl, q⟩ := r1.one_inv
    cases q with
    | scr e q => exact call_list_of pins s σ H _ us Q I r ⟨_, _, rfl, .inl (sq_mono sh e), fun p hp => k.new (.refl sh) q ho hp⟩
def cGcd : Cd := fun ds P => match ds with | [.int a, .int b] => P (.int ((Nat.gcd a.natAbs b.natAbs : Nat) : Int)) | _ => False
theorem cr_gcdD : CallR X (.builtin "math.gcd") (cL (gd X) cGcd) := by
  intro pins s σ H xs us Q I r ⟨S, ds, P, sh, r1, ho, k⟩
  match ds, ho with
  | [.int i, .int j], ho =>
    obtain ⟨v, u, rfl, q, q2⟩ := r1.two_inv
    cases q; cases q2
    exact cr_gcd pins s σ H _ us Q I r ⟨_, _, rfl, k _ ho _ S H (.refl sh) (.int _)⟩
/-! ### isinstance -/
/-- the built-in type of data -/
def tyD : D → Option String
  | .non => some "NoneType"
  | .bl _ => some "bool"
  | .int _ => some "int"
  | .str _ => some "str"
  | .lst _ => some "list"
  | .tup _ => some "tuple"
  | _ => none
theorem Rep.tyx {K : PySem.W.Frag} {S H : Hp} (sh : Same S H) {v : V} {d : D} (h : Rep mg S v d) {t : String} (e : tyD d = some t) : TyX K H v (.type t) := by
  cases h with
  | non => cases e; exact .base .non
  | bl b => cases e; exact .base (.bl b)
  | int b => cases e; exact .base (.int b)
  | str b => cases e; exact .base (.str b)
  | tup e1 _ => cases e; exact .base (.tup (sh _ _ e1))
  | lst e1 _ =>
    cases e
    rcases e1 with e1 | ⟨o, e1⟩
    · exact .base (.lst (sh _ _ e1))
    · exact .base (.frz (sh _ _ e1))
  | _ => cases e
/-- isinstance(x, T) for data x and a built-in T -/
def cIsi : Cd := fun ds P => match ds with | [x, .ty n] => ∃ t b, tyD x = some t ∧ kitB t n = some b ∧ P (.bl b) | _ => False
theorem cr_isi : CallR X (.builtin "isinstance") (cL (gd X) cIsi) := by
  intro pins s σ H xs us Q I r ⟨S, ds, P, sh, r1, ho, k⟩
  match ds, ho with
  | [x, .ty n], ho =>
    obtain ⟨t, b, h1, h2, h3⟩ := ho
    obtain ⟨v, u, rfl, q, q2⟩ := r1.two_inv
    cases q2
    exact call_isi pins s σ H _ us Q I r ⟨v, _, _, _, b, rfl, .ty n, q.tyx sh h1, kit_ty h2, k _ h3 _ S H (.refl sh) (.bl _)⟩
end
end Z

/-! Z: walks over a list or a tuple; our own lists read; name op= e. -/
namespace Z
open PySem PySem.Spec PyProof.Rows L2
section
variable {X : Cx} {W : WX} {mg : Mg} {tg : Expr} {pos p : Pos} {te : TEd}
/-- a list or a tuple, whichever it is -/
theorem pi_any {l : Expr} {tl : TE} (hl : PE X l tl) : PI X tg l (fun σ H R => tl σ H fun x H1 => ∃ a, x = .ref a ∧ (((∃ xs, SqL X.K H1 a xs) ∧ R (Itl X.K a) H1) ∨ ((∃ xs, SqT X.K H1 a xs) ∧ R (Itt X.K a) H1))) := by
  refine ⟨fun pins s σ H R I h => ?_⟩
  refine thn (hl.run pins s σ H _ I h) fun v s1 ⟨x, H1, I1, r1, q1⟩ => ?_
  obtain ⟨a, e, q1⟩ := q1
  subst e
  cases r1
  rcases q1 with ⟨⟨xs, hq⟩, q⟩ | ⟨⟨xs, hq⟩, q⟩
  · obtain ⟨its, rv, p, hz⟩ := I1.list hq
    refine wpAny_pyIter_list p.isList ?_
    refine ⟨s1.heap.objs.size, [s1.heap.objs.size], _, _, H1, rfl, I1.kept (t' := s1.toks) fun b o e => Heap.get?_push_of_some _ e, turn_list a _, ⟨_, Heap.get?_push_size _ rfl, rfl, rfl⟩, fun b hb => ?_, q⟩
    have e : b = s1.heap.objs.size := by simpa using hb
    subst e
    exact I1.fpOk (Nat.le_refl _) (I1.hok.fresh (Nat.le_refl _))
  · obtain ⟨its, rv, p, hz⟩ := I1.tuple hq
    refine wpAny_pyIter_tuple (show s1.heap.IsTuple a its.toArray from p) ?_
    refine ⟨s1.heap.objs.size, [s1.heap.objs.size], _, _, H1, rfl, I1.kept (t' := s1.toks) fun b o e => Heap.get?_push_of_some _ e, turn_tuple a _, ⟨_, Heap.get?_push_size _ rfl, rfl, rfl⟩, fun b hb => ?_, q⟩
    have e : b = s1.heap.objs.size := by simpa using hb
    subst e
    exact I1.fpOk (Nat.le_refl _) (I1.hok.fresh (Nat.le_refl _))
def itemsD (d : D) (P : List D → Prop) : Prop := match d with | .lst l => P l | .tup l => P l | .scr l => P l | _ => False
def iSeq (te : TEd) : TAd := fun ρ P Xp => te ρ (fun d => itemsD d P) Xp
theorem di_seq {l : Expr} (hl : DE X W l te) : DI X W tg l (iSeq te) := PI.weak (pi_any hl) fun σ H Q ⟨S0, H0, S, ρ, P, Xp, R, h, k, x⟩ => ⟨S0, H0, S, ρ, _, Xp, R, h, fun d hd v S1 H1 w1 r1 => by
  cases r1 with
  | lst e r => exact ⟨_, rfl, .inl ⟨⟨_, .inl (rd_mono w1.sh e)⟩, k _ hd _ S1 H1 w1 (itl_ok (.inl e) r)⟩⟩
  | scr e r => exact ⟨_, rfl, .inl ⟨⟨_, sq_mono w1.sh e⟩, k _ hd _ S1 H1 w1 (itl_ok e r)⟩⟩
  | tup e r => exact ⟨_, rfl, .inr ⟨⟨_, .inl (.inl (w1.sh _ _ e))⟩, k _ hd _ S1 H1 w1 (itt_ok e r)⟩⟩
  | _ => exact hd.elim, x⟩
/-! ### our own lists read -/
def ixD (z : D) (P : Int → Prop) : Prop := match z with | .int n => P n | _ => False
/-- x[e], x in slot i -/
def eIxO (i : Nat) (te : TEd) : TEd := fun ρ P Xp => ∃ l, ρ[i]? = some (.own (.lst l)) ∧ te ρ (fun z => ixD z fun n => ∃ d, atI l n = some d ∧ P d) Xp
theorem de_ixO {a b : Expr} {i : Nat} (ha : PE X a (tVar i)) (hb : DE X W b te) (hs : PlainIx b) : DE X W (.Subscript a b pos) (eIxO i te) := PE.weak (pe_ix ix_list ha hb hs) fun σ H Q ⟨S0, H0, S, ρ, P, Xp, R, ⟨l, hl, h⟩, k, x⟩ => by
  obtain ⟨q, h1, h2, h3, vs, h4, h5⟩ := R.at hl
  refine ⟨_, h1, S0, H0, S, ρ, _, Xp, R, h, fun z hz v S1 H1 w1 r1 => ?_, x⟩
  cases r1 <;> first | exact hz.elim | skip
  obtain ⟨d, hd, hP⟩ := hz
  obtain ⟨u, hu, ru⟩ := h5.at hd
  exact ⟨q, vs, _, u, rfl, rfl, .inl (.inl (w1.hh _ _ h4)), hu, k _ hP _ S1 H1 w1 (ru.mono w1.ss)⟩
/-- len(x), x in slot i -/
def eLenO (i : Nat) : TEd := fun ρ P _ => ∃ l, ρ[i]? = some (.own (.lst l)) ∧ P (.int l.length)
theorem de_lenO {a : Expr} {i : Nat} (ha : PE X a (tVar i)) (hg : Gl X "len") (hm : X.mg "len" = none)
    (he : starEach [a] X.env = (false, eval a X.env) :: starEach [] X.env := by rfl) (hpl : (backTo pos (starEach [] X.env)).any (·.1) = false := by rfl) : DE X W (.Call (.Name "len" p) [a] [] pos) (eLenO i) :=
  PE.weak (pe_callB call_len_seq hg hm PySem.boot_len (pa_cons ha pa_nil he) (by decide) (by decide) he hpl) fun σ H Q ⟨S0, H0, S, ρ, P, Xp, R, ⟨l, hl, h⟩, k, x⟩ => by
    obtain ⟨q, h1, h2, h3, vs, h4, h5⟩ := R.at hl
    exact ⟨_, h1, q, vs, rfl, .inl (.inl (.inl h4)), by rw [h5.length]; exact k.now R h (.int _)⟩
/-- len(x), x[e]: of our own or not -/
def eVarO (i : Nat) : TEd := fun ρ P _ => ∃ d, (ρ[i]? = some (.val d) ∨ ∃ o, ρ[i]? = some (.own o) ∧ d = o.d) ∧ P d
/-- name op= e -/
theorem ip_of {op : Operator} {r : R2} (h : OpR X (inplaceOp op) r) : PIp X op r := h
theorem ds_aug {i : Nat} {x : Str} {e : Expr} {op : Operator} {o : O2} {pos' : Pos} (hN : X.N.Nodup) (hi : X.N[i]? = some x) (hx : Loc X.env.scope x) (he : DE X W e te) (ho : OpR X (inplaceOp op) (rL (gd X) o)) (hf : X.fn x = true ∨ X.env.scope.names.lookup x = some .local := by first | exact .inl rfl | exact .inr rfl | assumption) :
    DS X W (.AugAssign (.Name x pos') op e pos) (fun Φ ρ => ∃ x, ρ[i]? = some (.val x) ∧ te ρ (fun y => o x y fun d => Φ.nx (ρ.set i (.val d))) (fun C fs => Φ.xc C fs ρ)) :=
  PS.weak (ps_aug hN hi hx he (ip_of ho) hf) fun D σ H ⟨S0, H0, S, ρ, Φ, R, ⟨x, hx, h⟩, k⟩ => by
    obtain ⟨v, hv, rv⟩ := R.val _ _ hx
    exact ⟨v, hv, S0, H0, S, ρ, _, _, R, h, fun y hy u S1 H1 w1 r1 => ⟨S1, x, y, _, w1.sh, rv.mono w1.ss, r1, hy, fun d hd z S2 H2 w2 r2 => k.nx _ hd _ S2 H2 ((R.grow (w1.trans w2)).set r2) (w1.ss.trans w2.ss)⟩, k.x R⟩
abbrev oIadd : O2 := oI (fun _ _ => True) fun i j => i + j
theorem or_iadd : OpR X (inplaceOp .Add) (rL (gd X) oIadd) := or_I0 iop_add
end
end Z

/-! Z: name = [comprehension]. -/
namespace Z
open PySem PySem.Spec PyProof.Rows L2
section
variable {X : Cx} {W : WX} {elt tg iter : Expr} {ifs : List Expr} {scope : Scope} {own : List (Str × Nat)} {pos : Pos} {ti : TAd} {g : TGd} {tt : TTd} {te : TEd}
/-- y = [..] on one line, y a plain local: our own list -/
theorem ds_setLc {i : Nat} {y : Str} {py spos : Pos} (hc : X.calm = true) (hN : X.N.Nodup) (hy : X.N[i]? = some y) (hyl : X.env.scope.names.lookup y = some .local)
    (hsw : swapsWith (.ListComp elt [⟨tg, iter, ifs, 0⟩] scope pos) (some (.Name y py)) spos.line X.env = pure true) (hi : DI X W tg iter ti) (ok : BlkOk X.N X.env.scope scope own)
    (hg : ∀ (s : Shared) (H : Hp) (C : Addr) (cl : List (Str × Addr)) (fp : List Addr), DG (X.blk s H scope (compEnvC scope cl C X.env) fp) (own.map (·.2)) tg g) (ht : ∀ (s : Shared) (H : Hp) (C : Addr) (cl : List (Str × Addr)) (fp : List Addr), DTs (X.blk s H scope (compEnvC scope cl C X.env) fp) ifs tt)
    (he : ∀ (s : Shared) (H : Hp) (C : Addr) (cl : List (Str × Addr)) (fp : List Addr), DE (X.blk s H scope (compEnvC scope cl C X.env) fp) W0 elt te) (hs : ∀ x, foldedSetIterable iter X.env x = pure x := by intro _; rfl) :
    DS X W (.Assign [.Name y py] (.ListComp elt [⟨tg, iter, ifs, 0⟩] scope pos) spos) (sSetF (fLc ti g tt te (own.map (·.2))) i) :=
  PS.weak (ps_setLc hc hN hy hyl hsw hi ok (blkG hc hg) (blkT hc ht) (blkE hc he) hs) fun D σ H ⟨S0, H0, S, ρ, Φ, R, h, k⟩ =>
    lift_lc σ H _ ⟨S0, H0, S, ρ, _, _, R, h, fun l hd p vs S1 H1 w1 hp hs e1 r1 => k.nx _ hd _ S1 H1 (R.setOwn w1 hp hs ⟨vs, e1, r1⟩) w1.ss, k.x R⟩
/-- .. that is changed no more -/
theorem ds_setLcV {i : Nat} {y : Str} {py spos : Pos} (hc : X.calm = true) (hN : X.N.Nodup) (hy : X.N[i]? = some y) (hyl : X.env.scope.names.lookup y = some .local)
    (hsw : swapsWith (.ListComp elt [⟨tg, iter, ifs, 0⟩] scope pos) (some (.Name y py)) spos.line X.env = pure true) (hi : DI X W tg iter ti) (ok : BlkOk X.N X.env.scope scope own)
    (hg : ∀ (s : Shared) (H : Hp) (C : Addr) (cl : List (Str × Addr)) (fp : List Addr), DG (X.blk s H scope (compEnvC scope cl C X.env) fp) (own.map (·.2)) tg g) (ht : ∀ (s : Shared) (H : Hp) (C : Addr) (cl : List (Str × Addr)) (fp : List Addr), DTs (X.blk s H scope (compEnvC scope cl C X.env) fp) ifs tt)
    (he : ∀ (s : Shared) (H : Hp) (C : Addr) (cl : List (Str × Addr)) (fp : List Addr), DE (X.blk s H scope (compEnvC scope cl C X.env) fp) W0 elt te) (hs : ∀ x, foldedSetIterable iter X.env x = pure x := by intro _; rfl) :
    DS X W (.Assign [.Name y py] (.ListComp elt [⟨tg, iter, ifs, 0⟩] scope pos) spos) (sSet (eF (fLc ti g tt te (own.map (·.2)))) i) :=
  PS.weak (ps_setLc hc hN hy hyl hsw hi ok (blkG hc hg) (blkT hc ht) (blkE hc he) hs) fun D σ H ⟨S0, H0, S, ρ, Φ, R, h, k⟩ =>
    lift_lc σ H _ ⟨S0, H0, S, ρ, _, _, R, h, vOk.frz (P := fun d => Φ.nx (ρ.set i (.val d))) fun d hd v S1 H1 w1 r1 => k.nx _ hd _ S1 H1 ((R.grow w1).set r1) w1.ss, k.x R⟩
end
end Z

/-! Z: readings, computed where the values are known. -/
namespace Z
open PySem PySem.Spec PyProof.Rows L2
section
variable {b : Bool} {i j : Int} {x y : Str} {l m : List D} {P : D → Prop} {PB : Bool → Prop} {PL : List D → Prop} {T F : Prop} {C : Int → Int → Prop} {g : Int → Int → Int} {gb : Int → Int → Bool} {neg : Bool} {d : D} {n : Nat}
theorem isBl_bl : isBl (.bl b) PB = PB b := rfl
theorem caseB_t : caseB (.bl true) T F = T := rfl
theorem caseB_f : caseB (.bl false) T F = F := rfl
theorem caseB_b : caseB (.bl b) T F = if b = true then T else F := by cases b <;> simp [caseB]
theorem truP_bl : truP (.bl b) PB = PB b := rfl
theorem truP_int : truP (.int i) PB = PB (i != 0) := rfl
theorem truP_non : truP .non PB = PB false := rfl
theorem truP_lst : truP (.lst l) PB = PB (!l.isEmpty) := rfl
theorem truP_tup : truP (.tup l) PB = PB (!l.isEmpty) := rfl
theorem oI_int : oI C g (.int i) (.int j) P = (C i j ∧ P (.int (g i j))) := rfl
theorem oC_int : oC gb (.int i) (.int j) P = P (.bl (gb i j)) := rfl
theorem oNeg_int : oNeg (.int i) P = P (.int (-i)) := rfl
theorem oAdd_int : oAdd (.int i) (.int j) P = P (.int (i + j)) := rfl
theorem oAdd_str : oAdd (.str x) (.str y) P = (x.length + y.length ≤ sizeLine ∧ P (.str (x ++ y))) := rfl
theorem oAdd_lst : oAdd (.lst l) (.lst m) P = (l.length + m.length ≤ sizeLine ∧ P (.lst (l ++ m))) := rfl
theorem oAdd_tup : oAdd (.tup l) (.tup m) P = (l ≠ [] ∧ l.length + m.length ≤ sizeLine ∧ P (.tup (l ++ m))) := rfl
theorem oEq_int : oEqN false (.int i) (.int j) P = P (.bl (decide (i = j))) := rfl
theorem oNe_int : oEqN true (.int i) (.int j) P = P (.bl (!decide (i = j))) := rfl
theorem oEq_str : oEqN false (.str x) (.str y) P = P (.bl (decide (x = y))) := rfl
theorem oNe_str : oEqN true (.str x) (.str y) P = P (.bl (!decide (x = y))) := rfl
theorem oEq_bl {c : Bool} : oEqN false (.bl b) (.bl c) P = P (.bl (decide (b = c))) := rfl
theorem oNe_bl {c : Bool} : oEqN true (.bl b) (.bl c) P = P (.bl (!decide (b = c))) := rfl
theorem oEq_lst : oEqN false (.lst l) (.lst m) P = (okD (.lst l) ∧ okD (.lst m) ∧ P (.bl (eqD (.lst l) (.lst m)))) := rfl
theorem oNe_lst : oEqN true (.lst l) (.lst m) P = (okD (.lst l) ∧ okD (.lst m) ∧ P (.bl (!eqD (.lst l) (.lst m)))) := rfl
theorem oEq_tup : oEqN false (.tup l) (.tup m) P = (okD (.tup l) ∧ okD (.tup m) ∧ P (.bl (eqD (.tup l) (.tup m)))) := rfl
theorem oNe_tup : oEqN true (.tup l) (.tup m) P = (okD (.tup l) ∧ okD (.tup m) ∧ P (.bl (!eqD (.tup l) (.tup m)))) := rfl
theorem oIn_tup : oInN neg d (.tup l) P = (flatD d = true ∧ l.all flatD = true ∧ P (.bl (if neg then !inD d l else inD d l))) := rfl
theorem oIn_lst : oInN neg d (.lst l) P = (flatD d = true ∧ l.all flatD = true ∧ P (.bl (if neg then !inD d l else inD d l))) := rfl
theorem oIx_lst : oIx (.lst l) (.int i) P = ∃ d, atI l i = some d ∧ P d := rfl
theorem oIx_tup : oIx (.tup l) (.int i) P = ∃ d, atI l i = some d ∧ P d := rfl
theorem oIx_scr : oIx (.scr l) (.int i) P = ∃ d, atI l i = some d ∧ P d := rfl
theorem oIx_str : oIx (.str x) (.int i) P = (x.length ≤ sizeLine ∧ ∃ c, atI x.cps.toList i = some c ∧ P (.str ⟨#[c]⟩)) := rfl
theorem ixD_int {PI : Int → Prop} : ixD (.int i) PI = PI i := rfl
theorem cLen_lst : cLen [.lst l] P = P (.int l.length) := rfl
theorem cLen_tup : cLen [.tup l] P = P (.int l.length) := rfl
theorem cLen_scr : cLen [.scr l] P = P (.int l.length) := rfl
theorem cLen_str : cLen [.str x] P = (x.length ≤ sizeLine ∧ P (.int x.length)) := rfl
theorem cAbs_int : cAbs [.int i] P = P (.int (if i < 0 then -i else i)) := rfl
theorem cInt_int : cInt [.int i] P = P (.int i) := rfl
theorem cInt_bl : cInt [.bl b] P = P (.int (if b then 1 else 0)) := rfl
theorem cMax_2 : cMax [.int i, .int j] P = P (.int (if j > i then j else i)) := rfl
theorem cMin_2 : cMin [.int i, .int j] P = P (.int (if j < i then j else i)) := rfl
theorem cMax_l : cMax [.lst l] P = ∃ ns : List Int, l = ns.map D.int ∧ 0 < ns.length ∧ ∀ m, m ∈ ns → (∀ y, y ∈ ns → y ≤ m) → P (.int m) := rfl
theorem cMin_l : cMin [.lst l] P = ∃ ns : List Int, l = ns.map D.int ∧ 0 < ns.length ∧ ∀ m, m ∈ ns → (∀ y, y ∈ ns → m ≤ y) → P (.int m) := rfl
theorem cTup_lst : cTup [.lst l] P = P (.tup l) := rfl
theorem cTup_tup : cTup [.tup l] P = P (.tup l) := rfl
theorem cLst_lst : cLst [.lst l] PL = PL l := rfl
theorem cLst_tup : cLst [.tup l] PL = PL l := rfl
theorem cLst_scr : cLst [.scr l] PL = PL l := rfl
theorem cGcd_int : cGcd [.int i, .int j] P = P (.int ((Nat.gcd i.natAbs j.natAbs : Nat) : Int)) := rfl
theorem itemsD_lst : itemsD (.lst l) PL = PL l := rfl
theorem itemsD_tup : itemsD (.tup l) PL = PL l := rfl
theorem itemsD_scr : itemsD (.scr l) PL = PL l := rfl
theorem rng1_int : rng1 [.int j] PL = (-(2 ^ 62) ≤ j ∧ j < 2 ^ 62 ∧ PL (rangeD 0 j.toNat)) := rfl
theorem rng2_int : rng2 [.int i, .int j] PL = ((-(2 ^ 62) ≤ i ∧ i < 2 ^ 62 ∧ -(2 ^ 62) ≤ j ∧ j < 2 ^ 62) ∧ PL (rangeD i (j - i).toNat)) := rfl
theorem asTup_tup : asTup (.tup l) n PL = (l.length = n ∧ PL l) := rfl
theorem isi_of {t s : String} {r : Bool} (h : tyD d = some t) (k : kitB t s = some r) (q : P (.bl r)) : cIsi [d, .ty s] P := ⟨t, r, h, k, q⟩
theorem cIsi_eq {t s : String} {r : Bool} (h : tyD d = some t) (k : kitB t s = some r) : cIsi [d, .ty s] P = P (.bl r) := propext ⟨fun ⟨t2, r2, h2, k2, q⟩ => by rw [h] at h2; cases h2; rw [k] at k2; cases k2; exact q, isi_of h k⟩
theorem cIsi_non_int : cIsi [.non, .ty "int"] P = P (.bl false) := cIsi_eq rfl (by decide +kernel)
theorem cIsi_non_bool : cIsi [.non, .ty "bool"] P = P (.bl false) := cIsi_eq rfl (by decide +kernel)
theorem cIsi_non_str : cIsi [.non, .ty "str"] P = P (.bl false) := cIsi_eq rfl (by decide +kernel)
theorem cIsi_non_list : cIsi [.non, .ty "list"] P = P (.bl false) := cIsi_eq rfl (by decide +kernel)
theorem cIsi_non_tuple : cIsi [.non, .ty "tuple"] P = P (.bl false) := cIsi_eq rfl (by decide +kernel)
theorem cIsi_bl_int : cIsi [(.bl b), .ty "int"] P = P (.bl true) := cIsi_eq rfl (by decide +kernel)
theorem cIsi_bl_bool : cIsi [(.bl b), .ty "bool"] P = P (.bl true) := cIsi_eq rfl (by decide +kernel)
theorem cIsi_bl_str : cIsi [(.bl b), .ty "str"] P = P (.bl false) := cIsi_eq rfl (by decide +kernel)
theorem cIsi_bl_list : cIsi [(.bl b), .ty "list"] P = P (.bl false) := cIsi_eq rfl (by decide +kernel)
theorem cIsi_bl_tuple : cIsi [(.bl b), .ty "tuple"] P = P (.bl false) := cIsi_eq rfl (by decide +kernel)
theorem cIsi_int_int : cIsi [(.int i), .ty "int"] P = P (.bl true) := cIsi_eq rfl (by decide +kernel)
theorem cIsi_int_bool : cIsi [(.int i), .ty "bool"] P = P (.bl false) := cIsi_eq rfl (by decide +kernel)
theorem cIsi_int_str : cIsi [(.int i), .ty "str"] P = P (.bl false) := cIsi_eq rfl (by decide +kernel)
theorem cIsi_int_list : cIsi [(.int i), .ty "list"] P = P (.bl false) := cIsi_eq rfl (by decide +kernel)
theorem cIsi_int_tuple : cIsi [(.int i), .ty "tuple"] P = P (.bl false) := cIsi_eq rfl (by decide +kernel)
theorem cIsi_str_int : cIsi [(.str x), .ty "int"] P = P (.bl false) := cIsi_eq rfl (by decide +kernel)
theorem cIsi_str_bool : cIsi [(.str x), .ty "bool"] P = P (.bl false) := cIsi_eq rfl (by decide +kernel)
theorem cIsi_str_str : cIsi [(.str x), .ty "str"] P = P (.bl true) := cIsi_eq rfl (by decide +kernel)
theorem cIsi_str_list : cIsi [(.str x), .ty "list"] P = P (.bl false) := cIsi_eq rfl (by decide +kernel)
theorem cIsi_str_tuple : cIsi [(.str x), .ty "tuple"] P = P (.bl false) := cIsi_eq rfl (by decide +kernel)
theorem cIsi_lst_int : cIsi [(.lst l), .ty "int"] P = P (.bl false) := cIsi_eq rfl (by decide +kernel)
theorem cIsi_lst_bool : cIsi [(.lst l), .ty "bool"] P = P (.bl false) := cIsi_eq rfl (by decide +kernel)
theorem cIsi_lst_str : cIsi [(.lst l), .ty "str"] P = P (.bl false) := cIsi_eq rfl (by decide +kernel)
theorem cIsi_lst_list : cIsi [(.lst l), .ty "list"] P = P (.bl true) := cIsi_eq rfl (by decide +kernel)
theorem cIsi_lst_tuple : cIsi [(.lst l), .ty "tuple"] P = P (.bl false) := cIsi_eq rfl (by decide +kernel)
theorem cIsi_tup_int : cIsi [(.tup l), .ty "int"] P = P (.bl false) := cIsi_eq rfl (by decide +kernel)
theorem cIsi_tup_bool : cIsi [(.tup l), .ty "bool"] P = P (.bl false) := cIsi_eq rfl (by decide +kernel)
theorem cIsi_tup_str : cIsi [(.tup l), .ty "str"] P = P (.bl false) := cIsi_eq rfl (by decide +kernel)
theorem cIsi_tup_list : cIsi [(.tup l), .ty "list"] P = P (.bl false) := cIsi_eq rfl (by decide +kernel)
theorem cIsi_tup_tuple : cIsi [(.tup l), .ty "tuple"] P = P (.bl true) := cIsi_eq rfl (by decide +kernel)
theorem for_of {ti : TAd} {tg : TGd} {tb : TSd} {Φ : Ed} {ρ : En} (items : List D) (I : Nat → En → Prop) (hi : ∀ (P : List D → Prop) Xp, P items → ti ρ P Xp) (h0 : I 0 ρ)
    (hs : ∀ (i : Nat) x ρ', items[i]? = some x → I i ρ' → tg x ρ' fun ρ2 => tb { Φ with nx := I (i + 1), ct := I (i + 1), bk := Φ.nx } ρ2) (hd : ∀ ρ', I items.length ρ' → Φ.nx ρ') : sFor ti tg tb Φ ρ := hi _ _ ⟨I, h0, hs, hd⟩
/-- over range(n) -/
theorem for_rng {ti : TAd} {tg : TGd} {tb : TSd} {Φ : Ed} {ρ : En} (n : Nat) (I : Nat → En → Prop) (hi : ∀ (P : List D → Prop) Xp, P (rangeD 0 n) → ti ρ P Xp) (h0 : I 0 ρ)
    (hs : ∀ (i : Nat) ρ', i < n → I i ρ' → tg (.int (i : Nat)) ρ' fun ρ2 => tb { Φ with nx := I (i + 1), ct := I (i + 1), bk := Φ.nx } ρ2) (hd : ∀ ρ', I n ρ' → Φ.nx ρ') : sFor ti tg tb Φ ρ :=
  for_of (rangeD 0 n) I hi h0 (fun i x ρ' hx hI => by
    obtain ⟨h1, rfl⟩ := rangeD_get hx
    rw [Int.zero_add]
    exact hs i ρ' h1 hI) (fun ρ' h => hd ρ' (by rw [rangeD_length] at h; exact h))
theorem while_of {tc : TTd} {tb : TSd} {Φ : Ed} {ρ : En} (I : Nat → En → Prop) (m : Nat) (h0 : I m ρ)
    (hs : ∀ m ρ', I m ρ' → tc ρ' (fun b => if b = true then tb { Φ with nx := fun r => ∃ m', m' < m ∧ I m' r, ct := fun r => ∃ m', m' < m ∧ I m' r, bk := Φ.nx } ρ' else Φ.nx ρ') (fun C fs => Φ.xc C fs ρ')) : sWhile tc tb Φ ρ := ⟨I, ⟨m, h0⟩, hs⟩
theorem one_le' : (0 + 1 : Nat) ≤ sizeLine := by decide
theorem two_le' : (0 + 1 + 1 : Nat) ≤ sizeLine := by decide
end
end Z

/-! Z: own classes: fields, methods, making, properties, classmethods, operators, ==. -/
namespace Z
open PySem PySem.Spec PyProof.Rows L2
section
variable {X : Cx} {W : WX} {mg : Mg} {CX : CXT} {k : Nat} {f C : Addr} {fd : FuncData} {ps : List Str} {sp : Sp} {E : L2.St → XK} {x m : Str} {p pos apos : Pos} {e o : Expr} {es : List Expr} {ta te : TE} {t : TA}
/-! ### calls where what is raised is wished for at the slots -/
def tMethS (C : Addr) (m : Str) (sp : Sp) (E : L2.St → XK) (ta : TE) (t : TA) : TE := fun σ H Q => ta σ H fun x H1 => ∃ a dx fs, x = .ref a ∧ H1 a = some (.ins C dx fs) ∧ fs.lookup m = none ∧ t σ H1 fun vs H2 => sp (x :: vs) H2 Q (E σ)
theorem pe_methS {pl : Sem Bool} (he : PE X o ta) (c : L2.Cls X.K C) (hm : Meth X.K C m f) (F : FnOk X.prog X.w X.K X.mg X.base CX k f fd ps sp) (hr : Room k X.A) (hb : Binds X.K fd ps []) (hx : ∀ σ, PassesAt CX X σ (E σ)) (ha : PA X (e :: es) t)
    (hst : starEach (e :: es) X.env = (false, eval e X.env) :: starEach es X.env := by rfl) (hpl : (backTo pos (starEach es X.env)).any (·.1) = false := by rfl)
    (ht : eval (.Call (.Attribute o m apos) (e :: es) [] pos) X.env = (do
      let ov ← eval o X.env
      standAt apos.atName
      let (f, first) ← holding [ov] (getMethod ov m pl)
      callWith pos f first (backTo pos (starEach (e :: es) X.env)) (backToKw pos (keywordEach [] X.env))) := by rfl) :
    PE X (.Call (.Attribute o m apos) (e :: es) [] pos) (tMethS C m sp E ta t) := by
  refine ⟨fun pins s σ H Q I h => ?_⟩
  refine PySem.W.methodCall_KW (pl := pl) (thn (he.run pins s σ H _ I h) fun u s1 ⟨x, H1, I1, rx, a, dx, fs, ex, ea, l, q⟩ => ?_) ht
  subst ex
  obtain rfl : u = Value.ref a := rx
  refine getmeth_ok I1 ea c hm l ?_
  refine PySem.W.callWith_K (first := [.ref a]) (h₀ := X.base) I.ok.mod.kin hm.kp (thn (ha.run pos pins s1 σ H1 _ I1 q) fun us s2 ⟨vs, H2, I2, r, q2⟩ => ⟨I2.kIn, ?_⟩) hst hpl
  exact run_fnS (us := .ref a :: us) (vs := .ref a :: vs) F hr hb (hx σ) I2 (.cons rfl r) q2
theorem pe_meth0S {pl : Sem Bool} (he : PE X o ta) (c : L2.Cls X.K C) (hm : Meth X.K C m f) (F : FnOk X.prog X.w X.K X.mg X.base CX k f fd ps sp) (hr : Room k X.A) (hb : Binds X.K fd ps []) (hx : ∀ σ, PassesAt CX X σ (E σ))
    (ht : eval (.Call (.Attribute o m apos) [] [] pos) X.env = (do
      let ov ← eval o X.env
      standAt apos.atName
      let (f, first) ← holding [ov] (getMethod ov m pl)
      callWith pos f first (backTo pos (starEach [] X.env)) (backToKw pos (keywordEach [] X.env))) := by rfl) :
    PE X (.Call (.Attribute o m apos) [] [] pos) (tMethS C m sp E ta L2.tNil) := by
  refine ⟨fun pins s σ H Q I h => ?_⟩
  refine PySem.W.methodCall_KW (pl := pl) (thn (he.run pins s σ H _ I h) fun u s1 ⟨x, H1, I1, rx, a, dx, fs, ex, ea, l, q⟩ => ?_) ht
  subst ex
  obtain rfl : u = Value.ref a := rx
  refine getmeth_ok I1 ea c hm l ?_
  refine PySem.W.callWith_K0 (first := [.ref a]) I1.kIn hm.kp ?_
  exact run_fnS (us := [.ref a]) (vs := [.ref a]) F hr hb (hx σ) I1 (.cons rfl .nil) q
/-- what is raised by a callee is taken, in states of X that have these slots -/
def tMakeS (C : Addr) (sp : Sp) (E : L2.St → XK) (t : TA) : TE := fun σ H Q => t σ H fun vs H1 => ∀ x dx, H1 x = none → H1 dx = none → dx ≠ x →
  sp (.ref x :: vs) (upd (upd H1 dx (.own x)) x (.ins C dx [])) (fun v H2 => v = .non ∧ Q (.ref x) H2) (E σ)
theorem run_makeS {pins : List (Addr × Obj)} {σ : L2.St} {H : Hp} {s : Shared} {Q : VK} {us : List Value} {vs : List V} (M : Mk X.K C f) (F : FnOk X.prog X.w X.K X.mg X.base CX k f fd ps sp) (hr : Room (k + 1) X.A) (hb : Binds X.K fd ps [])
    (hx : PassesAt CX X σ (E σ)) (I : L2.Inv X pins σ H s) (r : Vals vs us)
    (h : ∀ x dx, H x = none → H dx = none → dx ≠ x → sp (.ref x :: vs) (upd (upd H dx (.own x)) x (.ins C dx [])) (fun v H2 => v = .non ∧ Q (.ref x) H2) (E σ)) :
    wpAny (model X.prog X.w) X.A (call (.ref C) us) (EP X pins σ Q) X.xe s := by
  have hq := h (s.heap.objs.size + 1) s.heap.objs.size (I.hok.fresh (Nat.le_succ _)) (I.hok.fresh (Nat.le_refl _)) (Nat.ne_of_lt (Nat.lt_succ_self _))
  have I2 := Inv.made (C := C) I
  have r2 : Vals (V.ref (s.heap.objs.size + 1) :: vs) (Value.ref (s.heap.objs.size + 1) :: us) := .cons rfl r
  have hl : (Value.ref (s.heap.objs.size + 1) :: us).length = ps.length := by
    have e := r2.length
    rw [F.len _ _ _ _ hq] at e
    exact e.symm
  have b := hb _ (Value.ref (s.heap.objs.size + 1) :: us) I2.kIn (by rw [List.append_nil]; exact hl)
  rw [List.append_nil] at b
  refine wpAny_call (make_map (f := f) I.kIn M.makes M.init (beq_iff_eq.mp M.fn) (codeAny_mono (F.run _ X.stack _ _ ⟨Value.ref (s.heap.objs.size + 1) :: us, []⟩ (Value.ref (s.heap.objs.size + 1) :: us) _ _ (E σ) (hr.make C us [])
    (I2.env0.make C us []) b r2 hq) fun r s' hq' => ?_))
  cases r with
  | error e => exact hx pins _ _ e s' I2 hq'
  | ok fl =>
    cases fl with
    | ret u =>
      obtain ⟨v, H', I3, rv, ev, q3⟩ := I2.after hq'
      subst ev
      exact ⟨rv, ⟨V.ref (s.heap.objs.size + 1), H', I3, rfl, q3⟩⟩
    | next => exact False.elim hq'
    | brk => exact False.elim hq'
    | cont => exact False.elim hq'
theorem pe_makeS (M : Mk X.K C f) (F : FnOk X.prog X.w X.K X.mg X.base CX k f fd ps sp) (hr : Room (k + 1) X.A) (hg : Gl X x) (hm : X.mg x = some (.ref C)) (hb : Binds X.K fd ps []) (hx : ∀ σ, PassesAt CX X σ (E σ))
    (ha : PA X (e :: es) t) (hdb : (x == ("__debug__" : Str)) = false := by decide) (he : starEach (e :: es) X.env = (false, eval e X.env) :: starEach es X.env := by rfl) (hpl : (backTo pos (starEach es X.env)).any (·.1) = false := by rfl) :
    PE X (.Call (.Name x p) (e :: es) [] pos) (tMakeS C sp E t) := by
  refine ⟨fun pins s σ H Q I h => ?_⟩
  refine wpAny_Call_Name_kw (ld_glob I hg hm ?_ hdb)
  refine PySem.W.callWith_K (h₀ := X.base) I.ok.mod.kin M.kp (thn (ha.run pos pins s σ H _ I h) fun us s1 ⟨vs, H1, I1, r, q⟩ => ⟨I1.kIn, ?_⟩) he hpl
  exact run_makeS M F hr hb (hx σ) I1 r q
/-- cls(..), cls a slot that holds the class at C -/
def tMakeL (i : Nat) (C : Addr) (sp : Sp) (E : L2.St → XK) (t : TA) : TE := fun σ H Q => σ[i]? = some (some (.ref C)) ∧ tMakeS C sp E t σ H Q
theorem pe_makeL {i : Nat} (M : Mk X.K C f) (F : FnOk X.prog X.w X.K X.mg X.base CX k f fd ps sp) (hr : Room (k + 1) X.A) (hN : X.N[i]? = some x) (hv : Vis X.env.scope x) (hb : Binds X.K fd ps []) (hx : ∀ σ, PassesAt CX X σ (E σ))
    (ha : PA X (e :: es) t) (hdb : (x == ("__debug__" : Str)) = false := by decide) (hcd : (x == ("__classdict__" : Str)) = false := by decide) (he : starEach (e :: es) X.env = (false, eval e X.env) :: starEach es X.env := by rfl) (hpl : (backTo pos (starEach es X.env)).any (·.1) = false := by rfl) :
    PE X (.Call (.Name x p) (e :: es) [] pos) (tMakeL i C sp E t) := by
  refine ⟨fun pins s σ H Q I h => ?_⟩
  obtain ⟨hs, ht⟩ := h
  refine wpAny_Call_Name_kw (thn ((pe_var (pos := p) hN hv hdb hcd).run pins s σ H (fun v H1 => v = .ref C ∧ H1 = H) I ⟨.ref C, hs, rfl, rfl⟩) fun u s1 ⟨v, H1, I1, r1, q1⟩ => ?_)
  obtain ⟨rfl, rfl⟩ := q1
  cases r1
  refine PySem.W.callWith_K (h₀ := X.base) I.ok.mod.kin M.kp (thn (ha.run pos pins s1 σ _ _ I1 ht) fun us s2 ⟨vs, H2, I2, r, q⟩ => ⟨I2.kIn, ?_⟩) he hpl
  exact run_makeS M F hr hb (hx σ) I2 r q
/-! ### told of data -/
def insD (d : D) (C : Str) (P : List (Str × D) → Prop) : Prop := match d with | .ins C' fs => C' = C ∧ P fs | _ => False
theorem insD_ins {C : Str} {fs : List (Str × D)} {P : List (Str × D) → Prop} : insD (.ins C fs) C P = P fs := by simp [insD]
/-- the facts of a class: its address by its name -/
structure ClsAt (X : Cx) (n : Str) (c : Addr) : Prop where
  g : X.mg n = some (.ref c)
  c : L2.Cls X.K c
variable {n : Str} {tE : TEd} {tr : TAd}
theorem Rep.ins_at {S : Hp} {v : V} {fs : List (Str × D)} {c : Addr} (h : Rep mg S v (.ins n fs)) (hm : mg.m n = some (.ref c)) : ∃ a dx gs, v = .ref a ∧ S a = some (.ins c dx gs) ∧ RepF mg S gs fs := by
  cases h with
  | ins hC e r =>
    rw [hm] at hC
    cases hC
    exact ⟨_, _, _, rfl, e, r⟩
/-- e.f -/
def eFld (n : Str) (fl : Str) (te : TEd) : TEd := fun ρ P Xp => te ρ (fun d => insD d n fun fs => ∃ v, fs.lookup fl = some v ∧ P v) Xp
theorem de_fld {fl : Str} (he : DE X W e tE) (T : ClsAt X n C) (hn : NoAttr X.K C fl) (hb : attributeBase e fl X.env (eval e X.env) = eval e X.env := by rfl) : DE X W (.Attribute e fl pos) (eFld n fl tE) :=
  PE.weak (pe_fld he hb) fun σ H Q ⟨S0, H0, S, ρ, P, Xp, R, h, k, x⟩ => ⟨S0, H0, S, ρ, _, Xp, R, h, fun d hd v S1 H1 w1 r1 => by
    cases d <;> first | exact hd.elim | skip
    obtain ⟨rfl, v', hl, hP⟩ := hd
    obtain ⟨a, dx, gs, rfl, ea, rf⟩ := r1.ins_at T.g
    obtain ⟨u, hu, ru⟩ := rf.lookup hl
    exact ⟨a, C, dx, gs, u, rfl, w1.sh _ _ ea, T.c, hn, hu, k _ hP _ S1 H1 w1 ru⟩, x⟩
/-- self.f, self our own in slot i -/
def eFldO (n : Str) (i : Nat) (fl : Str) : TEd := fun ρ P _ => ∃ z fs v, ρ[i]? = some (.own (.ins z n fs)) ∧ fs.lookup fl = some v ∧ P v
theorem de_fldO {fl : Str} {i : Nat} (he : PE X e (tVar i)) (T : ClsAt X n C) (hn : NoAttr X.K C fl) (hb : attributeBase e fl X.env (eval e X.env) = eval e X.env := by rfl) : DE X W (.Attribute e fl pos) (eFldO n i fl) :=
  PE.weak (pe_fld he hb) fun σ H Q ⟨S0, H0, S, ρ, P, Xp, R, ⟨z, fs, v', hi, hl, hP⟩, k, x⟩ => by
    obtain ⟨a, h1, h2, h3, ez, c, dx, gs, hc, ea, rf⟩ := R.at hi
    have hc' : X.mg n = some (.ref c) := hc
    rw [T.g] at hc'
    cases hc'
    obtain ⟨u, hu, ru⟩ := rf.lookup hl
    exact ⟨_, h1, a, C, dx, gs, u, rfl, ea, T.c, hn, hu, k.now R hP ru⟩
/-- self.f = e -/
def sFldS (n : Str) (i : Nat) (fl : Str) (te : TEd) : TSd := fun Φ ρ => te ρ (fun d => ∃ z fs, ρ[i]? = some (.own (.ins z n fs)) ∧ fs.length < 1000 ∧ Φ.nx (ρ.set i (.own (.ins z n (putD fl d fs))))) (fun C fs => Φ.xc C fs ρ)
theorem ds_fldS {fl : Str} {i : Nat} {value : Expr} {pos' : Pos} (ho : PE X o (tVar i)) (hv : DE X W value tE) (T : ClsAt X n C) (hn : NoAttr X.K C fl) (hs : swapsWith value (some (.Attribute o fl pos')) pos.line X.env = pure false := by rfl) : DS X W (.Assign [.Attribute o fl pos'] value pos) (sFldS n i fl tE) :=
  PS.weak (ps_fld ho hv hs) fun D σ H ⟨S0, H0, S, ρ, Φ, R, h, k⟩ => ⟨S0, H0, S, ρ, _, _, R, h, fun d hd v S1 H1 w1 r1 => by
    obtain ⟨z, fs, hi, hz, hn'⟩ := hd
    have R1 := R.grow w1
    obtain ⟨a, h1, h2, h3, ez, c, dx, gs, hc, ea, rf⟩ := R1.at hi
    have hc' : X.mg n = some (.ref c) := hc
    rw [T.g] at hc'
    cases hc'
    exact ⟨_, h1, a, C, dx, gs, rfl, ea, T.c, hn, by rw [rf.length]; exact hz, k.nx _ hn' _ S1 _ (R1.mut hi h1 ⟨ez, C, dx, _, hc, upd_same, rf.put r1⟩) w1.ss⟩, k.x R⟩
/-- o.m(..) -/
def eMeth (n m : Str) (j : Nat) (sp : Spd) (te : TEd) (t : TAd) : TEd := fun ρ P Xp => te ρ (fun d => insD d n fun fs => fs.lookup m = none ∧ t ρ (fun ds => (d :: ds).length = j ∧ sp (d :: ds) P Xp) Xp) Xp
def fMeth (n m : Str) (j : Nat) (sp : Spf) (te : TEd) (t : TAd) : TAd := fun ρ P Xp => te ρ (fun d => insD d n fun fs => fs.lookup m = none ∧ t ρ (fun ds => (d :: ds).length = j ∧ sp (d :: ds) P Xp) Xp) Xp
theorem lift_meth {j : Nat} {sp : Spd} (T : ClsAt X n C) {ta : TEd} {tb : TAd} (σ : L2.St) (H : Hp) (Q : VK) (h : liftE (gd X) W (eMeth n m j sp ta tb) σ H Q) : tMethS C m (spL (gd X) j sp) (WE W) (liftE (gd X) W ta) (liftA (gd X) W tb) σ H Q := by
  obtain ⟨S0, H0, S, ρ, P, Xp, R, h, k, x⟩ := h
  refine ⟨S0, H0, S, ρ, _, Xp, R, h, fun d hd v S1 H1 w1 r1 => ?_, x⟩
  cases d <;> first | exact hd.elim | skip
  obtain ⟨rfl, hm, hd⟩ := hd
  obtain ⟨a, dx, gs, rfl, ea, rf⟩ := r1.ins_at T.g
  refine ⟨a, dx, gs, rfl, w1.sh _ _ ea, rf.lookup_none hm, S0, H0, S1, ρ, _, Xp, R.grow w1, hd, fun ds hds vs S2 H2 w2 r2 => ?_, x.grow w1⟩
  have w := w1.trans w2
  exact ⟨by rw [List.length_cons, r2.length]; exact hds.1, S2, _, P, Xp, w2.sh, .cons (r1.mono w2.ss) r2, hds.2, k.grow w, x.grow w⟩
theorem lift_methF {j : Nat} {sp : Spf} (T : ClsAt X n C) {ta : TEd} {tb : TAd} (σ : L2.St) (H : Hp) (Q : VK) (h : liftF (gd X) W (fMeth n m j sp ta tb) σ H Q) : tMethS C m (spF (gd X) j sp) (WE W) (liftE (gd X) W ta) (liftA (gd X) W tb) σ H Q := by
  obtain ⟨S0, H0, S, ρ, P, Xp, R, h, k, x⟩ := h
  refine ⟨S0, H0, S, ρ, _, Xp, R, h, fun d hd v S1 H1 w1 r1 => ?_, x⟩
  cases d <;> first | exact hd.elim | skip
  obtain ⟨rfl, hm, hd⟩ := hd
  obtain ⟨a, dx, gs, rfl, ea, rf⟩ := r1.ins_at T.g
  refine ⟨a, dx, gs, rfl, w1.sh _ _ ea, rf.lookup_none hm, S0, H0, S1, ρ, _, Xp, R.grow w1, hd, fun ds hds vs S2 H2 w2 r2 => ?_, x.grow w1⟩
  have w := w1.trans w2
  exact ⟨by rw [List.length_cons, r2.length]; exact hds.1, S2, _, P, Xp, w2.sh, .cons (r1.mono w2.ss) r2, hds.2, k.grow w, x.grow w⟩
theorem lift_tNil {P : List V → Hp → Prop} {σ : L2.St} {H : Hp} (h : liftA (gd X) W aNil σ H P) : L2.tNil σ H P := by
  obtain ⟨S0, H0, S, ρ, P', Xp, R, h, k, x⟩ := h
  exact k _ h _ _ _ (.refl R.wd.sh) .nil
theorem de_meth {pl : Sem Bool} {sp : Spd} {j : Nat} (he : DE X W o tE) (T : ClsAt X n C) (hm : Meth X.K C m f) (F : FnOk X.prog X.w X.K X.mg X.base (L2N.CX X.prog X.w) k f fd ps (spL (gd X) j sp)) (hr : Room k X.A) (hb : Binds X.K fd ps []) (tk : L2N.Takes X W) (ha : DA X W (e :: es) tr)
    (hst : starEach (e :: es) X.env = (false, eval e X.env) :: starEach es X.env := by rfl) (hpl : (backTo pos (starEach es X.env)).any (·.1) = false := by rfl)
    (ht : eval (.Call (.Attribute o m apos) (e :: es) [] pos) X.env = (do
      let ov ← eval o X.env
      standAt apos.atName
      let (f, first) ← holding [ov] (getMethod ov m pl)
      callWith pos f first (backTo pos (starEach (e :: es) X.env)) (backToKw pos (keywordEach [] X.env))) := by rfl) : DE X W (.Call (.Attribute o m apos) (e :: es) [] pos) (eMeth n m j sp tE tr) :=
  PE.weak (pe_methS he T.c hm F hr hb (fun σ => L2N.passAt tk σ) ha hst hpl ht) (lift_meth T)
theorem de_meth0 {pl : Sem Bool} {sp : Spd} {j : Nat} (he : DE X W o tE) (T : ClsAt X n C) (hm : Meth X.K C m f) (F : FnOk X.prog X.w X.K X.mg X.base (L2N.CX X.prog X.w) k f fd ps (spL (gd X) j sp)) (hr : Room k X.A) (hb : Binds X.K fd ps []) (tk : L2N.Takes X W)
    (ht : eval (.Call (.Attribute o m apos) [] [] pos) X.env = (do
      let ov ← eval o X.env
      standAt apos.atName
      let (f, first) ← holding [ov] (getMethod ov m pl)
      callWith pos f first (backTo pos (starEach [] X.env)) (backToKw pos (keywordEach [] X.env))) := by rfl) : DE X W (.Call (.Attribute o m apos) [] [] pos) (eMeth n m j sp tE aNil) :=
  PE.weak (pe_meth0S he T.c hm F hr hb (fun σ => L2N.passAt tk σ) ht) fun σ H Q h => by
    have q := lift_meth (m := m) T σ H Q h
    obtain ⟨S0, H0, S, ρ, P, Xp, R, h, k, x⟩ := q
    refine ⟨S0, H0, S, ρ, P, Xp, R, h, fun d hd v S1 H1 w1 r1 => ?_, x⟩
    obtain ⟨a, dx, fs, ev, ea, l, q⟩ := k d hd v S1 H1 w1 r1
    exact ⟨a, dx, fs, ev, ea, l, lift_tNil q⟩
end
end Z

/-! Z: instances made; properties; classmethods; operators and == of one's own. -/
namespace Z
open PySem PySem.Spec PyProof.Rows L2
section
variable {X : Cx} {W : WX} {mg : Mg} {k : Nat} {f C : Addr} {fd : FuncData} {ps : List Str} {x m : Str} {p pos apos : Pos} {e o : Expr} {es : List Expr} {n : Str} {tE : TEd} {tr : TAd}
/-- what an __init__ promises: the fields of the instance -/
abbrev Spi := List D → (List (Str × D) → Prop) → Xd → Prop
def spI (mg : Mg) (C : Str) (j : Nat) (sp : Spi) : Sp := fun vs H Q E => vs.length = j ∧ ∃ S H0 ds P Xp x dx ws c, vs = .ref x :: ws ∧ mg.m C = some (.ref c) ∧ H = upd (upd H0 dx (.own x)) x (.ins c dx []) ∧ H0 x = none ∧ H0 dx = none ∧ dx ≠ x ∧
  Same S H0 ∧ Reps mg S ws ds ∧ sp ds P Xp ∧ (∀ fs, P fs → ∀ S' H' dx' gs, Wd S H0 S' H' → S' x = none → H' x = some (.ins c dx' gs) → RepF mg S' gs fs → Q .non H') ∧
  ∀ C' fs, Xp C' fs → ∀ c' d' S' H', mg.m C' = some (.ref c') → Wd S H0 S' H' → RepX mg S' H' d' fs → E (.ref c') d' H'
def startI (n : Nat) (a : Addr) (C : Str) (ds : List D) : En := .own (.ins a C []) :: startD (n - 1) ds
theorem RE.startI {S H0 : Hp} (hs : Same S H0) {N : List Str} {vs : List V} {ds : List D} {a dx c : Addr} {C : Str} (hc : mg.m C = some (.ref c)) (ha : H0 a = none) (hd : H0 dx = none) (hne : dx ≠ a) (hN : 0 < N.length) (r : Reps mg S vs ds) :
    RE mg S H0 S (upd (upd H0 dx (.own a)) a (.ins c dx [])) (L2.start N (.ref a :: vs)) (startI N.length a C ds) := by
  have hh : Same H0 (upd (upd H0 dx (.own a)) a (.ins c dx [])) := fun q u e => by
    rw [upd_ne (ne_of_none e ha), upd_ne (ne_of_none e hd)]; exact e
  refine ⟨⟨hh, Same.refl _, hs.trans hh, fun _ h _ => h⟩, ?_, fun i d e => ?_, fun _ => a, fun i o e => ?_, fun i j o o' e1 e2 hij => ?_⟩
  · unfold Z.startI startD L2.start
    have := r.length
    simp only [List.length_cons, List.length_append, List.length_map, List.length_replicate]
    omega
  · cases i with
    | zero => cases e
    | succ i =>
      obtain ⟨v, hv, rv⟩ := r.get (startD_val (show (startD (N.length - 1) ds)[i]? = some (.val d) from e))
      refine ⟨v, ?_, rv⟩
      unfold L2.start
      have hi : i < vs.length := (List.getElem?_eq_some_iff.mp hv).1
      rw [List.getElem?_append_left (by simpa using hi), List.map_cons, List.getElem?_cons_succ, List.getElem?_map, hv]
      rfl
  · cases i with
    | zero =>
      cases e
      exact ⟨rfl, fun q hq => by rw [List.mem_singleton.mp hq]; exact ⟨ha, Same.free hs ha⟩, rfl, c, dx, [], hc, upd_same, .nil⟩
    | succ i => exact (startD_own (show (startD (N.length - 1) ds)[i]? = some (.own o) from e)).elim
  · cases i with
    | succ i => exact (startD_own (show (startD (N.length - 1) ds)[i]? = some (.own o) from e1)).elim
    | zero =>
      cases j with
      | zero => exact absurd rfl hij
      | succ j => exact (startD_own (show (startD (N.length - 1) ds)[j]? = some (.own o') from e2)).elim
/-- an __init__ keeps its promise -/
theorem ok_init {P : Program} {w : World} {K : PySem.W.Frag} {mg : Str → Option Value} {base : Heap} {x qual : Str} {st : Stmt} {f : Addr} {fd : FuncData} {N ps : List Str} {k : Nat} {sp : Spi} {t : TSd} {C : Str} (F : Fun K x qual st f fd) (S : FnScope N ps (defScope st)) (hN : 0 < N.length)
    (body : ∀ (cdv : Value) (A : Around) (outer : List Env) (s : Shared) (H : Hp) (E : XK) (W : WX), Room k (A.deeper (envOfC qual (defScope st) s.heap.objs.size f cdv)) → (∀ c d σ H, W c d σ H = E c d H) → L2N.Takes (cxOf (L2N.CX P w) P w K mg base N qual (defScope st) f cdv A outer s H E) W → DSs (cxOf (L2N.CX P w) P w K mg base N qual (defScope st) f cdv A outer s H E) W (defBody st) t)
    (pure : ∀ a ds Q Xp, ds.length + 1 = ps.length → sp ds Q Xp → t { nx := fun ρ => ∃ fs, ρ[0]? = some (.own (.ins a C fs)) ∧ Q fs, rt := fun _ => False, xc := fun C fs _ => Xp C fs } (startI N.length a C ds)) :
    FnOk P w K mg base (L2N.CX P w) (k + 1) f fd ps (spI ⟨K, mg, []⟩ C ps.length sp) := by
  refine okN F S (fun vs H Q E h => h.1) (fun cdv A outer s H vs Q E hr h => ?_)
  obtain ⟨hl, S1, H0, ds, P1, Xp, a, dx, ws, c, rfl, hc, rfl, ha, hd, hne, sh, r, hsp, kv, kx⟩ := h
  have tk : L2N.Takes (cxOf (L2N.CX P w) P w K mg base N qual (defScope st) f cdv A outer s (upd (upd H0 dx (.own a)) a (.ins c dx [])) E) (fun c d _ H => E c d H) := L2N.takes_of rfl rfl rfl rfl
  refine ⟨_, body cdv A outer s _ E _ hr (fun _ _ _ _ => rfl) tk, S1, H0, S1, _, _, RE.startI (mg := ⟨K, mg, []⟩) sh hc ha hd hne hN r, pure a ds P1 Xp (by rw [← r.length]; exact hl) hsp, ?_⟩
  exact { nx := fun ρ' ⟨fs, hi, hq⟩ σ' S' H' R' _ => by
            obtain ⟨p, h1, h2, h3, ez, c2, dx', gs, hc2, ea, rf⟩ := R'.at hi
            subst ez
            have hc3 : mg C = some (.ref c2) := hc2
            have hc4 : mg C = some (.ref c) := hc
            rw [hc4] at hc3
            cases hc3
            exact kv fs hq S' H' dx' gs R'.wd h3 ea rf,
          rt := fun d hd => hd.elim, ro := fun o ho => ho.elim, bk := fun _ h => h.elim, ct := fun _ h => h.elim,
          xc := fun C fs ρ' h' c d' σ' S' H' e R' rx _ => kx C fs h' c d' S' H' e R'.wd rx }
/-- C(..) -/
def eMake (n : Str) (j : Nat) (sp : Spi) (t : TAd) : TEd := fun ρ P Xp => t ρ (fun ds => ds.length + 1 = j ∧ sp ds (fun fs => P (.ins n fs)) Xp) Xp
theorem lift_make {j : Nat} {sp : Spi} (hm : X.mg n = some (.ref C)) {tb : TAd} (σ : L2.St) (H : Hp) (Q : VK) (h : liftE (gd X) W (eMake n j sp tb) σ H Q) : tMakeS C (spI (gd X) n j sp) (WE W) (liftA (gd X) W tb) σ H Q := by
  obtain ⟨S0, H0, S, ρ, P, Xp, R, h, kk, x⟩ := h
  refine ⟨S0, H0, S, ρ, _, Xp, R, h, fun ds hd vs S1 H1 w1 r1 a dx ha hdx hne => ?_, x⟩
  refine ⟨by rw [List.length_cons, r1.length]; exact hd.1, S1, H1, ds, _, Xp, a, dx, vs, C, rfl, hm, rfl, ha, hdx, hne, w1.sh, r1, hd.2, fun fs hP S' H' dx' gs w hs he rf => ⟨rfl, ?_⟩, x.grow w1⟩
  have ss : Same S' (upd S' a (.ins C dx' gs)) := fun q v e => by rw [upd_ne (ne_of_none e hs)]; exact e
  exact kk _ hP _ _ _ (w1.trans (w.frz ha he hs)) (.ins hm upd_same (rf.mono ss))
theorem de_make {sp : Spi} {j : Nat} (M : Mk X.K C f) (F : FnOk X.prog X.w X.K X.mg X.base (L2N.CX X.prog X.w) k f fd ps (spI (gd X) n j sp)) (hr : Room (k + 1) X.A) (hg : Gl X n) (hm : X.mg n = some (.ref C)) (hb : Binds X.K fd ps []) (tk : L2N.Takes X W) (ha : DA X W (e :: es) tr)
    (hdb : (n == ("__debug__" : Str)) = false := by decide) (he : starEach (e :: es) X.env = (false, eval e X.env) :: starEach es X.env := by rfl) (hpl : (backTo pos (starEach es X.env)).any (·.1) = false := by rfl) : DE X W (.Call (.Name n p) (e :: es) [] pos) (eMake n j sp tr) :=
  PE.weak (pe_makeS M F hr hg hm hb (fun σ => L2N.passAt tk σ) ha hdb he hpl) (lift_make hm)
/-- cls(..), cls in slot i -/
def eMakeL (i : Nat) (n : Str) (j : Nat) (sp : Spi) (t : TAd) : TEd := fun ρ P Xp => ρ[i]? = some (.val (.gl n)) ∧ eMake n j sp t ρ P Xp
theorem de_makeL {sp : Spi} {j i : Nat} (M : Mk X.K C f) (F : FnOk X.prog X.w X.K X.mg X.base (L2N.CX X.prog X.w) k f fd ps (spI (gd X) n j sp)) (hr : Room (k + 1) X.A) (hN : X.N[i]? = some x) (hv : Vis X.env.scope x) (hm : X.mg n = some (.ref C)) (hb : Binds X.K fd ps []) (tk : L2N.Takes X W) (ha : DA X W (e :: es) tr)
    (hdb : (x == ("__debug__" : Str)) = false := by decide) (hcd : (x == ("__classdict__" : Str)) = false := by decide) (he : starEach (e :: es) X.env = (false, eval e X.env) :: starEach es X.env := by rfl) (hpl : (backTo pos (starEach es X.env)).any (·.1) = false := by rfl) : DE X W (.Call (.Name x p) (e :: es) [] pos) (eMakeL i n j sp tr) :=
  PE.weak (pe_makeL M F hr hN hv hb (fun σ => L2N.passAt tk σ) ha hdb hcd he hpl) fun σ H Q ⟨S0, H0, S, ρ, P, Xp, R, h, kk, xx⟩ => by
    refine ⟨?_, lift_make hm σ H Q ⟨S0, H0, S, ρ, P, Xp, R, h.2, kk, xx⟩⟩
    obtain ⟨v, hv, rv⟩ := R.val _ _ h.1
    cases rv with
    | gl hg =>
      have hg' : X.mg n = some _ := hg
      rw [hm] at hg'
      cases hg'
      exact hv
/-! ### properties -/
def eProp (n : Str) (sp : Spd) (te : TEd) : TEd := fun ρ P Xp => te ρ (fun d => insD d n fun _ => sp [d] P NoX) Xp
theorem passN : Passes (L2N.CX X.prog X.w) X.nox E0 := fun _ _ _ _ _ _ _ h => by
  obtain ⟨_, _, _, _, _, _, _, _, _, _, _, _, z⟩ := h
  exact z.elim
theorem de_prop {q : Addr} {sp : Spd} (he : DE X W e tE) (T : ClsAt X n C) (hp : PropOf X.K C m q f) (F : FnOk X.prog X.w X.K X.mg X.base (L2N.CX X.prog X.w) k f fd ps (spL (gd X) 1 sp)) (hr : Room (k + 1) X.A) (hb : Binds X.K fd ps [])
    (hab : attributeBase e m X.env (eval e X.env) = eval e X.env := by rfl) : DE X W (.Attribute e m pos) (eProp n sp tE) :=
  PE.weak (pe_prop (E := E0) (dvs := []) (ds := []) he T.c hp F hr hb .nil passN hab) fun σ H Q ⟨S0, H0, S, ρ, P, Xp, R, h, kk, x⟩ => ⟨S0, H0, S, ρ, _, Xp, R, h, fun d hd v S1 H1 w1 r1 => by
    cases d <;> first | exact hd.elim | skip
    obtain ⟨rfl, hd⟩ := hd
    obtain ⟨a, dx, gs, rfl, ea, rf⟩ := r1.ins_at T.g
    exact ⟨a, dx, gs, rfl, w1.sh _ _ ea, rfl, S1, _, P, NoX, w1.sh, .one r1, hd, kk.grow w1, fun _ _ h => h.elim⟩, x⟩
/-! ### classmethods -/
def eCm (n : Str) (j : Nat) (sp : Spd) (t : TAd) : TEd := fun ρ P Xp => t ρ (fun ds => ds.length + 1 = j ∧ sp (.gl n :: ds) P NoX) Xp
theorem fnR_of {P : Program} {w : World} {K : PySem.W.Frag} {mg : Str → Option Value} {base : Heap} {CX : CXT} {sp : Sp} (F : FnOk P w K mg base CX k f fd ps sp) (hb : Binds K fd ps []) : FnR P w K mg base CX k f sp :=
  fun A outer s H us vs Q E hr e0 r h => by
    have hl : us.length = ps.length := by rw [← r.length]; exact F.len _ _ _ _ h
    have b := hb s us (e0.mod.kin.keeps fun b o e => (e0.bs b o e).1) (by rw [List.append_nil]; exact hl)
    rw [List.append_nil] at b
    exact F.run A outer s H ⟨us, []⟩ us vs Q E hr e0 b r h
theorem de_cmeth {pl : Sem Bool} {mc : Value} {q : Addr} {sp : Spd} {j : Nat} (ho : PE X o (tC (.ref C))) (hn : X.mg n = some (.ref C)) (r : ClX.CRead X.K C mc) (c : ClX.CMet X.K C mc m q f) (F : FnOk X.prog X.w X.K X.mg X.base (L2N.CX X.prog X.w) k f fd ps (spL (gd X) j sp)) (hr : Room k X.A) (hb : Binds X.K fd ps []) (ha : DA X W (e :: es) tr)
    (hst : starEach (e :: es) X.env = (false, eval e X.env) :: starEach es X.env := by rfl) (hpl : (backTo pos (starEach es X.env)).any (·.1) = false := by rfl)
    (ht : eval (.Call (.Attribute o m apos) (e :: es) [] pos) X.env = (do
      let ov ← eval o X.env
      standAt apos.atName
      let (f, first) ← holding [ov] (getMethod ov m pl)
      callWith pos f first (backTo pos (starEach (e :: es) X.env)) (backToKw pos (keywordEach [] X.env))) := by rfl) : DE X W (.Call (.Attribute o m apos) (e :: es) [] pos) (eCm n j sp tr) :=
  PE.weak (ClX.pe_cmeth (E := E0) ho r c (fnR_of F hb) hr passLN ha hst hpl ht) fun σ H Q ⟨S0, H0, S, ρ, P, Xp, R, h, kk, x⟩ =>
    ⟨rfl, S0, H0, S, ρ, _, Xp, R, h, fun ds hd vs S1 H1 w1 r1 => ⟨by rw [List.length_cons, r1.length]; exact hd.1, S1, _, P, NoX, w1.sh, .cons (.gl hn) r1, hd.2, kk.grow w1, fun _ _ h => h.elim⟩, x⟩
/-! ### operators of one's own: both operands of the class -/
theorem callback_own {pins : List (Addr × Obj)} {σ : L2.St} {s : Shared} {Q : VK} {A : Around} {E : Value → Shared → Prop} {g : Value} {us : List Value} (hq : ∀ v H', Q v H' → v ≠ .ref 0 ∨ True) (h : wpAny (model X.prog X.w) A (call g us) (EP X pins σ Q) E s) : wpAny (model X.prog X.w) A (call g us) (EP X pins σ Q) E s := h
end
end Z

/-! Z: dicts of our own: keys ints and texts, or tuples of these. -/
namespace Z
open PySem PySem.Spec PyProof.Rows L2
def kD : Key → D | .inl i => .int i | .inr x => .str x
def getO (o : Ow) (k : D) (P : Option D → Prop) : Prop := match o with
  | .dk l => ∃ key, k = kD key ∧ P (lkD l key)
  | .dt l => ∃ ks : List Key, k = .tup (ks.map kD) ∧ P (lkD l ks)
  | _ => False
def putO (o : Ow) (k d : D) (P : Ow → Prop) : Prop := match o with
  | .dk l => ∃ key, k = kD key ∧ l.length < sizeLine ∧ P (.dk (putKD l key d))
  | .dt l => ∃ ks : List Key, k = .tup (ks.map kD) ∧ l.length < sizeLine ∧ P (.dt (putKD l ks d))
  | _ => False
def lenO (o : Ow) (P : Int → Prop) : Prop := match o with
  | .lst l => P l.length
  | .dk l => P l.length
  | .dt l => P l.length
  | _ => False
section
variable {X : Cx} {W : WX} {mg : Mg} {pos p pos' : Pos} {te ty : TEd} {S H : Hp}
theorem kD_inv {k : Key} {v : V} (h : Rep mg S v (kD k)) : v = kV k := by
  cases k with
  | inl i => exact h.int_inv
  | inr x => exact h.str_inv
theorem kDs_inv : ∀ {ks : List Key} {vs : List V}, Reps mg S vs (ks.map kD) → vs = ks.map kV
  | [], _, h => by cases h; rfl
  | k :: r, _, h => by
    cases h with
    | cons h t => rw [kD_inv h, kDs_inv t]; rfl
theorem get_at {a : Addr} {o : Ow} {k : D} {v : V} {P : Option D → Prop} (sh : Same S H) (ow : OwAt mg S H a o) (r : Rep mg S v k) (h : getO o k P) :
    ∃ d, P d ∧ ((d = none ∧ DGet H a v none) ∨ ∃ e u, d = some e ∧ DGet H a v (some u) ∧ Rep mg S u e) := by
  cases o with
  | dk l =>
    obtain ⟨key, rfl, h⟩ := h
    obtain ⟨gs, e, rf⟩ := ow
    rw [kD_inv r]
    refine ⟨_, h, ?_⟩
    cases q : lkD l key with
    | none =>
      have z : valV gs key = none := by
        have := rf.val_none (k := key)
        rw [q] at this
        cases c : lkD gs key with
        | none => exact c
        | some x => rw [c] at this; cases this
      exact .inl ⟨rfl, z ▸ DGet.k e⟩
    | some d =>
      obtain ⟨u, hu, ru⟩ := rf.val q
      have z : valV gs key = some u := hu
      exact .inr ⟨d, u, rfl, z ▸ DGet.k e, ru⟩
  | dt l =>
    obtain ⟨ks, rfl, h⟩ := h
    obtain ⟨gs, e, rf⟩ := ow
    cases r with
    | tup eb rk =>
      have eb' := sh _ _ eb
      rw [kDs_inv rk] at eb'
      refine ⟨_, h, ?_⟩
      cases q : lkD l ks with
      | none =>
        have z : valV gs ks = none := by
          have := rf.val_none (k := ks)
          rw [q] at this
          cases c : lkD gs ks with
          | none => exact c
          | some x => rw [c] at this; cases this
        exact .inl ⟨rfl, z ▸ DGet.t e eb'⟩
      | some d =>
        obtain ⟨u, hu, ru⟩ := rf.val q
        have z : valV gs ks = some u := hu
        exact .inr ⟨d, u, rfl, z ▸ DGet.t e eb', ru⟩
  | _ => exact h.elim
/-- d[e], d our own in slot i -/
def eGetO (i : Nat) (te : TEd) : TEd := fun ρ P Xp => ∃ o, ρ[i]? = some (.own o) ∧ te ρ (fun k => getO o k fun r => ∃ d, r = some d ∧ P d) Xp
theorem de_getO {a b : Expr} {i : Nat} (hu : X.A.units + 64 < cLine) (ha : PE X a (tVar i)) (hb : DE X W b te) (hs : NoSl b) : DE X W (.Subscript a b pos) (eGetO i te) := PE.weak (pe_dget (by omega) ha hb hs) fun σ H Q ⟨S0, H0, S, ρ, P, Xp, R, ⟨o, ho, h⟩, k, x⟩ => by
  obtain ⟨q, h1, h2, h3, h4⟩ := R.at ho
  refine ⟨_, h1, S0, H0, S, ρ, _, Xp, R, h, fun z hz v S1 H1 w1 r1 => ?_, x⟩
  obtain ⟨d, ⟨e, rfl, hP⟩, hd⟩ := get_at w1.sh (h4.mono w1.ss fun _ _ => w1.hh _) r1 hz
  rcases hd with ⟨z, _⟩ | ⟨e', u, ez, g, ru⟩
  · cases z
  · cases ez
    exact ⟨q, u, rfl, g, k _ hP _ S1 H1 w1 ru⟩
/-- e in d, e not in d -/
def eInO (neg : Bool) (i : Nat) (te : TEd) : TEd := fun ρ P Xp => ∃ o, ρ[i]? = some (.own o) ∧ te ρ (fun k => getO o k fun r => P (.bl (if neg then !r.isSome else r.isSome))) Xp
theorem lift_inO {i : Nat} (σ : L2.St) (H : Hp) (Q : VK) (h : liftE mg W (eInO false i te) σ H Q) : tDIn (liftE mg W te) (tVar i) σ H Q := by
  obtain ⟨S0, H0, S, ρ, P, Xp, R, ⟨o, ho, h⟩, k, x⟩ := h
  obtain ⟨q, h1, h2, h3, h4⟩ := R.at ho
  refine ⟨S0, H0, S, ρ, _, Xp, R, h, fun z hz v S1 H1 w1 r1 => ⟨_, h1, ?_⟩, x⟩
  obtain ⟨d, hP, hd⟩ := get_at w1.sh (h4.mono w1.ss fun _ _ => w1.hh _) r1 hz
  rcases hd with ⟨rfl, g⟩ | ⟨e', u, rfl, g, ru⟩
  · exact ⟨q, none, rfl, g, k _ hP _ S1 H1 w1 (.bl _)⟩
  · exact ⟨q, some u, rfl, g, k _ hP _ S1 H1 w1 (.bl _)⟩
theorem lift_notInO {i : Nat} (σ : L2.St) (H : Hp) (Q : VK) (h : liftE mg W (eInO true i te) σ H Q) : tDNotIn (liftE mg W te) (tVar i) σ H Q := by
  obtain ⟨S0, H0, S, ρ, P, Xp, R, ⟨o, ho, h⟩, k, x⟩ := h
  obtain ⟨q, h1, h2, h3, h4⟩ := R.at ho
  refine ⟨S0, H0, S, ρ, _, Xp, R, h, fun z hz v S1 H1 w1 r1 => ⟨_, h1, ?_⟩, x⟩
  obtain ⟨d, hP, hd⟩ := get_at w1.sh (h4.mono w1.ss fun _ _ => w1.hh _) r1 hz
  rcases hd with ⟨rfl, g⟩ | ⟨e', u, rfl, g, ru⟩
  · exact ⟨q, none, rfl, g, k _ hP _ S1 H1 w1 (.bl _)⟩
  · exact ⟨q, some u, rfl, g, k _ hP _ S1 H1 w1 (.bl _)⟩
theorem de_inO {a b : Expr} {i : Nat} (hu : X.A.units + 64 < cLine) (hb : DE X W b te) (ha : PE X a (tVar i)) (h1 : behindInMarks .In a = false := by with_unfolding_all rfl) : DE X W (.Compare b [.In] [a] pos) (eInO false i te) := PE.weak (pe_cmp (pc_din (by omega) hb ha) h1) lift_inO
theorem de_notInO {a b : Expr} {i : Nat} (hu : X.A.units + 64 < cLine) (hb : DE X W b te) (ha : PE X a (tVar i)) (h1 : behindInMarks .NotIn a = false := by with_unfolding_all rfl) : DE X W (.Compare b [.NotIn] [a] pos) (eInO true i te) := PE.weak (pe_cmp (pc_dnotin (by omega) hb ha) h1) lift_notInO
theorem dt_inO {a b : Expr} {i : Nat} (hu : X.A.units + 64 < cLine) (hb : DE X W b te) (ha : PE X a (tVar i)) (h1 : behindInMarks .In a = false := by with_unfolding_all rfl) : DT X W (.Compare b [.In] [a] pos) (tBl (eInO false i te)) := PT.weak (pt_cmp (pc_din (by omega) hb ha) h1) fun σ H Q h => lift_inO σ H _ (lift_tBl σ H Q h)
theorem dt_notInO {a b : Expr} {i : Nat} (hu : X.A.units + 64 < cLine) (hb : DE X W b te) (ha : PE X a (tVar i)) (h1 : behindInMarks .NotIn a = false := by with_unfolding_all rfl) : DT X W (.Compare b [.NotIn] [a] pos) (tBl (eInO true i te)) := PT.weak (pt_cmp (pc_dnotin (by omega) hb ha) h1) fun σ H Q h => lift_notInO σ H _ (lift_tBl σ H Q h)
/-- len(d) -/
def eLenD (i : Nat) : TEd := fun ρ P _ => ∃ o, ρ[i]? = some (.own o) ∧ lenO o fun n => P (.int n)
theorem call_lenX : CallR X (.builtin "len") (fun xs H Q => ∃ a, xs = [V.ref a] ∧ ((∃ kvs, H a = some (.dK kvs) ∧ Q (.int kvs.length) H) ∨ (∃ kvs, H a = some (.dT kvs) ∧ Q (.int kvs.length) H) ∨ ∃ vs, H a = some (.lst vs) ∧ Q (.int vs.length) H)) := by
  intro pins s σ H xs us Q I r h
  obtain ⟨a, rfl, h⟩ := h
  rcases h with ⟨kvs, e, q⟩ | ⟨kvs, e, q⟩ | ⟨vs, e, q⟩
  · exact call_lenD pins s σ H _ us Q I r ⟨a, kvs, rfl, e, q⟩
  · obtain ⟨u, rfl, ru⟩ := vals1 r
    cases ru
    obtain ⟨z, hd, xs, rel, dd⟩ := dt_of I.hok e
    have hl : kvs.length = xs.length := Paired.length rel
    refine call_len_dictH hd dd (by rw [← hl]; rw [sizeLine_eq] at z; omega) ?_
    rw [← hl]
    exact ⟨.int kvs.length, H, I.tok _, ⟨_, rfl⟩, q⟩
  · exact call_len_seq pins s σ H _ us Q I r ⟨a, vs, rfl, .inl (.inl (.inl e)), q⟩
theorem de_lenD {a : Expr} {i : Nat} (ha : PE X a (tVar i)) (hg : Gl X "len") (hm : X.mg "len" = none)
    (he : starEach [a] X.env = (false, eval a X.env) :: starEach [] X.env := by rfl) (hpl : (backTo pos (starEach [] X.env)).any (·.1) = false := by rfl) : DE X W (.Call (.Name "len" p) [a] [] pos) (eLenD i) :=
  PE.weak (pe_callB call_lenX hg hm PySem.boot_len (pa_cons ha pa_nil he) (by decide) (by decide) he hpl) fun σ H Q ⟨S0, H0, S, ρ, P, Xp, R, ⟨o, ho, h⟩, k, x⟩ => by
    obtain ⟨q, h1, h2, h3, h4⟩ := R.at ho
    cases o with
    | lst l =>
      obtain ⟨vs, h4, h5⟩ := h4
      exact ⟨_, h1, q, rfl, .inr (.inr ⟨vs, h4, by rw [h5.length]; exact k.now R h (.int _)⟩)⟩
    | dk l =>
      obtain ⟨gs, h4, h5⟩ := h4
      exact ⟨_, h1, q, rfl, .inl ⟨gs, h4, by rw [h5.length]; exact k.now R h (.int _)⟩⟩
    | dt l =>
      obtain ⟨gs, h4, h5⟩ := h4
      exact ⟨_, h1, q, rfl, .inr (.inl ⟨gs, h4, by rw [h5.length]; exact k.now R h (.int _)⟩)⟩
    | _ => exact h.elim
/-- d[a] = e -/
def sPutO (i : Nat) (ty te : TEd) : TSd := fun Φ ρ => ∃ o, ρ[i]? = some (.own o) ∧ te ρ (fun d => ty ρ (fun k => putO o k d fun o' => Φ.nx (ρ.set i (.own o'))) (fun C fs => Φ.xc C fs ρ)) (fun C fs => Φ.xc C fs ρ)
theorem put_at {a : Addr} {o : Ow} {k d : D} {v u : V} {P : Ow → Prop} (sh : Same S H) (ow : OwAt mg S H a o) (r : Rep mg S v k) (ru : Rep mg S u d) (h : putO o k d P) :
    ∃ o' hb, P o' ∧ DPut H a v u (upd H a hb) ∧ OwAt mg S (upd H a hb) a o' ∧ fpx a o = [a] ∧ fpx a o' = [a] := by
  cases o with
  | dk l =>
    obtain ⟨key, rfl, hl, h⟩ := h
    obtain ⟨gs, e, rf⟩ := ow
    rw [kD_inv r]
    exact ⟨_, _, h, DPut.k e (by rw [rf.length]; exact hl), ⟨_, upd_same, rf.putK ru⟩, rfl, rfl⟩
  | dt l =>
    obtain ⟨ks, rfl, hl, h⟩ := h
    obtain ⟨gs, e, rf⟩ := ow
    cases r with
    | tup eb rk =>
      have eb' := sh _ _ eb
      rw [kDs_inv rk] at eb'
      exact ⟨_, _, h, DPut.t e eb' (by rw [rf.length]; exact hl), ⟨_, upd_same, rf.putK ru⟩, rfl, rfl⟩
  | _ => exact h.elim
theorem ds_putO {a b value : Expr} {i : Nat} (hu : X.A.units + 64 < cLine) (ha : PE X a (tVar i)) (hb : DE X W b ty) (hv : DE X W value te) (hs : swapsWith value (some (.Subscript a b pos')) pos.line X.env = pure false := by rfl) :
    DS X W (.Assign [.Subscript a b pos'] value pos) (sPutO i ty te) := PS.weak (ps_dput (by omega) ha hb hv hs) fun D σ H ⟨S0, H0, S, ρ, Φ, R, ⟨o, ho, h⟩, k⟩ =>
  ⟨S0, H0, S, ρ, _, _, R, h, fun d hd v S1 H1 w1 r1 => by
    have R1 := R.grow w1
    obtain ⟨q, h1, h2, h3, h4⟩ := R1.at ho
    refine ⟨_, h1, S0, H0, S1, ρ, _, _, R1, hd, fun y hy u S2 H2 w2 r2 => ?_, (k.mono w1.ss).x R1⟩
    have R2 := R1.grow w2
    obtain ⟨o2, hb2, hP, g, ow, f1, f2⟩ := put_at w2.sh (h4.mono w2.ss fun _ _ => w2.hh _) r2 (r1.mono w2.ss) hy
    exact ⟨q, _, rfl, g, k.nx _ hP _ S2 _ (R2.mut ho h1 ow f1 f2) (w1.ss.trans w2.ss)⟩, k.x R⟩
/-- d = {} -/
def sDic (i : Nat) : TSd := fun Φ ρ => Φ.nx (ρ.set i (.own (.dk []))) ∨ Φ.nx (ρ.set i (.own (.dt [])))
theorem ds_dic {i : Nat} {x : Str} {dpos : Pos} (hN : X.N.Nodup) (hi : X.N[i]? = some x) (hx : Loc X.env.scope x) (hs : swapsWith (.Dict [] [] dpos) (some (.Name x pos')) pos.line X.env = pure false := by rfl) (hf : X.fn x = true ∨ X.env.scope.names.lookup x = some .local := by first | exact .inl rfl | exact .inr rfl | assumption) :
    DS X W (.Assign [.Name x pos'] (.Dict [] [] dpos) pos) (sDic i) := ⟨fun pins s σ H D I h => by
  obtain ⟨S0, H0, S, ρ, Φ, R, h, k⟩ := h
  rcases h with h | h
  · refine (ps_set hN hi hx pe_dnewK hs hf).run pins s σ H D I fun p hp => ?_
    have hs' : S p = none := R.wd.sfree hp
    exact k.nx _ h _ S _ (R.setOwn ((Wd.refl R.wd.sh).mut _ hp hs') hp hs' ⟨[], upd_same, .nil⟩) (Same.refl _)
  · refine (ps_set hN hi hx pe_dnewT hs hf).run pins s σ H D I fun p hp => ?_
    have hs' : S p = none := R.wd.sfree hp
    exact k.nx _ h _ S _ (R.setOwn ((Wd.refl R.wd.sh).mut _ hp hs') hp hs' ⟨[], upd_same, .nil⟩) (Same.refl _)⟩
end
end Z

/-! Z: isinstance by a table of classes. -/
namespace Z
open PySem PySem.Spec PyProof.Rows L2
/-- a class: a built-in type; an own class by its name, as that of an instance or as a class; an own class of exceptions, as that of a caught one -/
inductive TN where | b (n : String) | c (n : Str) | e (n : Str)
  deriving DecidableEq
def TN.at (mg : Mg) : TN → Value → Prop
  | .b n, v => v = .type n
  | .c n, v => ∃ a, mg.m n = some (.ref a) ∧ v = .ref a
  | .e n, v => ∃ a, mg.m n = some (.ref a) ∧ v = .ref a
abbrev Tab := TN → TN → Option Bool
/-- what isinstance asks of an own class -/
structure ClsTy (K : PySem.W.Frag) (C : Addr) : Prop where
  cl : L2.Cls K C
  ha : PySem.W.findIn K (.ref C) "__class__" = some (some (.builtin "object.__class__"))
  hn : PySem.W.specialIn K (.builtin "object.__class__") "__get__" = some (some (.builtin "getset_descriptor.__get__"))
  ht : PySem.W.takesIn K (.builtin "object.__class__") = some true
  hm : PySem.W.mroIn K C (.type "object") = some true
structure TabOk (mg : Mg) (tab : Tab) : Prop where
  one : ∀ t u b, tab t u = some b → ∀ tv uv, t.at mg tv → u.at mg uv → PySem.W.kitOne mg.K tv uv = some b
  ins : ∀ n u b, tab (.c n) u = some b → ∀ c, mg.m n = some (.ref c) → ClsTy mg.K c
  exc : ∀ n u b, tab (.e n) u = some b → ∀ c, mg.m n = some (.ref c) → ExcC mg.K c
def tyG : D → Option TN
  | .non => some (.b "NoneType")
  | .bl _ => some (.b "bool")
  | .int _ => some (.b "int")
  | .str _ => some (.b "str")
  | .lst _ => some (.b "list")
  | .scr _ => some (.b "list")
  | .tup _ => some (.b "tuple")
  | .dk _ => some (.b "dict")
  | .dt _ => some (.b "dict")
  | .ins n _ => some (.c n)
  | .err n _ => some (.e n)
  | _ => none
def clsG : D → Option TN
  | .ty n => some (.b n)
  | .gl n => some (.c n)
  | _ => none
def anyG (tab : Tab) (t : TN) : List D → Option Bool
  | [] => none
  | [c] => (clsG c).bind (tab t)
  | c :: r => (clsG c).bind fun u => (tab t u).bind fun b => (anyG tab t r).map fun b' => b || b'
/-- the answer of isinstance(x, c) -/
def isG (tab : Tab) (t : TN) (c : D) : Option Bool := match c with
  | .tup cs => anyG tab t cs
  | c => (clsG c).bind (tab t)
def cIsiG (tab : Tab) : Cd := fun ds P => match ds with | [x, c] => ∃ b, (tyG x).bind (fun t => isG tab t c) = some b ∧ P (.bl b) | _ => False
section
variable {X : Cx} {mg : Mg} {tab : Tab} {S H : Hp}
theorem Rep.cls {v : V} {d : D} {u : TN} (r : Rep mg S v d) (h : clsG d = some u) : ∃ uv, ClsV v uv ∧ u.at mg uv := by
  cases r <;> first | cases h | skip
  · exact ⟨_, .ty _, rfl⟩
  · exact ⟨_, .own _, _, ‹_›, rfl⟩
theorem Rep.tyX {v : V} {d : D} {t : TN} (T : TabOk mg tab) (sh : Same S H) (r : Rep mg S v d) (h : tyG d = some t) (hu : ∃ u b, tab t u = some b) (hne : ∀ n, t ≠ .e n) : ∃ tv, TyX mg.K H v tv ∧ t.at mg tv := by
  obtain ⟨u, b, hu⟩ := hu
  cases r with
  | non => cases h; exact ⟨_, .base .non, rfl⟩
  | bl b => cases h; exact ⟨_, .base (.bl b), rfl⟩
  | int b => cases h; exact ⟨_, .base (.int b), rfl⟩
  | str b => cases h; exact ⟨_, .base (.str b), rfl⟩
  | tup e _ => cases h; exact ⟨_, .base (.tup (sh _ _ e)), rfl⟩
  | lst e _ =>
    cases h
    rcases e with e | ⟨o, e⟩
    · exact ⟨_, .base (.lst (sh _ _ e)), rfl⟩
    · exact ⟨_, .base (.frz (sh _ _ e)), rfl⟩
  | scr e _ =>
    cases h
    rcases e with (e | ⟨o, e⟩) | ⟨o, ds, n, e, q, _⟩
    · exact ⟨_, .base (.lst (sh _ _ e)), rfl⟩
    · exact ⟨_, .base (.frz (sh _ _ e)), rfl⟩
    · exact ⟨_, .kList e q, rfl⟩
  | dk e _ =>
    cases h
    rcases e with e | ⟨o, e⟩
    · exact ⟨_, .base (.dK (sh _ _ e)), rfl⟩
    · exact ⟨_, .fDict (sh _ _ e), rfl⟩
  | dt e _ =>
    cases h
    exact ⟨_, .base (.dT (sh _ _ e)), rfl⟩
  | ins hC e _ =>
    cases h
    have c := T.ins _ _ _ hu _ hC
    exact ⟨_, .base (.ins (sh _ _ e) c.cl c.ha c.hn c.ht c.hm), _, hC, rfl⟩
  | err0 => cases h; exact absurd rfl (hne _)
  | err1 => cases h; exact absurd rfl (hne _)
  | _ => cases h
theorem Reps.anyG {t : TN} {tv : Value} (T : TabOk mg tab) (ht : t.at mg tv) : ∀ {cs : List D} {vs : List V} {b : Bool}, Reps mg S vs cs → Z.anyG tab t cs = some b → ∃ us, Paired ClsV vs us ∧ PySem.W.kitAny mg.K tv us = some b
  | _, _, _, .nil, h => nomatch h
  | c :: cs, _, b, .cons r rs, h => by
    cases cs with
    | nil =>
      obtain ⟨u, hu, h⟩ := Option.bind_eq_some_iff.mp (show (clsG c).bind (tab t) = some b from h)
      obtain ⟨uv, k, hu⟩ := r.cls hu
      cases rs
      exact ⟨[uv], .cons k .nil, kitAny_cons (T.one _ _ _ h _ _ ht hu) (fun z => by subst z; rfl) fun z => z⟩
    | cons c2 cs =>
    unfold Z.anyG at h
    obtain ⟨u, hu, h⟩ := Option.bind_eq_some_iff.mp h
    obtain ⟨b1, hb, h⟩ := Option.bind_eq_some_iff.mp h
    obtain ⟨b2, hb2, h⟩ := Option.map_eq_some_iff.mp h
    obtain ⟨uv, k, hu⟩ := r.cls hu
    obtain ⟨us, ku, ka⟩ := Reps.anyG T ht rs hb2
    refine ⟨uv :: us, .cons k ku, ?_⟩
    subst h
    refine kitAny_cons (T.one _ _ _ hb _ _ ht hu) (fun z => ?_) fun z => ?_
    · subst z; simpa using ka
    · subst z; rfl
theorem pins_of {X : Cx} {p : Addr × Obj} (h : p ∈ (gd X).pn) : p ∈ X.pn := by
  have h' : p ∈ (bif X.calm then [] else X.pn.take 1) := h
  cases c : X.calm with
  | true => rw [c] at h'; cases h'
  | false => rw [c] at h'; exact List.mem_of_mem_take h'
theorem kit_err {pins : List (Addr × Obj)} {σ : L2.St} {s : Shared} {a c : Addr} {oe : Obj} {n : Str} {od : Option Addr} (I : Inv X pins σ H s) (hp : (a, oe) ∈ (gd X).pn) (hc : oe.cls = .ref c) (hd : oe.dict = od) (hf : ∃ vs, oe.data = .fields vs) (hod : ∀ dd, od = some dd → ∃ gs, H dd = some (.xd gs)) (C : ExcC X.K c) :
    ∃ P : Heap → Prop, PySem.W.KitX X.K (.ref a) (.ref c) P ∧ P s.heap ∧ Value.ref a ≠ .builtin "__main__.__loader__#opaque" := by
  obtain ⟨hget, _⟩ := I.pin (a, oe) (List.mem_append.mpr (.inl (pins_of hp)))
  obtain ⟨vs, hv⟩ := hf
  have hcl : (PySem.W.clsIn X.K c).isSome = true := by
    obtain ⟨cd, h, _⟩ := PySem.W.any_some C.hd
    rw [h]; rfl
  cases od with
  | none =>
    have J : PySem.W.InstAt s.heap a oe c none := by
      obtain ⟨oc, od, oda, osl⟩ := oe
      dsimp only at hc hd hv
      subst hc hd hv
      exact ⟨hget, rfl, rfl, trivial⟩
    exact ⟨_, PySem.W.kitx_exc hcl C.hg C.hk C.hs C.ha C.hn C.ht C.hm, J, fun z => nomatch z⟩
  | some dd =>
    obtain ⟨gs, hx⟩ := hod dd rfl
    obtain ⟨mA, hns, hr⟩ := (show ObjOk X.prog X.w H s.heap dd (.xd gs) from I.hok dd _ hx)
    obtain ⟨od, ho, hl⟩ := lookIn_ns hns
    have J : PySem.W.InstAt s.heap a oe c (some od) := by
      obtain ⟨oc, od', oda, osl⟩ := oe
      dsimp only at hc hd hv
      subst hc hd hv
      exact ⟨hget, rfl, rfl, ho⟩
    exact ⟨_, PySem.W.kitx_exc hcl C.hg C.hk C.hs C.ha C.hn C.ht C.hm, J, fun z => nomatch z⟩
theorem Rep.kit {pins : List (Addr × Obj)} {σ : L2.St} {s : Shared} {v : V} {u : Value} {d : D} {t : TN} (T : TabOk (gd X) tab) (I : Inv X pins σ H s) (sh : Same S H) (rv : RelV v u) (r : Rep (gd X) S v d) (h : tyG d = some t) (hu : ∃ u b, tab t u = some b) :
    ∃ tv P, PySem.W.KitX X.K u tv P ∧ P s.heap ∧ u ≠ .builtin "__main__.__loader__#opaque" ∧ t.at (gd X) tv := by
  have base : (∀ n, t ≠ .e n) → ∃ tv P, PySem.W.KitX X.K u tv P ∧ P s.heap ∧ u ≠ .builtin "__main__.__loader__#opaque" ∧ t.at (gd X) tv := fun hne => by
    obtain ⟨tv, ty, ta⟩ := r.tyX T sh h hu hne
    obtain ⟨P, k, p, hx⟩ := kit_of I rv ty
    exact ⟨tv, P, k, p, hx, ta⟩
  obtain ⟨u', b, hu⟩ := hu
  cases r with
  | err0 hp hm hc hd hf =>
    cases h
    cases rv
    obtain ⟨P, k, p, hx⟩ := kit_err (n := "") I hp hc hd hf (fun dd z => nomatch z) (T.exc _ _ _ hu _ hm)
    exact ⟨_, P, k, p, hx, _, hm, rfl⟩
  | err1 hp hm hc hd hf hx hr =>
    cases h
    cases rv
    obtain ⟨P, k, p, hx⟩ := kit_err (n := "") I hp hc hd hf (fun dd z => by cases z; exact ⟨_, sh _ _ hx⟩) (T.exc _ _ _ hu _ hm)
    exact ⟨_, P, k, p, hx, _, hm, rfl⟩
  | _ => exact base fun n z => by subst z; cases h
theorem cr_isiG (T : TabOk (gd X) tab) : CallR X (.builtin "isinstance") (cL (gd X) (cIsiG tab)) := by
  intro pins s σ H xs us Q I r ⟨S, ds, P, sh, r1, ho, k⟩
  match ds, ho with
  | [x, c], ho =>
    obtain ⟨b, ho, hP⟩ := ho
    obtain ⟨t, ht, ho⟩ := Option.bind_eq_some_iff.mp ho
    obtain ⟨v, u, rfl, q, q2⟩ := r1.two_inv
    obtain ⟨w1, w2, rfl, rv, ru⟩ := vals2 r
    have kk := k _ hP _ S H (.refl sh) (.bl _)
    have one : ∀ u', clsG c = some u' → tab t u' = some b → wpAny (model X.prog X.w) X.A (call (.builtin "isinstance") [w1, w2]) (EP X pins σ Q) X.xe s := fun u' h1 h2 => by
      obtain ⟨tv, P, kx, p, hx, ta⟩ := q.kit T I sh rv ht ⟨_, _, h2⟩
      obtain ⟨uv, k2, hu⟩ := q2.cls h1
      have e2 := k2.eq ru
      subst e2
      exact PySem.W.kia_one kx I.kIn p (T.one _ _ _ h2 _ _ ta hu) hx fun tk => ⟨.bl b, H, I.tok tk, rfl, kk⟩
    unfold isG at ho
    cases q2 with
    | @tup a vs ds e rs =>
      cases ds with
      | nil => cases ho
      | cons c cs =>
        have hb : ∃ u b, tab t u = some b := by
          cases cs with
          | nil =>
            obtain ⟨u', _, h⟩ := Option.bind_eq_some_iff.mp (show (clsG c).bind (tab t) = some b from ho)
            exact ⟨_, _, h⟩
          | cons c2 cs =>
            have ho' := ho
            unfold anyG at ho'
            obtain ⟨u', h1, h⟩ := Option.bind_eq_some_iff.mp ho'
            obtain ⟨b1, hb, h⟩ := Option.bind_eq_some_iff.mp h
            exact ⟨_, _, hb⟩
        obtain ⟨tv, P, kx, p, hx, ta⟩ := q.kit T I sh rv ht hb
        obtain ⟨us', ku, ka⟩ := Reps.anyG T ta rs ho
        cases (show w2 = Value.ref a from ru)
        obtain ⟨_, its, rv', o, h1, h2, n, h3⟩ := (show ObjOk X.prog X.w H s.heap a (.tup vs) from I.hok a _ (sh _ _ e))
        have e3 := ClsV.all ku rv'
        subst e3
        obtain ⟨oc, od, dt, sl⟩ := o
        simp only at h2 h3
        subst h2 h3
        exact PySem.W.kia_tup kx I.kIn p h1 ka hx fun tk => ⟨.bl b, H, I.tok tk, rfl, kk⟩
    | ty n =>
      obtain ⟨u', h1, h2⟩ := Option.bind_eq_some_iff.mp ho
      exact one u' h1 h2
    | gl h =>
      obtain ⟨u', h1, h2⟩ := Option.bind_eq_some_iff.mp ho
      exact one u' h1 h2
    | _ => cases ho
theorem isiG_eq {x c : D} {t : TN} {r : Bool} {P : D → Prop} (h : tyG x = some t) (q : isG tab t c = some r) : cIsiG tab [x, c] P = P (.bl r) :=
  propext ⟨fun ⟨b, h2, p⟩ => by rw [h, Option.bind_some, q] at h2; cases h2; exact p, fun p => ⟨r, by rw [h, Option.bind_some, q], p⟩⟩
end
end Z

/-! Z: operators and == of one's own. -/
namespace Z
open PySem PySem.Spec PyProof.Rows L2
section
variable {X : Cx} {W : WX} {mg : Mg} {pos : Pos} {a b : Expr} {ta tb : TEd}
/-- the def that an operator of an own class calls -/
structure OpRow (X : Cx) (m : Str) (n : Str) (sp : Spd) : Prop where
  ex : ∃ (c f : Addr) (fd : FuncData) (ps : List Str) (k : Nat), X.mg n = some (.ref c) ∧ PySem.W.selfFirst X.K c = true ∧ PySem.W.findIn X.K (.ref c) m = some (some (.ref f)) ∧ PySem.W.isFn X.K (.ref f) = true ∧
    FnOk X.prog X.w X.K X.mg X.base (L2N.CX X.prog X.w) k f fd ps (spL (gd X) 2 sp) ∧ Room k X.A ∧ Binds X.K fd ps []
theorem cmpBack {pins : List (Addr × Obj)} {σ : L2.St} {Q : VK} {v : Value} {s : Shared} (h : EP X pins σ Q v s) : PySem.W.CmpBack (EP X pins σ Q) v s := by
  obtain ⟨x, H, I, r, q⟩ := h
  cases v <;> first | exact ⟨x, H, I, r, q⟩ | skip
  cases x <;> first | (exact nomatch r) | (obtain ⟨_, r⟩ := r; exact nomatch r)
/-- a op b: of an own class both, or as fb says -/
def binD (T : Str → Option Spd) (fb : O2) (x y : D) (P : D → Prop) (Xp : Xd) : Prop := match x with
  | .ins C fs => ∃ sp gs, T C = some sp ∧ y = .ins C gs ∧ sp [.ins C fs, y] P Xp
  | x => fb x y P
theorem binD_ins {T : Str → Option Spd} {fb : O2} {C : Str} {fs : List (Str × D)} {y : D} {P : D → Prop} {Xp : Xd} : binD T fb (.ins C fs) y P Xp = ∃ sp gs, T C = some sp ∧ y = .ins C gs ∧ sp [.ins C fs, y] P Xp := rfl
def eBinG (T : Str → Option Spd) (fb : O2) (a b : TEd) : TEd := fun ρ P Xp => a ρ (fun x => b ρ (fun y => binD T fb x y P Xp) Xp) Xp
theorem de_binG {op : Operator} {T : Str → Option Spd} {fb : O2} (rows : ∀ n sp, T n = some sp → OpRow X (PySem.dunder op.info.2) n sp) (tk : L2N.Takes X W) (ho : OpR X (binaryOp op) (rL (gd X) fb)) (ha : DE X W a ta) (hb : DE X W b tb) :
    DE X W (.BinOp a op b pos) (eBinG T fb ta tb) := by
  refine ⟨fun pins s σ H Q I h => ?_⟩
  obtain ⟨S0, H0, S, ρ, P, Xp, R, h, k, x⟩ := h
  refine wpAny_BinOp (bin (R := fun x y H2 => ∃ S1 dx dy, Same S1 H2 ∧ Wd S H S1 H2 ∧ Rep (gd X) S1 x dx ∧ Rep (gd X) S1 y dy ∧ binD T fb dx dy P Xp) ha hb I ⟨S0, H0, S, ρ, _, Xp, R, h, fun d hd v S1 H1 w1 r1 => ⟨S0, H0, S1, ρ, _, Xp, R.grow w1, hd, fun d2 hd2 v2 S2 H2 w2 r2 => ⟨S2, d, d2, w2.sh, w1.trans w2, r1.mono w2.ss, r2, hd2⟩, x.grow w1⟩, x⟩ fun v u s2 x' y' H2 I2 rx ry q => ?_)
  obtain ⟨S1, dx, dy, sh, w, r1, r2, q⟩ := q
  have fall : fb dx dy P → wpAny (model X.prog X.w) X.A (binaryOp op v u) (EP X pins σ Q) X.xe s2 := fun q => ho pins s2 σ H2 x' y' v u Q I2 rx ry ⟨S1, dx, dy, P, sh, r1, r2, q, k.grow w⟩
  cases dx with
  | ins C fs =>
    obtain ⟨sp, gs, hT, rfl, q⟩ := q
    obtain ⟨c, f, fd, ps, kk, hc, hsf, hfi, hfn, F, hr, hb'⟩ := (rows _ _ hT).ex
    obtain ⟨p1, dx1, gs1, rfl, e1, rf1⟩ := r1.ins_at (mg := gd X) hc
    obtain ⟨p2, dx2, gs2, rfl, e2, rf2⟩ := r2.ins_at (mg := gd X) hc
    cases rx
    cases ry
    obtain ⟨mA, O, _⟩ := ins_get I2.hok (sh _ _ e1)
    obtain ⟨od, J, _⟩ := O.look
    obtain ⟨mA2, O2, _⟩ := ins_get I2.hok (sh _ _ e2)
    obtain ⟨od2, J2, _⟩ := O2.look
    obtain ⟨m, Fm⟩ := I2.fr
    refine PySem.W.binop_K Fm I2.ok.mod.kin J J2.type hsf hfi hfn (wpAny_mono (run_fnS (us := [.ref p1, .ref p2]) (vs := [.ref p1, .ref p2]) (E := WE W) F hr hb' (L2N.passAt tk σ) I2 (.cons rfl (.cons rfl .nil)) ⟨rfl, S1, _, P, Xp, sh, .cons r1 (.cons r2 .nil), q, k.grow w, x.grow w⟩) (fun v s' hv => cmpBack hv) fun _ _ z => z)
  | _ => exact fall q
/-- a == b, a of an own class or as fb says -/
def eqGD (tab : Tab) (T : Str → Option Spd) (fb : O2) (x y : D) (P : D → Prop) (Xp : Xd) : Prop := match x with
  | .ins C fs => ∃ sp t r, T C = some sp ∧ tyG y = some t ∧ tab t (.c C) = some r ∧ (t = .c C ∨ r = false) ∧ sp [.ins C fs, y] P Xp
  | x => fb x y P
theorem eqGD_ins {tab : Tab} {T : Str → Option Spd} {fb : O2} {C : Str} {fs : List (Str × D)} {y : D} {P : D → Prop} {Xp : Xd} : eqGD tab T fb (.ins C fs) y P Xp = ∃ sp t r, T C = some sp ∧ tyG y = some t ∧ tab t (.c C) = some r ∧ (t = .c C ∨ r = false) ∧ sp [.ins C fs, y] P Xp := rfl
def eEqG (tab : Tab) (T : Str → Option Spd) (fb : O2) (a b : TEd) : TEd := fun ρ P Xp => a ρ (fun x => b ρ (fun y => eqGD tab T fb x y P Xp) Xp) Xp
theorem notFirst_of {tab : Tab} {t : TN} {C : Str} {r : Bool} {c : Addr} {tv : Value} (TB : TabOk mg tab) (hc : mg.m C = some (.ref c)) (ht : t.at mg tv) (h : tab t (.c C) = some r) (hr : t = .c C ∨ r = false) : PySem.W.notFirst mg.K c tv = true := by
  have one := TB.one _ _ _ h tv (.ref c) ht ⟨c, hc, rfl⟩
  unfold PySem.W.notFirst
  unfold PySem.W.kitOne at one
  by_cases q : (tv == .ref c) = true
  · rw [q]; rfl
  · rw [if_neg q] at one
    have hr' : r = false := by
      rcases hr with rfl | hr
      · obtain ⟨a, ha, rfl⟩ := ht
        rw [hc] at ha
        cases ha
        exact absurd (beq_self_eq_true _) q
      · exact hr
    subst hr'
    have one' : (if ((PySem.W.clsIn mg.K c).isSome && PySem.W.typeIn mg.K (.ref c) == some (.type "type")) = true then PySem.W.subIn mg.K tv (.ref c) else none) = some false := one
    split at one'
    · rw [one']; simp
    · cases one'
theorem lift_eqG {op : CmpOp} {tab : Tab} {T : Str → Option Spd} {fb : O2} (TB : TabOk (gd X) tab) (hop : compareOp op = richCompare op) (hu : X.A.units + 64 < cLine) (rows : ∀ n sp, T n = some sp → OpRow X (cmpInfo op).2.1 n sp) (tk : L2N.Takes X W) (ho : OpR X (compareOp op) (rL (gd X) fb)) (ha : DE X W a ta) (hb : DE X W b tb)
    {pins : List (Addr × Obj)} {s : Shared} {σ : L2.St} {H : Hp} {Q : VK} (I : Inv X pins σ H s) (h : liftE (gd X) W (eEqG tab T fb ta tb) σ H Q) :
    wpAny (model X.prog X.w) X.A (eval a X.env) (fun v s₁ => wpAny (model X.prog X.w) X.A (eval b X.env) (fun u s₂ => wpAny (model X.prog X.w) X.A (compareOp op v u) (EP X pins σ Q) X.xe s₂) X.xe s₁) X.xe s := by
  obtain ⟨S0, H0, S, ρ, P, Xp, R, h, k, x⟩ := h
  refine bin (R := fun x y H2 => ∃ S1 dx dy, Same S1 H2 ∧ Wd S H S1 H2 ∧ Rep (gd X) S1 x dx ∧ Rep (gd X) S1 y dy ∧ eqGD tab T fb dx dy P Xp) ha hb I ⟨S0, H0, S, ρ, _, Xp, R, h, fun d hd v S1 H1 w1 r1 => ⟨S0, H0, S1, ρ, _, Xp, R.grow w1, hd, fun d2 hd2 v2 S2 H2 w2 r2 => ⟨S2, d, d2, w2.sh, w1.trans w2, r1.mono w2.ss, r2, hd2⟩, x.grow w1⟩, x⟩ fun v u s2 x' y' H2 I2 rx ry q => ?_
  obtain ⟨S1, dx, dy, sh, w, r1, r2, q⟩ := q
  have fall : fb dx dy P → wpAny (model X.prog X.w) X.A (compareOp op v u) (EP X pins σ Q) X.xe s2 := fun q => ho pins s2 σ H2 x' y' v u Q I2 rx ry ⟨S1, dx, dy, P, sh, r1, r2, q, k.grow w⟩
  cases dx with
  | ins C fs =>
    obtain ⟨sp, t, r, hT, ht, hr, hr', q⟩ := q
    obtain ⟨c, f, fd, ps, kk, hc, hsf, hfi, hfn, F, hr2, hb'⟩ := (rows _ _ hT).ex
    obtain ⟨p1, dx1, gs1, rfl, e1, rf1⟩ := r1.ins_at (mg := gd X) hc
    cases rx
    obtain ⟨mA, O, _⟩ := ins_get I2.hok (sh _ _ e1)
    obtain ⟨od, J, _⟩ := O.look
    obtain ⟨tv, KP, kx, kp, kn, ta⟩ := r2.kit TB I2 sh ry ht ⟨_, _, hr⟩
    obtain ⟨m, Fm⟩ := I2.fr
    rw [hop]
    refine PySem.W.cmp_K (by omega) Fm I2.ok.mod.kin J (kx.ty _ _ I2.kIn kp) (notFirst_of TB hc ta hr hr') hfi hfn (wpAny_mono (run_fnS (us := [.ref p1, u]) (vs := [.ref p1, y']) (E := WE W) F hr2 hb' (L2N.passAt tk σ) I2 (.cons rfl (.cons ry .nil)) ⟨rfl, S1, _, P, Xp, sh, .cons r1 (.cons r2 .nil), q, k.grow w, x.grow w⟩) (fun v s' hv => cmpBack hv) fun _ _ z => z)
  | _ => exact fall q
theorem pc_eqG {op : CmpOp} {tab : Tab} {T : Str → Option Spd} {fb : O2} (TB : TabOk (gd X) tab) (hop : compareOp op = richCompare op) (hu : X.A.units + 64 < cLine) (rows : ∀ n sp, T n = some sp → OpRow X (cmpInfo op).2.1 n sp) (tk : L2N.Takes X W) (ho : OpR X (compareOp op) (rL (gd X) fb)) (ha : DE X W a ta) (hb : DE X W b tb) :
    PC X op a b (liftE (gd X) W (eEqG tab T fb ta tb)) := ⟨fun pins s σ H Q I h => lift_eqG TB hop hu rows tk ho ha hb I h⟩
theorem de_eqG {op : CmpOp} {tab : Tab} {T : Str → Option Spd} {fb : O2} (TB : TabOk (gd X) tab) (hop : compareOp op = richCompare op) (hu : X.A.units + 64 < cLine) (rows : ∀ n sp, T n = some sp → OpRow X (cmpInfo op).2.1 n sp) (tk : L2N.Takes X W) (ho : OpR X (compareOp op) (rL (gd X) fb)) (ha : DE X W a ta) (hb : DE X W b tb) (h1 : behindInMarks op b = false) :
    DE X W (.Compare a [op] [b] pos) (eEqG tab T fb ta tb) := pe_cmp (pc_eqG TB hop hu rows tk ho ha hb) h1
theorem dt_eqG {op : CmpOp} {tab : Tab} {T : Str → Option Spd} {fb : O2} (TB : TabOk (gd X) tab) (hop : compareOp op = richCompare op) (hu : X.A.units + 64 < cLine) (rows : ∀ n sp, T n = some sp → OpRow X (cmpInfo op).2.1 n sp) (tk : L2N.Takes X W) (ho : OpR X (compareOp op) (rL (gd X) fb)) (ha : DE X W a ta) (hb : DE X W b tb) (h1 : behindInMarks op b = false) :
    DT X W (.Compare a [op] [b] pos) (tBl (eEqG tab T fb ta tb)) :=
  PT.weak (pt_cmp (pc_eqG TB hop hu rows tk ho ha hb) h1) lift_tBl
end
end Z

/-! Z: raise. -/
namespace Z
open PySem PySem.Spec PyProof.Rows L2
abbrev bmVE : List Value := [.type "ValueError", .type "Exception", .type "BaseException", .type "object"]
/-- an own class over ValueError without own __init__ -/
structure Exc0 (K : PySem.W.Frag) (C : Addr) : Prop where
  q : PySem.W.excIn K C bmVE "ValueError.__new__" = true
  kC : PySem.W.keepIn K (.ref C) = true
  exC : PySem.W.subIn K (.ref C) (.type "BaseException") = some true
  tyC : PySem.W.typeIn K (.ref C) = some (.type "type")
section
variable {X : Cx} {W : WX} {mg : Mg} {pos p pos' : Pos} {tA : TAd} {n : Str} {C : Addr}
/-! ### raise C() -/
theorem pmk_exc0 (T : Exc0 X.K C) (gC : X.mg n = some (.ref C)) (hg : Gl X n) (hdb : (n == ("__debug__" : Str)) = false := by decide) : L2N.PMk X (.Call (.Name n p) [] [] pos) (fun _ H Q => Q (.ref C) none H) := by
  intro pins s σ H Q I h
  refine wpAny_Call_Name_kw (ld_glob I hg gC ?_ hdb)
  refine PySem.W.callWith_K0 (first := []) I.kIn T.kC ?_
  show wpAny _ _ (call (.ref C) []) _ _ _
  obtain ⟨bm, N, nm, qn, bs, hdct, sn, sub, ab, col, dd, k0, k1, k2, k3, k5, mN, hC, hN, hni, T2⟩ := exc_obj I.kIn T.q
  refine wpAny_call_exc_subT PySem.F.excBase_ValueError T2 hC hN hni (fun h' e hm => ?_) (by rw [sizeLine_eq]; exact Nat.zero_le _)
  exact L2N.mk_of I hm (raises_own T.exC T.tyC) h (I.hok.gone hm.new)
def sRaise0 (n : Str) : TSd := fun Φ ρ => Φ.xc n [] ρ
theorem ds_raise0 (hc : X.calm = true) (tk : L2N.Takes X W) (T : Exc0 X.K C) (gC : X.mg n = some (.ref C)) (hg : Gl X n) (hdb : (n == ("__debug__" : Str)) = false := by decide) : DS X W (.Raise (some (.Call (.Name n p) [] [] pos)) none pos') (sRaise0 n) :=
  PS.weak (L2N.ps_raise hc tk (pmk_exc0 T gC hg hdb)) fun D σ H ⟨S0, H0, S, ρ, Φ, R, h, k⟩ => k.xc n [] ρ h C none σ S H gC R (.inl ⟨rfl, rfl⟩) (Same.refl _)
/-! ### raise C(e, ..), C with an __init__ that stores its arguments -/
def spX (K : PySem.W.Frag) (fl : List Str) : Sp := fun vs H Q E => ∃ (a C : Addr) (ws : List V), vs = .ref a :: ws ∧ ws.length = fl.length ∧ OexC K C ∧ (∀ f ∈ fl, PySem.W.findIn K (.ref C) f = some none) ∧ H a = some (exo a C none) ∧
  ∀ d, H d = none → d ≠ a → Q .non (upd (upd H d (exd d (fl.zip ws).reverse)) a (exo a C (some d)))
theorem ok_exc1 {P : Program} {w : World} {K : PySem.W.Frag} {mg : Str → Option Value} {base : Heap} {x qual : Str} {st : Stmt} {f : Addr} {fd : FuncData} {N ps : List Str} {k : Nat} {g : Str} (F : Fun K x qual st f fd) (S : FnScope N ps (defScope st)) (hl : ps.length = 2)
    (body : ∀ (cdv : Value) (A : Around) (outer : List Env) (s : Shared) (H : Hp) (E : XK), PSs (cxOf (L2N.CX P w) P w K mg base N qual (defScope st) f cdv A outer s H E) (defBody st) (tOst K g (tVar 0) (tVar 1))) :
    FnOk P w K mg base (L2N.CX P w) (k + 1) f fd ps (spX K [g]) := by
  refine okN F S (fun vs H Q E h => ?_) (fun cdv A outer s H vs Q E hr h => ?_)
  · obtain ⟨a, C, ws, rfl, h, _⟩ := h
    rw [List.length_cons, h, hl]; rfl
  · refine ⟨_, body cdv A outer s H E, ?_⟩
    obtain ⟨a, C, ws, rfl, hw, T, hno, ha, q⟩ := h
    match ws, hw with
    | [v], _ =>
      exact ⟨v, rfl, .ref a, rfl, a, C, rfl, T, hno g List.mem_cons_self, .inl ⟨ha, fun dx h1 h2 => q dx h1 h2⟩⟩
theorem ok_exc2 {P : Program} {w : World} {K : PySem.W.Frag} {mg : Str → Option Value} {base : Heap} {x qual : Str} {st : Stmt} {f : Addr} {fd : FuncData} {N ps : List Str} {k : Nat} {g g2 : Str} (F : Fun K x qual st f fd) (S : FnScope N ps (defScope st)) (hl : ps.length = 3)
    (body : ∀ (cdv : Value) (A : Around) (outer : List Env) (s : Shared) (H : Hp) (E : XK), PSs (cxOf (L2N.CX P w) P w K mg base N qual (defScope st) f cdv A outer s H E) (defBody st) (L2.tSeq (tOst K g (tVar 0) (tVar 1)) (tOst K g2 (tVar 0) (tVar 2)))) :
    FnOk P w K mg base (L2N.CX P w) (k + 1) f fd ps (spX K [g, g2]) := by
  refine okN F S (fun vs H Q E h => ?_) (fun cdv A outer s H vs Q E hr h => ?_)
  · obtain ⟨a, C, ws, rfl, h, _⟩ := h
    rw [List.length_cons, h, hl]; rfl
  · refine ⟨_, body cdv A outer s H E, ?_⟩
    obtain ⟨a, C, ws, rfl, hw, T, hno, ha, q⟩ := h
    match ws, hw with
    | [v, v2], _ =>
      refine ⟨v, rfl, .ref a, rfl, a, C, rfl, T, hno g List.mem_cons_self, .inl ⟨ha, fun dx h1 h2 => ?_⟩⟩
      refine ⟨v2, rfl, .ref a, rfl, a, C, rfl, T, hno g2 (List.mem_cons_of_mem _ List.mem_cons_self), .inr ⟨dx, _, upd_same, by rw [upd_ne h2]; exact upd_same, by show 1 ≤ 900; decide, ?_⟩⟩
      have e := q dx h1 h2
      have z : upd (upd (upd H dx (exd dx [(g, v)])) a (exo a C (some dx))) dx (exd dx [(g2, v2), (g, v)]) = upd (upd H dx (exd dx [(g2, v2), (g, v)])) a (exo a C (some dx)) := by
        funext b
        by_cases hb : b = dx
        · subst hb; rw [upd_same, upd_ne h2, upd_same]
        · rw [upd_ne hb]
          by_cases ha' : b = a
          · subst ha'; rw [upd_same, upd_same]
          · rw [upd_ne ha', upd_ne ha', upd_ne hb, upd_ne hb]
      exact z ▸ e
/-- what raise C(e, ..) wishes -/
def tMkX (C : Addr) (fl : List Str) (ta : TA) : L2.St → Hp → XK → Prop := fun σ H Q => ta σ H fun vs H1 => vs.length = fl.length ∧ ∀ d, H1 d = none → Q (.ref C) (some d) (upd H1 d (.xd (fl.zip vs).reverse))
theorem pmk_excI {CX : CXT} {fI : Addr} {k : Nat} {fd : FuncData} {ps fl : List Str} {e : Expr} {es : List Expr} {ta : TA} (T : OexC X.K C) (iC : PySem.W.findIn X.K (.ref C) "__init__" = some (some (.ref fI))) (tI : PySem.W.typeIn X.K (.ref fI) = some (.type "function")) (hno : ∀ f ∈ fl, PySem.W.findIn X.K (.ref C) f = some none) (hfl : fl.length ≤ 1000)
    (F1 : FnOk X.prog X.w X.K X.mg X.base CX k fI fd ps (spX X.K fl)) (hr : Room (k + 1) X.A) (hb : Binds X.K fd ps []) (hx : Passes CX X (fun _ _ _ => False)) (hg : Gl X n) (hm : X.mg n = some (.ref C)) (ha : PA X (e :: es) ta)
    (hdb : (n == ("__debug__" : Str)) = false := by decide) (he : starEach (e :: es) X.env = (false, eval e X.env) :: starEach es X.env := by rfl) (hpl : (backTo pos (starEach es X.env)).any (·.1) = false := by rfl) :
    L2N.PMk X (.Call (.Name n p) (e :: es) [] pos) (tMkX C fl ta) := by
  intro pins s σ H Q I h
  obtain ⟨nm, q, N, bs, bm, sn, sub, ab, col, dd, k0, k1, k2, k3, k5, hC, hbm⟩ := T.cls
  refine wpAny_Call_Name_kw (ld_glob I hg hm ?_ hdb)
  refine PySem.W.callWith_K (h₀ := X.base) I.ok.mod.kin T.kC (thn (ha.run pos pins s σ H _ I h) fun us s1 ⟨vs, H1, I1, r1, hz, q1⟩ => ⟨I1.kIn, ?_⟩) he hpl
  show wpAny _ _ (call (.ref C) us) _ _ _
  obtain ⟨hp, g, dr, tk, os⟩ := s1
  have hsz : hp.objs.size ≤ hp.objs.size + 1 := Nat.le_succ _
  have hn : H1 (hp.objs.size + 1) = none := I1.hok.fresh hsz
  have hq : spX X.K fl (V.ref (hp.objs.size + 1) :: vs) (upd H1 (hp.objs.size + 1) (exo (hp.objs.size + 1) C none)) (fun v H2 => v = .non ∧ ∃ d, H1 d = none ∧ d ≠ hp.objs.size + 1 ∧ H2 = upd (upd (upd H1 (hp.objs.size + 1) (exo (hp.objs.size + 1) C none)) d (exd d (fl.zip vs).reverse)) (hp.objs.size + 1) (exo (hp.objs.size + 1) C (some d))) (fun _ _ _ => False) :=
    ⟨_, C, vs, rfl, hz, T, hno, upd_same, fun d h1 h2 => ⟨rfl, d, by rw [upd_ne h2] at h1; exact h1, h2, rfl⟩⟩
  have kk : ∀ b o, hp.get? b = some o → ((hp.push (PySem.W.kdv_tup us)).push (PySem.HandSPX.excO C hp.objs.size)).get? b = some o := fun b o e => Heap.get?_push_of_some _ (Heap.get?_push_of_some _ e)
  have hget : ((hp.push (PySem.W.kdv_tup us)).push (PySem.HandSPX.excO C hp.objs.size)).get? (hp.objs.size + 1) = some (PySem.HandSPX.excO C hp.objs.size) := by heap_get
  have I2 : Inv X pins σ (upd H1 (hp.objs.size + 1) (exo (hp.objs.size + 1) C none)) ⟨(hp.push (PySem.W.kdv_tup us)).push (PySem.HandSPX.excO C hp.objs.size), g, dr, tk, os⟩ :=
    I1.laid (t' := tk) (a := hp.objs.size + 1) (o := exo (hp.objs.size + 1) C none) (h' := (hp.push (PySem.W.kdv_tup us)).push (PySem.HandSPX.excO C hp.objs.size)) kk hsz (exo_ok hget)
  have r2 : Vals (V.ref (hp.objs.size + 1) :: vs) (Value.ref (hp.objs.size + 1) :: us) := .cons rfl r1
  have hl : (Value.ref (hp.objs.size + 1) :: us).length = ps.length := by
    have e := r2.length
    rw [F1.len _ _ _ _ hq] at e
    exact e.symm
  have hus : us.length ≤ sizeLine := by
    rw [← Paired.length r1, sizeLine_eq]
    omega
  have b2 := hb _ (Value.ref (hp.objs.size + 1) :: us) I2.kIn (by rw [List.append_nil]; exact hl)
  rw [List.append_nil] at b2
  refine wpAny_call (PySem.HandSPX.call_own PySem.F.excBase_ValueError (fun Y => PySem.HandSPX.refsVE_contains Y bm hbm) (I1.kIn _ _ hC) (PySem.W.looks_findIn I1.kIn iC) (fun self => PySem.W.bind_fn I1.kIn self tI) hus
    (codeAny_mono (F1.run _ X.stack _ _ ⟨Value.ref (hp.objs.size + 1) :: us, []⟩ (Value.ref (hp.objs.size + 1) :: us) _ _ (fun _ _ _ => False) (hr.make C us []) (I2.env0.make C us []) b2 r2 hq) fun r s' hq' => ?_))
  cases r with
  | error er => exact hx pins σ _ _ er s' I2 hq'
  | ok flw =>
    cases flw with
    | ret u =>
      obtain ⟨v, H2, os2, bare2, un2, hok2, rv, ev, d, hd1, hda, eH⟩ := hq'
      subst ev eH
      obtain ⟨h2, g2, d2, t2, os'⟩ := s'
      obtain ⟨t0, G, J, kG, ge, hoe, na⟩ := mk_end0 (d2 := d2) (t2 := t2) I1 hsz kk un2 hok2 os2 bare2 upd_same (by rw [upd_ne hda]; exact upd_same) hd1
      have eH2 : upd (del (upd (upd (upd H1 (hp.objs.size + 1) (exo (hp.objs.size + 1) C none)) d (exd d (fl.zip vs).reverse)) (hp.objs.size + 1) (exo (hp.objs.size + 1) C (some d))) (hp.objs.size + 1)) d (.xd (fl.zip vs).reverse) = upd H1 d (.xd (fl.zip vs).reverse) := by
        funext b
        by_cases hb : b = d
        · subst hb; rw [upd_same, upd_same]
        · rw [upd_ne hb, upd_ne hb]
          by_cases hb2 : b = hp.objs.size + 1
          · subst hb2; rw [del_same, hn]
          · rw [del_ne hb2, upd_ne hb2, upd_ne hb, upd_ne hb2]
      rw [eH2] at J na
      exact ⟨rv, ⟨_, _, _, ⟨G, g2, d2, t2, os'⟩, _, .ref C, some d, rfl, J, kG, ge, hoe, ⟨rfl, rfl, fun vs e => by cases e; rfl⟩, rfl, rfl, na, rfl, bare2, raises_own T.exC T.tyC, q1 d hd1⟩⟩
    | next => exact False.elim hq'
    | brk => exact False.elim hq'
    | cont => exact False.elim hq'
def sRaiseI (n : Str) (fl : List Str) (ta : TAd) : TSd := fun Φ ρ => ta ρ (fun ds => ds.length = fl.length ∧ Φ.xc n (fl.zip ds).reverse ρ) (fun C fs => Φ.xc C fs ρ)
theorem RepF.zip {S : Hp} : ∀ {vs : List V} {ds : List D} (fl : List Str), Reps mg S vs ds → RepF mg S (fl.zip vs) (fl.zip ds)
  | _, _, [], _ => by simp; exact .nil
  | _, _, _ :: _, .nil => by simp; exact .nil
  | _, _, f :: fl, .cons h r => by rw [List.zip_cons_cons, List.zip_cons_cons]; exact .cons h (RepF.zip fl r)
theorem RepF.append {S : Hp} {κ : Type} : ∀ {vs ws : List (κ × V)} {ds es : List (κ × D)}, RepF mg S vs ds → RepF mg S ws es → RepF mg S (vs ++ ws) (ds ++ es)
  | _, _, _, _, .nil, r => r
  | _, _, _, _, .cons h r, s => .cons h (RepF.append r s)
theorem RepF.reverse {S : Hp} {κ : Type} : ∀ {vs : List (κ × V)} {ds : List (κ × D)}, RepF mg S vs ds → RepF mg S vs.reverse ds.reverse
  | _, _, .nil => .nil
  | _, _, .cons h r => by rw [List.reverse_cons, List.reverse_cons]; exact RepF.append (RepF.reverse r) (.cons h .nil)
theorem ds_raiseI {fI : Addr} {k : Nat} {fd : FuncData} {ps fl : List Str} {e : Expr} {es : List Expr} (hc : X.calm = true) (tk : L2N.Takes X W) (T : OexC X.K C) (iC : PySem.W.findIn X.K (.ref C) "__init__" = some (some (.ref fI))) (tI : PySem.W.typeIn X.K (.ref fI) = some (.type "function")) (hno : ∀ f ∈ fl, PySem.W.findIn X.K (.ref C) f = some none) (hfl : fl.length ≤ 1000)
    (F1 : FnOk X.prog X.w X.K X.mg X.base (L2N.CX X.prog X.w) k fI fd ps (spX X.K fl)) (hr : Room (k + 1) X.A) (hb : Binds X.K fd ps []) (hg : Gl X n) (hm : X.mg n = some (.ref C)) (ha : DA X W (e :: es) tA)
    (hdb : (n == ("__debug__" : Str)) = false := by decide) (he : starEach (e :: es) X.env = (false, eval e X.env) :: starEach es X.env := by rfl) (hpl : (backTo pos (starEach es X.env)).any (·.1) = false := by rfl) :
    DS X W (.Raise (some (.Call (.Name n p) (e :: es) [] pos)) none pos') (sRaiseI n fl tA) :=
  PS.weak (L2N.ps_raise hc tk (pmk_excI T iC tI hno hfl F1 hr hb passLN hg hm ha hdb he hpl)) fun D σ H ⟨S0, H0, S, ρ, Φ, R, h, k⟩ =>
    ⟨S0, H0, S, ρ, _, _, R, h, fun ds hd vs S1 H1 w1 r1 => ⟨r1.length.trans hd.1, fun d hd1 => by
      have R1 := R.grow w1
      have w2 : Wd S1 H1 (upd S1 d (.xd (fl.zip vs).reverse)) (upd H1 d (.xd (fl.zip vs).reverse)) := (Wd.refl w1.sh).new hd1 _
      exact k.xc n _ ρ hd.2 C (some d) σ _ _ hm (R1.grow w2) (.inr ⟨d, _, rfl, upd_same, ((RepF.zip fl r1).reverse).mono w2.ss⟩) (w1.ss.trans w2.ss)⟩, k.x R⟩
end
end Z

/-! Z: try, except C as e; except C; fields of a caught exception. -/
namespace Z
open PySem PySem.Spec PyProof.Rows L2
section
variable {mg mg' : Mg} {S0 H0 S H S' H' : Hp} {σ : L2.St} {ρ ρ' : En}
/-! ### what is known goes into the suite and comes out -/
theorem OsAt.pins (eK : mg'.K = mg.K) (em : mg'.m = mg.m) (e : ∀ p ∈ mg.pn, p ∈ mg'.pn) {a : Addr} {o : Os} (h : OsAt mg S H a o) : OsAt mg' S H a o := by
  cases o with
  | lst l => obtain ⟨vs, h1, r⟩ := h; exact ⟨vs, h1, Reps.pins eK em e r⟩
  | dk l => obtain ⟨vs, h1, r⟩ := h; exact ⟨vs, h1, RepF.pins eK em e r⟩
  | dt l => obtain ⟨vs, h1, r⟩ := h; exact ⟨vs, h1, RepF.pins eK em e r⟩
theorem OwAt.pins (eK : mg'.K = mg.K) (em : mg'.m = mg.m) (e : ∀ p ∈ mg.pn, p ∈ mg'.pn) {a : Addr} {o : Ow} (h : OwAt mg S H a o) : OwAt mg' S H a o := by
  cases o with
  | lst l => obtain ⟨vs, h1, r⟩ := h; exact ⟨vs, h1, Reps.pins eK em e r⟩
  | ins a0 C fs => obtain ⟨z, c, dx, gs, q, h1, r⟩ := h; exact ⟨z, c, dx, gs, em ▸ q, h1, RepF.pins eK em e r⟩
  | dk l => obtain ⟨vs, h1, r⟩ := h; exact ⟨vs, h1, RepF.pins eK em e r⟩
  | dt l => obtain ⟨vs, h1, r⟩ := h; exact ⟨vs, h1, RepF.pins eK em e r⟩
  | nst g T => obtain ⟨z, h1, h2, h3⟩ := h; exact ⟨z, h1, h2, fun p hp => (h3 p hp).pins eK em e⟩
theorem RE.pins (eK : mg'.K = mg.K) (em : mg'.m = mg.m) (e : ∀ p ∈ mg.pn, p ∈ mg'.pn) (R : RE mg S0 H0 S H σ ρ) : RE mg' S0 H0 S H σ ρ where
  wd := R.wd
  len := R.len
  val := fun i d h => by
    obtain ⟨v, h1, h2⟩ := R.val i d h
    exact ⟨v, h1, h2.pins eK em e⟩
  own := by
    obtain ⟨A, h1, h2⟩ := R.own
    exact ⟨A, fun i o h => by
      obtain ⟨a, b, d⟩ := h1 i o h
      exact ⟨a, b, d.pins eK em e⟩, h2⟩
def NoErrO : Ow → Prop
  | .nst _ T => ∀ x ∈ T, NoErr x.2.d
  | o => NoErr o.d
/-- no caught exception in a slot -/
def NoErrS : Sl → Prop
  | .em => True
  | .val d => NoErr d
  | .own o => NoErrO o
theorem NoErr.lst_inv {l : List D} (h : NoErr (.lst l)) : ∀ d ∈ l, NoErr d := by cases h; assumption
theorem NoErr.ins_inv {C : Str} {fs : List (Str × D)} (h : NoErr (.ins C fs)) : ∀ p ∈ fs, NoErr p.2 := by cases h; assumption
theorem NoErr.dk_inv {fs : List (Key × D)} (h : NoErr (.dk fs)) : ∀ p ∈ fs, NoErr p.2 := by cases h; assumption
theorem NoErr.dt_inv {fs : List (List Key × D)} (h : NoErr (.dt fs)) : ∀ p ∈ fs, NoErr p.2 := by cases h; assumption
theorem OsAt.unpin (eK : mg'.K = mg.K) (em : mg'.m = mg.m) {a : Addr} {o : Os} (h : OsAt mg S H a o) (n : NoErr o.d) : OsAt mg' S H a o := by
  cases o with
  | lst l => obtain ⟨vs, h1, r⟩ := h; exact ⟨vs, h1, Reps.unpin eK em r (NoErr.lst_inv n)⟩
  | dk l => obtain ⟨vs, h1, r⟩ := h; exact ⟨vs, h1, RepF.unpin eK em r (NoErr.dk_inv n)⟩
  | dt l => obtain ⟨vs, h1, r⟩ := h; exact ⟨vs, h1, RepF.unpin eK em r (NoErr.dt_inv n)⟩
theorem OwAt.unpin (eK : mg'.K = mg.K) (em : mg'.m = mg.m) {a : Addr} {o : Ow} (h : OwAt mg S H a o) (n : NoErrO o) : OwAt mg' S H a o := by
  cases o with
  | lst l => obtain ⟨vs, h1, r⟩ := h; exact ⟨vs, h1, Reps.unpin eK em r (NoErr.lst_inv n)⟩
  | ins a0 C fs => obtain ⟨z, c, dx, gs, q, h1, r⟩ := h; exact ⟨z, c, dx, gs, em ▸ q, h1, RepF.unpin eK em r (NoErr.ins_inv n)⟩
  | dk l => obtain ⟨vs, h1, r⟩ := h; exact ⟨vs, h1, RepF.unpin eK em r (NoErr.dk_inv n)⟩
  | dt l => obtain ⟨vs, h1, r⟩ := h; exact ⟨vs, h1, RepF.unpin eK em r (NoErr.dt_inv n)⟩
  | nst g T => obtain ⟨z, h1, h2, h3⟩ := h; exact ⟨z, h1, h2, fun p hp => (h3 p hp).unpin eK em (n p hp)⟩
theorem RE.unpin (eK : mg'.K = mg.K) (em : mg'.m = mg.m) (R : RE mg S0 H0 S H σ ρ) (n : ∀ (i : Nat) (s : Sl), ρ[i]? = some s → NoErrS s) : RE mg' S0 H0 S H σ ρ where
  wd := R.wd
  len := R.len
  val := fun i d h => by
    obtain ⟨v, h1, h2⟩ := R.val i d h
    exact ⟨v, h1, h2.unpin eK em (n i _ h)⟩
  own := by
    obtain ⟨A, h1, h2⟩ := R.own
    exact ⟨A, fun i o h => by
      obtain ⟨a, b, d⟩ := h1 i o h
      exact ⟨a, b, d.unpin eK em (n i _ h)⟩, h2⟩
mutual
theorem Rep.noErr (e : mg.pn = []) : ∀ {v : V} {d : D}, Rep mg S v d → NoErr d
  | _, _, .non => .non
  | _, _, .bl b => .bl b
  | _, _, .int i => .int i
  | _, _, .str x => .str x
  | _, _, .ty n => .ty n
  | _, _, .gl h => .gl _
  | _, _, .tup h r => .tup (Reps.noErr e r)
  | _, _, .lst h r => .lst (Reps.noErr e r)
  | _, _, .ins hC h r => .ins (RepF.noErr e r)
  | _, _, .scr h r => .scr (Reps.noErr e r)
  | _, _, .dk h r => .dk (RepF.noErr e r)
  | _, _, .dt h r => .dt (RepF.noErr e r)
  | _, _, .err0 a b c d f => absurd (e ▸ a) List.not_mem_nil
  | _, _, .err1 a b c d f g h => absurd (e ▸ a) List.not_mem_nil
  | _, _, .ptr a => .ptr a
theorem Reps.noErr (e : mg.pn = []) : ∀ {vs : List V} {ds : List D}, Reps mg S vs ds → ∀ d ∈ ds, NoErr d
  | _, _, .nil => fun _ h => absurd h List.not_mem_nil
  | _, _, .cons h r => fun d hd => (List.mem_cons.mp hd).elim (fun z => z ▸ Rep.noErr e h) (Reps.noErr e r d)
theorem RepF.noErr (e : mg.pn = []) : ∀ {κ : Type} {gs : List (κ × V)} {fs : List (κ × D)}, RepF mg S gs fs → ∀ p ∈ fs, NoErr p.2
  | _, _, _, .nil => fun _ h => absurd h List.not_mem_nil
  | _, _, _, .cons h r => fun d hd => (List.mem_cons.mp hd).elim (fun z => z ▸ Rep.noErr e h) (RepF.noErr e r d)
end
theorem RE.noErr (e : mg.pn = []) (R : RE mg S0 H0 S H σ ρ) {i : Nat} {s : Sl} (h : ρ[i]? = some s) : NoErrS s := by
  cases s with
  | em => exact True.intro
  | val d => obtain ⟨v, _, r⟩ := R.val i d h; exact r.noErr e
  | own o =>
    obtain ⟨p, _, _, _, ow⟩ := R.at h
    cases o with
    | lst l => obtain ⟨vs, h1, r⟩ := ow; exact .lst (r.noErr e)
    | ins a0 C fs => obtain ⟨z, c, dx, gs, q, h1, r⟩ := ow; exact .ins (r.noErr e)
    | dk l => obtain ⟨vs, h1, r⟩ := ow; exact .dk (r.noErr e)
    | dt l => obtain ⟨vs, h1, r⟩ := ow; exact .dt (r.noErr e)
    | nst g T =>
      obtain ⟨z, h1, h2, h3⟩ := ow
      intro x hx
      have q := h3 x hx
      cases ho : x.2 with
      | lst l => rw [ho] at q; obtain ⟨vs, _, r⟩ := q; exact .lst (r.noErr e)
      | dk l => rw [ho] at q; obtain ⟨vs, _, r⟩ := q; exact .dk (r.noErr e)
      | dt l => rw [ho] at q; obtain ⟨vs, _, r⟩ := q; exact .dt (r.noErr e)
/-- each slot is as it was, or has no caught exception in it -/
def neEn : En → En → Prop
  | _, [] => True
  | [], t :: r => NoErrS t ∧ neEn [] r
  | s :: ρ, t :: r => (s = t ∨ NoErrS t) ∧ neEn ρ r
theorem neEn_get : ∀ {ρ r : En}, neEn ρ r → ∀ (i : Nat) (t : Sl), r[i]? = some t → ρ[i]? = some t ∨ NoErrS t
  | _, [], _, i, t, e => by simp at e
  | [], t' :: r, h, 0, t, e => by simp at e; subst e; exact .inr h.1
  | [], t' :: r, h, i + 1, t, e => by
    rw [List.getElem?_cons_succ] at e
    exact (neEn_get h.2 i t e).imp (fun z => by simp at z) id
  | s :: ρ, t' :: r, h, 0, t, e => by
    simp at e; subst e
    exact h.1.imp (fun z => by rw [z]; rfl) id
  | s :: ρ, t' :: r, h, i + 1, t, e => by
    rw [List.getElem?_cons_succ] at e ⊢
    exact neEn_get h.2 i t e
theorem RE.setEm (R : RE mg S0 H0 S H σ ρ) {i : Nat} : RE mg S0 H0 S H (σ.set i none) (ρ.set i .em) := by
  have old : ∀ (j : Nat) (s : Sl), (ρ.set i .em)[j]? = some s → s = .em ∨ (i ≠ j ∧ ρ[j]? = some s) := fun j s h => by
    by_cases c : i = j
    · subst c
      by_cases hi : i < ρ.length
      · rw [List.getElem?_set_self hi] at h; exact .inl (Option.some.inj h).symm
      · rw [List.getElem?_eq_none (by simpa using hi)] at h; cases h
    · rw [List.getElem?_set_ne c] at h; exact .inr ⟨c, h⟩
  obtain ⟨A, h1, h2⟩ := R.own
  have o1 : ∀ (j : Nat) (o : Ow), (ρ.set i .em)[j]? = some (.own o) → i ≠ j ∧ ρ[j]? = some (.own o) := fun j o h => (old j _ h).resolve_left (by intro z; cases z)
  refine ⟨R.wd, by simpa using R.len, fun j d h => ?_, A, fun j o h => ?_, fun j k o o' a b => h2 j k o o' (o1 j o a).2 (o1 k o' b).2⟩
  · obtain ⟨c, h⟩ := (old j _ h).resolve_left (by intro z; cases z)
    rw [List.getElem?_set_ne c]; exact R.val j d h
  · obtain ⟨c, h⟩ := o1 j o h
    rw [List.getElem?_set_ne c]; exact h1 j o h
end
section
variable {X : Cx} {W : WX} {pos pos' np : Pos} {tb ts : TSd} {c : Addr} {i : Nat} {x n : Str}
/-- does the clause of the class n catch an exception of the class C -/
abbrev Exm := Str → Option Bool
structure ExmOk (mg : Mg) (n : Str) (ex : Exm) : Prop where
  one : ∀ C b, ex C = some b → ∀ c d, mg.m C = some (.ref c) → mg.m n = some (.ref d) → PySem.W.exmOne mg.K (.ref c) (.ref d) = some b
/-- behind the suite -/
def sufE (Φ : Ed) (ρ' : En) (f : En → En) : Ed :=
  { nx := fun r => neEn ρ' (f r) ∧ Φ.nx (f r), rt := fun d => NoErr d ∧ Φ.rt d, ro := fun o => NoErrO o ∧ Φ.ro o, bk := fun r => neEn ρ' (f r) ∧ Φ.bk (f r), ct := fun r => neEn ρ' (f r) ∧ Φ.ct (f r) }
def sTryAs (ex : Exm) (i : Nat) (tb ts : TSd) : TSd := fun Φ ρ => tb { Φ with xc := fun C fs ρ' => ∃ b, ex C = some b ∧ (b = true → ts (sufE Φ ρ' fun r => r.set i .em) (ρ'.set i (.val (.err C fs)))) ∧ (b = false → Φ.xc C fs ρ') } ρ
theorem gd_calm (hc : X.calm = true) : gd X = ⟨X.K, X.mg, []⟩ := by
  show (⟨X.K, X.mg, bif X.calm then [] else X.pn.take 1⟩ : Mg) = _
  rw [hc]; rfl
theorem gd_tr (hc : X.calm = true) {pn : List (Addr × Obj)} {xe : Value → Shared → Prop} : gd (X.tr pn xe) = gd X := by
  show (⟨X.K, X.mg, bif X.calm then [] else pn.take 1⟩ : Mg) = ⟨X.K, X.mg, bif X.calm then [] else X.pn.take 1⟩
  rw [hc]; rfl
/-- the context's handled exception stands first among the pins -/
structure HotP (X : Cx) : Prop where
  ex : ∃ p : Addr × Obj, L2H.Hot1 X.A p ∧ p ∈ X.pn ∧ gd X = ⟨X.K, X.mg, [p]⟩
theorem hot_suite {a : Addr} {oe : Obj} {cls : Value} {d : Option Addr} {pn : List (Addr × Obj)} (hz : L2N.Zn cls d oe) (hf : ∃ vs, oe.data = .fields vs) : HotP (X.suite a ((a, oe) :: pn)) := by
  obtain ⟨vs, hv⟩ := hf
  exact ⟨(a, oe), ⟨rfl, vs, hv, hz.2.2 vs hv⟩, List.mem_cons_self, rfl⟩
/-- the readings of a suite, at the caught exception -/
def liftX (X : Cx) (a : Addr) (oe : Obj) (pn : List (Addr × Obj)) (cls : Value) (d : Option Addr) (ts : TSd) : TS := liftS (gd (X.suite a ((a, oe) :: pn))) W0 ts
/-- a suite's wish, whatever the exception's object is -/
def allX (mg : Mg) (ts : TSd) : Addr → Value → Option Addr → TS := fun a cls d D σ H => ∀ oe : Obj, L2N.Zn cls d oe → (∃ vs, oe.data = .fields vs) → liftS ⟨mg.K, mg.m, [(a, oe)]⟩ W0 ts D σ H
theorem ds_tryAs {ex : Exm} {body suite : List Stmt} {b₀ : Stmt} (hcalm : X.calm = true) (hs : X.stack = X.env :: X.outer) (hf : X.env.frame = some X.env.locals) (hN : X.N.Nodup) (hi : X.N[i]? = some n) (hln : X.env.kindOf n = some .local) (hg : Gl X x) (hm : X.mg x = some (.ref c)) (E : ExmOk (gd X) x ex) (tk : L2N.Takes X W)
    (hb : ∀ (W : WX) (pn : List (Addr × Obj)) (xe : Value → Shared → Prop), L2N.Takes (X.tr pn xe) W → PassesOwn (model X.prog X.w) X.A X.env xe → DSs (X.tr pn xe) W body tb)
    (hsu : ∀ (a : Addr) (oe : Obj) (pn : List (Addr × Obj)), HotP (X.suite a ((a, oe) :: pn)) → DSs (X.suite a ((a, oe) :: pn)) W0 (b₀ :: suite) ts) (hdb : (x == ("__debug__" : Str)) = false := by decide) :
    DS X W (.Try body [.ExceptHandler (some (.Name x np)) (some n) (b₀ :: suite) pos'] [] [] pos) (sTryAs ex i tb ts) := by
  refine PS.weak (L2N.ps_try_as (c := .ref c) (Wout := W) (tb := fun W => liftS (gd X) W tb) (ts := allX (gd X) ts) hs hf hN hi hln ⟨hg, hdb, .inl hm⟩ tk (fun W pn xe tk hp => ?_) fun a oe cls d pn hz hv => ?_) fun D σ H ⟨S0, H0, S, ρ, Φ, R, h, k⟩ => ?_
  · have q := hb W pn xe tk hp
    unfold DSs at q
    rw [gd_tr hcalm] at q
    exact q
  · exact PSs.weak (hsu a oe pn (hot_suite hz hv)) fun D σ H h => h oe hz hv
  · refine ⟨S0, H0, S, ρ, _, R, h, { nx := k.nx, rt := k.rt, ro := k.ro, bk := k.bk, ct := k.ct, xc := fun C fs ρ' h' cc d' σ' S' H' hC R' rx sS => ?_ }⟩
    obtain ⟨b, hb, hy, hno⟩ := h'
    refine ⟨b, E.one C b hb cc c hC hm, fun e a ha oe hz hv => ?_, fun e => k.xc C fs ρ' (hno e) cc d' σ' S' H' hC R' rx sS⟩
    have hn0 : (gd X).pn = [] := by rw [gd_calm hcalm]
    have sub : ∀ p ∈ (gd X).pn, p ∈ ([(a, oe)] : List (Addr × Obj)) := fun p hp => by rw [hn0] at hp; cases hp
    have R2 : RE ⟨(gd X).K, (gd X).m, [(a, oe)]⟩ S0 H0 S' H' σ' ρ' := RE.pins (mg := gd X) (mg' := ⟨(gd X).K, (gd X).m, [(a, oe)]⟩) rfl rfl sub R'
    have rerr : Rep ⟨(gd X).K, (gd X).m, [(a, oe)]⟩ S' (.ref a) (.err C fs) := by
      rcases rx with ⟨rfl, rfl⟩ | ⟨dd, gs, rfl, hx, rf⟩
      · exact .err0 List.mem_cons_self hC hz.1 hz.2.1 hv
      · exact .err1 List.mem_cons_self hC hz.1 hz.2.1 hv hx (RepF.pins (mg := gd X) (mg' := ⟨(gd X).K, (gd X).m, [(a, oe)]⟩) rfl rfl sub rf)
    have back : ∀ {r : En} {σ2 : L2.St} {S2 H2 : Hp}, RE ⟨(gd X).K, (gd X).m, [(a, oe)]⟩ S0 H0 S2 H2 σ2 r → neEn ρ' (r.set i .em) → RE (gd X) S0 H0 S2 H2 (σ2.set i none) (r.set i .em) := fun {r σ2 S2 H2} Rr ne =>
      RE.unpin (mg := ⟨(gd X).K, (gd X).m, [(a, oe)]⟩) (mg' := gd X) rfl rfl Rr.setEm fun j s hj => (neEn_get ne j s hj).elim (fun z => R'.noErr hn0 z) id
    refine ⟨S0, H0, S', _, _, R2.set rerr, hy e, { nx := fun r hr σ2 S2 H2 Rr s2 => ?_, rt := fun d hd v S2 H2 w r => k.rt d hd.2 v S2 H2 w (Rep.unpin (mg := ⟨(gd X).K, (gd X).m, [(a, oe)]⟩) (mg' := gd X) rfl rfl r hd.1), ro := fun o ho p S2 H2 w h1 ow => k.ro o ho.2 p S2 H2 w h1 (OwAt.unpin (mg := ⟨(gd X).K, (gd X).m, [(a, oe)]⟩) (mg' := gd X) rfl rfl ow ho.1), bk := fun r hr σ2 S2 H2 Rr s2 => ?_, ct := fun r hr σ2 S2 H2 Rr s2 => ?_, xc := fun _ _ _ hh => hh.elim }⟩
    · exact k.nx _ hr.2 _ _ _ (back Rr hr.1) (sS.trans s2)
    · exact k.bk _ hr.2 _ _ _ (back Rr hr.1) (sS.trans s2)
    · exact k.ct _ hr.2 _ _ _ (back Rr hr.1) (sS.trans s2)
end
end Z

/-! Z: e.f and e.m(..), by tables of classes; defs called while an exception is handled. -/
namespace Z
open PySem PySem.Spec PyProof.Rows L2
def fldsD : D → List (Str × D)
  | .ins _ fs => fs
  | .err _ fs => fs
  | _ => []
/-- what e.f is for e of a class: a plain field, or a property -/
abbrev AT := TN → Option (Option Spd)
def attrD (At : AT) (fl : Str) (d : D) (P : D → Prop) : Prop := match (tyG d).bind At with
  | some none => ∃ v, (fldsD d).lookup fl = some v ∧ P v
  | some (some sp) => sp [d] P NoX
  | none => False
def eAttr (At : AT) (fl : Str) (te : TEd) : TEd := fun ρ P Xp => te ρ (fun d => attrD At fl d P) Xp
structure FldOk (X : Cx) (fl : Str) (n : Str) : Prop where
  ex : ∃ c, X.mg n = some (.ref c) ∧ L2.Cls X.K c ∧ NoAttr X.K c fl
structure FldEOk (X : Cx) (fl : Str) (n : Str) : Prop where
  ex : ∃ c, X.mg n = some (.ref c) ∧ XfC X.K c ∧ PySem.W.findIn X.K (.ref c) fl = some none
structure PropOk (X : Cx) (fl : Str) (n : Str) (sp : Spd) : Prop where
  ex : ∃ (c q f : Addr) (fd : FuncData) (ps : List Str) (k : Nat), X.mg n = some (.ref c) ∧ L2.Cls X.K c ∧ PropOf X.K c fl q f ∧ FnOk X.prog X.w X.K X.mg X.base (L2N.CX X.prog X.w) k f fd ps (spL (gd X) 1 sp) ∧ Room (k + 1) X.A ∧ Binds X.K fd ps []
structure AtOk (X : Cx) (fl : Str) (At : AT) : Prop where
  c : ∀ n, At (.c n) = some none → FldOk X fl n
  e : ∀ n, At (.e n) = some none → FldEOk X fl n
  p : ∀ t sp, At t = some (some sp) → ∃ n, t = .c n ∧ PropOk X fl n sp
  b : ∀ n, At (.b n) = none
section
variable {X : Cx} {W : WX} {pos p apos : Pos} {e o : Expr} {es : List Expr} {tE : TEd} {tr : TAd}
theorem pins_gd {q : Addr × Obj} (h : q ∈ (gd X).pn) : q ∈ X.pn := pins_of h
theorem de_attr {fl : Str} {At : AT} (he : DE X W e tE) (T : AtOk X fl At) (hb : attributeBase e fl X.env (eval e X.env) = eval e X.env := by rfl) : DE X W (.Attribute e fl pos) (eAttr At fl tE) := by
  refine ⟨fun pins s σ H Q I h => ?_⟩
  obtain ⟨S0, H0, S, ρ, P, Xp, R, h, k, x⟩ := h
  refine attr_of hb (thn (he.run pins s σ H (fun v H1 => ∃ S1 d, Same S1 H1 ∧ Wd S H S1 H1 ∧ Rep (gd X) S1 v d ∧ attrD At fl d P) I ⟨S0, H0, S, ρ, _, Xp, R, h, fun d hd v S1 H1 w1 r1 => ⟨S1, d, w1.sh, w1, r1, hd⟩, x⟩) fun u s1 ⟨v, H1, I1, rv, S1, d, sh, w1, r, q⟩ => ?_)
  unfold attrD at q
  cases hT : (tyG d).bind At with
  | none => rw [hT] at q; exact q.elim
  | some m =>
    rw [hT] at q
    obtain ⟨t, ht, hAt⟩ := Option.bind_eq_some_iff.mp hT
    cases m with
    | none =>
      obtain ⟨y, hy, hP⟩ := q
      cases r with
      | ins hC ea rf =>
        cases ht
        cases rv
        obtain ⟨c, hc, cl, na⟩ := (T.c _ hAt).ex
        have hC' : X.mg _ = some (.ref _) := hC
        rw [hc] at hC'
        cases hC'
        obtain ⟨u, hu, ru⟩ := rf.lookup hy
        exact getattr_ok I1 (sh _ _ ea) cl na hu fun u' s2 I2 ru' => ⟨_, H1, I2, ru', k _ hP _ S1 H1 w1 ru⟩
      | err1 hp hC hc hd hf hx rf =>
        cases ht
        cases rv
        obtain ⟨c, hc', cl, na⟩ := (T.e _ hAt).ex
        have hC' : X.mg _ = some (.ref _) := hC
        rw [hc'] at hC'
        cases hC'
        obtain ⟨v', hv', rv'⟩ := rf.lookup hy
        obtain ⟨ha, _⟩ := I1.pin _ (List.mem_append_left _ (pins_of hp))
        obtain ⟨vs, hvs⟩ := hf
        obtain ⟨mA, hns, hr⟩ := (show ObjOk X.prog X.w H1 s1.heap _ (.xd _) from I1.hok _ _ (sh _ _ hx))
        obtain ⟨od, ho, hl⟩ := lookIn_ns hns
        obtain ⟨u, hu, ru⟩ := RelO.some_of (v := v') (o := mA fl) (by rw [← hv']; exact hr fl)
        have J : PySem.W.InstAt s1.heap _ _ _ (some od) := ⟨ha, hc, by unfold PySem.W.notCls; rw [hvs] <;> rfl, by rw [hd]; exact ho⟩
        exact HandSPX.exc_get I1.kIn J cl.ga cl.gg cl.exC (PySem.W.findObj_own cl.hdC na rfl (by rw [hl, hu])) (handed_of ru) ⟨v', H1, I1.tok _, ru, k _ hP _ S1 H1 w1 rv'⟩
      | err0 => cases hy
      | _ => cases hy
    | some sp =>
      obtain ⟨n, rfl, hp⟩ := T.p _ _ hAt
      obtain ⟨c, q', f, fd, ps, kk, hc, cl, po, F, hr, hb'⟩ := hp.ex
      cases d <;> cases ht
      obtain ⟨a, dx, gs, rfl, ea, rf⟩ := r.ins_at (mg := gd X) hc
      cases rv
      exact getprop_ok (E := E0) (dvs := []) (ds := []) I1 (sh _ _ ea) cl po F hr hb' .nil passN ⟨rfl, S1, _, P, NoX, sh, .one r, q, k.grow w1, fun _ _ h => h.elim⟩
/-! ### methods -/
structure MethRow (X : Cx) (m : Str) (n : Str) (j : Nat) (sp : Spd) : Prop where
  ex : ∃ (c f : Addr) (fd : FuncData) (ps : List Str) (k : Nat), X.mg n = some (.ref c) ∧ L2.Cls X.K c ∧ Meth X.K c m f ∧ FnOk X.prog X.w X.K X.mg X.base (L2N.CX X.prog X.w) k f fd ps (spL (gd X) j sp) ∧ Room k X.A ∧ Binds X.K fd ps []
def methD (T : Str → Option Spd) (m : Str) (d : D) (k : Spd → Prop) : Prop := match d with
  | .ins n fs => ∃ sp, T n = some sp ∧ fs.lookup m = none ∧ k sp
  | _ => False
theorem methD_ins {T : Str → Option Spd} {m n : Str} {fs : List (Str × D)} {k : Spd → Prop} : methD T m (.ins n fs) k = ∃ sp, T n = some sp ∧ fs.lookup m = none ∧ k sp := rfl
def eMethG (T : Str → Option Spd) (m : Str) (j : Nat) (te : TEd) (t : TAd) : TEd := fun ρ P Xp => te ρ (fun d => methD T m d fun sp => t ρ (fun ds => (d :: ds).length = j ∧ sp (d :: ds) P Xp) Xp) Xp
theorem de_methG {pl : Sem Bool} {m : Str} {T : Str → Option Spd} {j : Nat} (he : DE X W o tE) (rows : ∀ n sp, T n = some sp → MethRow X m n j sp) (tk : L2N.Takes X W) (ha : DA X W (e :: es) tr)
    (hst : starEach (e :: es) X.env = (false, eval e X.env) :: starEach es X.env := by rfl) (hpl : (backTo pos (starEach es X.env)).any (·.1) = false := by rfl)
    (ht : eval (.Call (.Attribute o m apos) (e :: es) [] pos) X.env = (do
      let ov ← eval o X.env
      standAt apos.atName
      let (f, first) ← holding [ov] (getMethod ov m pl)
      callWith pos f first (backTo pos (starEach (e :: es) X.env)) (backToKw pos (keywordEach [] X.env))) := by rfl) : DE X W (.Call (.Attribute o m apos) (e :: es) [] pos) (eMethG T m j tE tr) := by
  refine ⟨fun pins s σ H Q I h => ?_⟩
  obtain ⟨S0, H0, S, ρ, P, Xp, R, h, k, x⟩ := h
  refine PySem.W.methodCall_KW (pl := pl) (thn (he.run pins s σ H (fun v H1 => ∃ S1 d, Wd S H S1 H1 ∧ Rep (gd X) S1 v d ∧ methD T m d fun sp => tr ρ (fun ds => (d :: ds).length = j ∧ sp (d :: ds) P Xp) Xp) I ⟨S0, H0, S, ρ, _, Xp, R, h, fun d hd v S1 H1 w1 r1 => ⟨S1, d, w1, r1, hd⟩, x⟩) fun u s1 ⟨v, H1, I1, rv, S1, d, w1, r, q⟩ => ?_) ht
  cases d <;> first | exact q.elim | skip
  obtain ⟨sp, hT, hm, q⟩ := q
  obtain ⟨c, f, fd, ps, kk, hc, cl, me, F, hr, hb'⟩ := (rows _ _ hT).ex
  obtain ⟨a, dx, gs, rfl, ea, rf⟩ := r.ins_at (mg := gd X) hc
  cases rv
  refine getmeth_ok I1 (w1.sh _ _ ea) cl me (rf.lookup_none hm) ?_
  refine PySem.W.callWith_K (first := [.ref a]) (h₀ := X.base) I1.ok.mod.kin me.kp (thn (ha.run pos pins s1 σ H1 (fun vs H2 => ∃ S2 ds, Wd S1 H1 S2 H2 ∧ Reps (gd X) S2 vs ds ∧ (D.ins _ _ :: ds).length = j ∧ sp (D.ins _ _ :: ds) P Xp) I1 ⟨S0, H0, S1, ρ, _, Xp, R.grow w1, q, fun ds hd vs S2 H2 w2 r2 => ⟨S2, ds, w2, r2, hd⟩, x.grow w1⟩) fun us s2 ⟨vs, H2, I2, rus, S2, ds, w2, r2, hl, q2⟩ => ⟨I2.kIn, ?_⟩) hst hpl
  have w := w1.trans w2
  exact run_fnS (us := .ref a :: us) (vs := .ref a :: vs) (E := WE W) F hr hb' (L2N.passAt tk σ) I2 (.cons rfl rus) ⟨by rw [List.length_cons, r2.length]; exact hl, S2, _, P, Xp, w2.sh, .cons (r.mono w2.ss) r2, q2, k.grow w, x.grow w⟩
theorem de_methG0 {pl : Sem Bool} {m : Str} {T : Str → Option Spd} {j : Nat} (he : DE X W o tE) (rows : ∀ n sp, T n = some sp → MethRow X m n j sp) (tk : L2N.Takes X W)
    (ht : eval (.Call (.Attribute o m apos) [] [] pos) X.env = (do
      let ov ← eval o X.env
      standAt apos.atName
      let (f, first) ← holding [ov] (getMethod ov m pl)
      callWith pos f first (backTo pos (starEach [] X.env)) (backToKw pos (keywordEach [] X.env))) := by rfl) : DE X W (.Call (.Attribute o m apos) [] [] pos) (eMethG T m j tE aNil) := by
  refine ⟨fun pins s σ H Q I h => ?_⟩
  obtain ⟨S0, H0, S, ρ, P, Xp, R, h, k, x⟩ := h
  refine PySem.W.methodCall_KW (pl := pl) (thn (he.run pins s σ H (fun v H1 => ∃ S1 d, Wd S H S1 H1 ∧ Rep (gd X) S1 v d ∧ methD T m d fun sp => aNil ρ (fun ds => (d :: ds).length = j ∧ sp (d :: ds) P Xp) Xp) I ⟨S0, H0, S, ρ, _, Xp, R, h, fun d hd v S1 H1 w1 r1 => ⟨S1, d, w1, r1, hd⟩, x⟩) fun u s1 ⟨v, H1, I1, rv, S1, d, w1, r, q⟩ => ?_) ht
  cases d <;> first | exact q.elim | skip
  obtain ⟨sp, hT, hm, q⟩ := q
  obtain ⟨c, f, fd, ps, kk, hc, cl, me, F, hr, hb'⟩ := (rows _ _ hT).ex
  obtain ⟨a, dx, gs, rfl, ea, rf⟩ := r.ins_at (mg := gd X) hc
  cases rv
  refine getmeth_ok I1 (w1.sh _ _ ea) cl me (rf.lookup_none hm) ?_
  refine PySem.W.callWith_K0 (first := [.ref a]) I1.kIn me.kp ?_
  exact run_fnS (us := [.ref a]) (vs := [.ref a]) (E := WE W) F hr hb' (L2N.passAt tk σ) I1 (.cons rfl .nil) ⟨q.1, S1, _, P, Xp, w1.sh, .one r, q.2, k.grow w1, x.grow w1⟩
end
end Z

/-! Z: defs called while an exception is handled; the handled exception may be an argument. -/
namespace Z
open PySem PySem.Spec PyProof.Rows L2
/-- a def's promise at the handled exception p -/
structure FnHp (P : Program) (w : World) (K : PySem.W.Frag) (mg : Str → Option Value) (base : Heap) (CX : CXT) (k : Nat) (f : Addr) (fd : FuncData) (ps : List Str) (sp : Addr × Obj → Sp) : Prop where
  len : ∀ p vs H Q E, sp p vs H Q E → vs.length = ps.length
  run : ∀ (A : Around) (outer : List Env) (s : Shared) (H : Hp) (args : Args) (us : List Value) (vs : List V) (Q : VK) (E : XK) (p : Addr × Obj), L2H.RoomH k A → L2H.Hot1 A p → L2H.PinOk outer H s p → Env0 P w K mg base A outer s H → BindsTo s fd args (ps.zip us) → Vals vs us → sp p vs H Q E →
    codeAny (model P w) A (.call (.ref f) args) (CR CX outer P w H s Q E) s
theorem okHp {CX : CXT} {P : Program} {w : World} {K : PySem.W.Frag} {mg : Str → Option Value} {base : Heap} {x qual : Str} {st : Stmt} {f : Addr} {fd : FuncData} {N ps : List Str} {k : Nat} {sp : Addr × Obj → Sp} (F : Fun K x qual st f fd) (S : FnScope N ps (defScope st)) (len : ∀ p vs H Q E, sp p vs H Q E → vs.length = ps.length)
    (hbody : ∀ (cdv : Value) (A : Around) (outer : List Env) (s : Shared) (H : Hp) (vs : List V) (Q : VK) (E : XK) (p : Addr × Obj), L2H.Hot1 A p → L2H.RoomH k (A.deeper (envOfC qual (defScope st) s.heap.objs.size f cdv)) → sp p vs H Q E →
      ∃ t, PSs (L2H.cxH CX P w K mg base N qual (defScope st) f cdv A outer s H E p) (defBody st) t ∧ t { nx := fun _ H' => Q .non H', rt := Q } (L2.start N vs) H) :
    FnHp P w K mg base CX (k + 1) f fd ps sp := by
  obtain ⟨oc, od, kV, doc, pm, an, cdv, ct, osl, rfl, lk, hcd⟩ := F.ex
  refine ⟨len, fun A outer s H args us vs Q E p hr hot hpin e0 hb r hsp => ?_⟩
  have hl := len p _ _ _ _ hsp
  have KX : K.In s.heap := e0.mod.kin.keeps fun b o e => (e0.bs b o e).1
  have lim : s.heap.NoLimit := e0.mod.nolimit.keeps fun b o e => (e0.bs b o e).1
  have hkind : ∀ y ∈ ps.zip us, (defScope st).names.lookup y.1 = some .local ∨ ((defScope st).names.lookup y.1 = some .cell ∧ ((cellsFrom (s.heap.objs.size + 1) (defScope st).names []).lookup y.1).isSome = true) := fun ⟨n, v⟩ hy => by
    rcases S.par n (List.of_mem_zip hy).1 with q | q
    · exact .inl q
    · exact .inr ⟨q, PySem.W.cellsFrom_some _ _ _ (.inl q)⟩
  refine codeAny_call_function hr.depth (KX _ _ lk) rfl S.co S.gen rfl (PySem.W.codeRec_of KX hcd) (hb _ _ _ _ ?_)
  refine wpAny_newFunctionEnv_cells S.kind hkind fun env he s1 x => ?_
  subst he
  refine ⟨lim.keeps x.toInCall.keep, codeAny_func ?_⟩
  obtain ⟨t, ht, hq⟩ := hbody cdv A outer s H vs Q E p hot (hr.deeper _) hsp
  have I : Inv (L2H.cxH CX P w K mg base N qual (defScope st) f cdv A outer s H E p) [] (L2.start N vs) H s1 := L2H.inv_startH S hpin e0 hl r x
  refine wpAny_mono (ht.run [] s1 (L2.start N vs) H _ I hq) (fun fl s' hs => ?_) fun e s' hs => hs
  have fin : ∀ {σ' : L2.St} {H' : Hp} {v : V} {u : Value}, Inv (L2H.cxH CX P w K mg base N qual (defScope st) f cdv A outer s H E p) [] σ' H' s' → RelV v u → Q v H' → CE outer P w H s Q u s' :=
    fun {σ' H' v u} J rv q => ⟨v, H', J.os, J.bare, J.base, J.hok, rv, q⟩
  cases fl with
  | ret u =>
    obtain ⟨v, σ', H', J, rv, q⟩ := hs
    exact fin J rv q
  | next =>
    obtain ⟨σ', H', J, q⟩ := hs
    exact fin (v := V.non) (u := Value.none) J rfl q
  | brk =>
    obtain ⟨_, _, _, q⟩ := hs
    exact False.elim q
  | cont =>
    obtain ⟨_, _, _, q⟩ := hs
    exact False.elim q
/-- the promises, told of data -/
def spLp (K : PySem.W.Frag) (mg : Str → Option Value) (n : Nat) (sp : Spd) : Addr × Obj → Sp := fun p => spL ⟨K, mg, [p]⟩ n sp
section
variable {X : Cx} {W : WX} {x : Str} {pos q : Pos} {e : Expr} {es : List Expr} {tr : TAd} {k : Nat} {f : Addr} {fd : FuncData} {ps : List Str}
theorem run_fnHp {CX : CXT} {sp : Addr × Obj → Sp} {E : L2.St → XK} {p : Addr × Obj} {pins : List (Addr × Obj)} {σ : L2.St} {H : Hp} {s : Shared} {Q : VK} {us : List Value} {vs : List V} (F : FnHp X.prog X.w X.K X.mg X.base CX k f fd ps sp) (hr : L2H.RoomH k X.A) (hot : L2H.Hot1 X.A p) (hp : p ∈ X.pn) (hb : Binds X.K fd ps []) (hx : PassesAt CX X σ (E σ))
    (I : Inv X pins σ H s) (r : Vals vs us) (h : sp p vs H Q (E σ)) : wpAny (model X.prog X.w) X.A (call (.ref f) us) (EP X pins σ Q) X.xe s := by
  have hl : us.length = ps.length := by rw [← r.length]; exact F.len p _ _ _ _ h
  have b := hb s us I.kIn (by rw [List.append_nil]; exact hl)
  rw [List.append_nil] at b
  have P1 := I.pin p (List.mem_append_left _ hp)
  have hpin : L2H.PinOk X.stack H s p := ⟨P1.1, P1.2.1, fun hm => (List.mem_cons.mp (I.stkSub p.1 hm)).elim P1.2.2.1 P1.2.2.2.1, P1.2.2.2.2⟩
  refine wpAny_call (codeAny_mono (F.run X.A X.stack s H ⟨us, []⟩ us vs Q (E σ) p hr hot hpin I.env0 b r h) fun r s' hq => ?_)
  cases r with
  | error e => exact hx pins H s e s' I hq
  | ok fl =>
    cases fl with
    | ret u => exact I.after hq
    | next => exact False.elim hq
    | brk => exact False.elim hq
    | cont => exact False.elim hq
theorem de_callHp {sp : Spd} {n : Nat} (F : FnHp X.prog X.w X.K X.mg X.base (L2N.CX X.prog X.w) k f fd ps (spLp X.K X.mg n sp)) (hr : L2H.RoomH k X.A) (hot : HotP X) (hg : Gl X x) (hm : X.mg x = some (.ref f)) (hk : PySem.W.keepIn X.K (.ref f) = true) (hb : Binds X.K fd ps []) (tk : L2N.Takes X W)
    (ha : DA X W (e :: es) tr) (hdb : (x == ("__debug__" : Str)) = false := by decide) (he : starEach (e :: es) X.env = (false, eval e X.env) :: starEach es X.env := by rfl) (hpl : (backTo pos (starEach es X.env)).any (·.1) = false := by rfl) :
    DE X W (.Call (.Name x q) (e :: es) [] pos) (eCall n sp tr) := by
  refine ⟨fun pins s σ H Q I h => ?_⟩
  obtain ⟨S0, H0, S, ρ, P, Xp, R, h, kk, xx⟩ := h
  obtain ⟨p, hot, hp, hgd⟩ := hot.ex
  refine wpAny_Call_Name_kw (ld_glob I hg hm ?_ hdb)
  refine PySem.W.callWith_K (h₀ := X.base) I.ok.mod.kin hk (thn (ha.run pos pins s σ H (fun vs H2 => ∃ S2 ds, Wd S H S2 H2 ∧ Reps (gd X) S2 vs ds ∧ ds.length = n ∧ sp ds P Xp) I ⟨S0, H0, S, ρ, _, Xp, R, h, fun ds hd vs S2 H2 w2 r2 => ⟨S2, ds, w2, r2, hd⟩, xx⟩) fun us s1 ⟨vs, H1, I1, r, S2, ds, w, rds, hl, hsp⟩ => ⟨I1.kIn, ?_⟩) he hpl
  refine run_fnHp (E := WE W) F hr hot hp hb (L2N.passAt tk σ) I1 r ?_
  have kv := kk.grow w
  have kx := xx.grow w
  unfold spLp
  rw [hgd] at rds kv kx
  exact ⟨rds.length.trans hl, S2, ds, P, Xp, w.sh, rds, hsp, kv, kx⟩
end
theorem ok_defHp {P : Program} {w : World} {K : PySem.W.Frag} {mg : Str → Option Value} {base : Heap} {x qual : Str} {st : Stmt} {f : Addr} {fd : FuncData} {N ps : List Str} {k : Nat} {sp : Spd} {t : TSd} (F : Fun K x qual st f fd) (S : FnScope N ps (defScope st))
    (body : ∀ (cdv : Value) (A : Around) (outer : List Env) (s : Shared) (H : Hp) (E : XK) (W : WX) (p : Addr × Obj), HotP (L2H.cxH (L2N.CX P w) P w K mg base N qual (defScope st) f cdv A outer s H E p) → L2H.RoomH k (A.deeper (envOfC qual (defScope st) s.heap.objs.size f cdv)) → (∀ c d σ H, W c d σ H = E c d H) →
      L2N.Takes (L2H.cxH (L2N.CX P w) P w K mg base N qual (defScope st) f cdv A outer s H E p) W → DSs (L2H.cxH (L2N.CX P w) P w K mg base N qual (defScope st) f cdv A outer s H E p) W (defBody st) t)
    (pure : ∀ ds Q Xp, ds.length = ps.length → sp ds Q Xp → t { nx := fun _ => Q .non, rt := Q, ro := fun o => Q o.d, xc := fun C fs _ => Xp C fs } (startD N.length ds)) :
    FnHp P w K mg base (L2N.CX P w) (k + 1) f fd ps (spLp K mg ps.length sp) := by
  refine okHp F S (fun p vs H Q E h => h.1) (fun cdv A outer s H vs Q E p hot hr h => ?_)
  obtain ⟨hl, S1, ds, P1, Xp, sh, r, hsp, kv, kx⟩ := h
  have tk : L2N.Takes (L2H.cxH (L2N.CX P w) P w K mg base N qual (defScope st) f cdv A outer s H E p) (fun c d _ H => E c d H) := L2N.takes_of rfl rfl rfl rfl
  refine ⟨_, body cdv A outer s H E _ p ⟨p, hot, List.mem_cons_self, rfl⟩ hr (fun _ _ _ _ => rfl) tk, S1, H, S1, _, _, RE.start sh r, pure ds P1 Xp (by rw [← r.length]; exact hl) hsp, ?_⟩
  exact { nx := fun ρ' h' σ' S' H' R' _ => kv _ h' _ S' H' R'.wd .non,
          rt := fun d hd v S' H' w' r' => kv d hd v S' H' w' r',
          ro := fun o ho p S' H' w' hp ow => kv _ ho _ _ _ (w'.frzs hp) (ow.rep (frzS_ss fun q hq => (hp q hq).2) fun q hq => frzS_in hq),
          bk := fun _ h => h.elim, ct := fun _ h => h.elim,
          xc := fun C fs ρ' h' c d' σ' S' H' e R' rx _ => kx C fs h' c d' S' H' e R'.wd rx }
/-- no promise at all -/
theorem ok_false {P : Program} {w : World} {K : PySem.W.Frag} {mg : Str → Option Value} {base : Heap} {CX : CXT} {k : Nat} {f : Addr} {fd : FuncData} {ps : List Str} {m : Mg} {n : Nat} : FnOk P w K mg base CX k f fd ps (spL m n fun _ _ _ => False) where
  len := fun _ _ _ _ h => by obtain ⟨_, _, _, _, _, _, _, h, _⟩ := h; exact h.elim
  run := fun _ _ _ _ _ _ _ _ _ _ _ _ _ h => by obtain ⟨_, _, _, _, _, _, _, h, _⟩ := h; exact h.elim
end Z

/-! list(zip(a, b)) of two tuples: the zip's turns while each tuple that it gave out is kept. -/
namespace RZH
open PySem PySem.W PySem.Spec
open PySem.Sem (wp)
section
variable {prog : Program} {w : World} {A : Around} {E : Value → Shared → Prop} {s : Shared}
theorem zipT_next_item_held {z TI TO T i1 i2 l1 l2 : Addr} {f : Bool} {oT : Obj} {k1 k2 : Nat} {xs ys : Array Value} {x y : Value} {Q : Value → Shared → Prop} (D : ZipApart z TI TO i1 i2 l1 l2)
    (hz : IsZipHeld s.heap z TI TO T f) (hT : s.heap.get? T = some oT) (hTI : IsPair s.heap TI (.ref i1) (.ref i2))
    (h1 : s.heap.IsTupleIter i1 l1 k1) (h2 : s.heap.IsTupleIter i2 l2 k2) (hl1 : s.heap.IsTuple l1 xs) (hl2 : s.heap.IsTuple l2 ys) (hx : xs[k1]? = some x) (hy : ys[k2]? = some y)
    (hQ : ∀ h', IsZipHeld h' z TI TO T true → h'.IsTupleIter i1 l1 (k1 + 1) → h'.IsTupleIter i2 l2 (k2 + 1) → IsPair h' s.heap.objs.size x y → h'.objs.size = s.heap.objs.size + 1 →
      (∀ c o, c ≠ z → c ≠ i1 → c ≠ i2 → s.heap.get? c = some o → h'.get? c = some o) → Q (.ref s.heap.objs.size) { s with heap := h' }) :
    wpAny (model prog w) A (Builtin.«zip.__next__» ⟨[.ref z], []⟩) (fun fin s' => ∃ v, fin = .done (.ret v) ∧ Q v s') E s := by
  show wpAny _ _ (field (.ref z) 2 >>= _) _ _ _
  refine wpAny_bind (wpAny_field hz rfl (x := .bool false) rfl ?_)
  show wpAny _ _ (field (.ref z) 3 >>= _) _ _ _
  refine wpAny_bind (wpAny_field hz rfl (x := .ref TI) rfl ?_)
  refine wpAny_bind (wpAny_seqItems hTI rfl ?_)
  show wpAny _ _ (Builtin.SmallTypes.ownedTupleIsFree (.ref z) >>= _) _ _ _
  refine wpAny_bind (wpAny_tupleHeld_zip hz hT fun h₁ hz₁ hs₁ => ?_)
  simp only [Bool.false_eq_true, if_false]
  refine wpAny_bind ?_
  rw [← Array.forIn_toList]
  simp only [List.forIn_cons, List.forIn_nil]
  refine wpAny_bind (wpAny_bind (wpAny_holding ?_))
  show wpAny _ _ (Builtin.SmallTypes.nextOf (.ref i1) >>= _) _ _ _
  refine wpAny_bind (RZ.nextOf_tuple_item (s := { s with heap := h₁ }) (h1.extBut hs₁.extBut D.i1z) (hl1.extBut hs₁.extBut D.l1z) hx fun h₂ h1₂ hs₂ => wpAny_pure ?_)
  refine wpAny_pure ?_
  refine wpAny_bind (wpAny_bind (wpAny_holding ?_))
  show wpAny _ _ (Builtin.SmallTypes.nextOf (.ref i2) >>= _) _ _ _
  refine wpAny_bind (RZ.nextOf_tuple_item (s := { s with heap := h₂ }) ((h2.extBut hs₁.extBut D.i2z).extBut hs₂.extBut D.i12.symm) ((hl2.extBut hs₁.extBut D.l2z).extBut hs₂.extBut D.l2i1) hy fun h₃ h2₃ hs₃ => wpAny_pure ?_)
  refine wpAny_pure (wpAny_pure ?_)
  show wpAny _ _ (newTuple [x, y] >>= _) _ _ _
  refine wpAny_bind (wpAny_newTuple ?_)
  have hsz : h₃.objs.size = s.heap.objs.size := by rw [hs₃.1, hs₂.1, hs₁.1]
  have hz₃ : IsZipHeld h₃ z TI TO T true := hs₃.extBut _ _ D.i2z.symm (hs₂.extBut _ _ D.i1z.symm hz₁)
  have hk : ∀ c o, c ≠ z → c ≠ i1 → c ≠ i2 → s.heap.get? c = some o → h₃.get? c = some o := fun c o c1 c2 c3 e => hs₃.extBut _ _ c3 (hs₂.extBut _ _ c2 (hs₁.extBut _ _ c1 e))
  have h1₃ : h₃.IsTupleIter i1 l1 (k1 + 1) := h1₂.extBut hs₃.extBut D.i12
  refine wpAny_pure ⟨_, rfl, ?_⟩
  show Q (.ref h₃.objs.size) _
  have hp : IsPair (h₃.push { cls := .type "tuple", data := .seq #[x, y] }) h₃.objs.size x y := Heap.get?_push_size _ rfl
  have hz4 : (h₃.push { cls := .type "tuple", data := .seq #[x, y] }).objs.size = h₃.objs.size + 1 := Heap.size_push ..
  rw [hsz] at hp hz4 ⊢
  exact hQ _ (Heap.get?_push_of_some _ hz₃) (h1₃.at fun o e => Heap.get?_push_of_some _ e) (h2₃.at fun o e => Heap.get?_push_of_some _ e) hp hz4 fun c o c1 c2 c3 e => Heap.get?_push_of_some _ (hk c o c1 c2 c3 e)
theorem zipT_next_end_held {z TI TO T i1 i2 l1 l2 : Addr} {f : Bool} {oT : Obj} {k1 k2 : Nat} {xs ys : Array Value} {Q : Fin → Shared → Prop} (hh : A.handled = none) (D : ZipApart z TI TO i1 i2 l1 l2)
    (hz : IsZipHeld s.heap z TI TO T f) (hT : s.heap.get? T = some oT) (hTI : IsPair s.heap TI (.ref i1) (.ref i2))
    (h1 : s.heap.IsTupleIter i1 l1 k1) (h2 : s.heap.IsTupleIter i2 l2 k2) (hl1 : s.heap.IsTuple l1 xs) (hl2 : s.heap.IsTuple l2 ys) (hend : xs[k1]? = none ∨ ys[k2]? = none)
    (hE : ∀ h' e, (∀ c o, c ≠ z → c ≠ i1 → c ≠ i2 → s.heap.get? c = some o → h'.get? c = some o) → (∃ o, h'.get? e = some o ∧ o.cls = .type "StopIteration") → E (.ref e) { s with heap := h' }) :
    wpAny (model prog w) A (Builtin.«zip.__next__» ⟨[.ref z], []⟩) Q E s := by
  show wpAny _ _ (field (.ref z) 2 >>= _) _ _ _
  refine wpAny_bind (wpAny_field hz rfl (x := .bool false) rfl ?_)
  show wpAny _ _ (field (.ref z) 3 >>= _) _ _ _
  refine wpAny_bind (wpAny_field hz rfl (x := .ref TI) rfl ?_)
  refine wpAny_bind (wpAny_seqItems hTI rfl ?_)
  show wpAny _ _ (Builtin.SmallTypes.ownedTupleIsFree (.ref z) >>= _) _ _ _
  refine wpAny_bind (wpAny_tupleHeld_zip hz hT fun h₁ hz₁ hs₁ => ?_)
  simp only [Bool.false_eq_true, if_false]
  refine wpAny_bind ?_
  rw [← Array.forIn_toList]
  simp only [List.forIn_cons, List.forIn_nil]
  refine wpAny_bind (wpAny_bind (wpAny_holding ?_))
  show wpAny _ _ (Builtin.SmallTypes.nextOf (.ref i1) >>= _) _ _ _
  cases hx : xs[k1]? with
  | none =>
    refine wpAny_bind (RZ.nextOf_tuple_end (s := { s with heap := h₁ }) hh (h1.extBut hs₁.extBut D.i1z) (hl1.extBut hs₁.extBut D.l1z) hx fun h₂ e hs₂ he => ?_)
    exact hE h₂ e (fun c o c1 c2 _ x => hs₂ _ _ c2 (hs₁.extBut _ _ c1 x)) he
  | some x =>
    have hy : ys[k2]? = none := by rcases hend with h | h; rw [hx] at h; cases h; exact h
    refine wpAny_bind (RZ.nextOf_tuple_item (s := { s with heap := h₁ }) (h1.extBut hs₁.extBut D.i1z) (hl1.extBut hs₁.extBut D.l1z) hx fun h₂ h1₂ hs₂ => wpAny_pure ?_)
    refine wpAny_pure ?_
    refine wpAny_bind (wpAny_bind (wpAny_holding ?_))
    show wpAny _ _ (Builtin.SmallTypes.nextOf (.ref i2) >>= _) _ _ _
    refine wpAny_bind (RZ.nextOf_tuple_end (s := { s with heap := h₂ }) hh ((h2.extBut hs₁.extBut D.i2z).extBut hs₂.extBut D.i12.symm) ((hl2.extBut hs₁.extBut D.l2z).extBut hs₂.extBut D.l2i1) hy fun h₃ e hs₃ he => ?_)
    exact hE h₃ e (fun c o c1 c2 c3 x => hs₃ _ _ c3 (hs₂.extBut _ _ c2 (hs₁.extBut _ _ c1 x))) he
theorem pyNext_held_item {z TI TO T i1 i2 l1 l2 : Addr} {f : Bool} {oT : Obj} {k1 k2 : Nat} {xs ys : Array Value} {x y : Value} {Q : Option Value → Shared → Prop} (D : ZipApart z TI TO i1 i2 l1 l2)
    (hz : IsZipHeld s.heap z TI TO T f) (hT : s.heap.get? T = some oT) (hTI : IsPair s.heap TI (.ref i1) (.ref i2))
    (h1 : s.heap.IsTupleIter i1 l1 k1) (h2 : s.heap.IsTupleIter i2 l2 k2) (hl1 : s.heap.IsTuple l1 xs) (hl2 : s.heap.IsTuple l2 ys) (hx : xs[k1]? = some x) (hy : ys[k2]? = some y)
    (hQ : ∀ h', IsZipHeld h' z TI TO T true → h'.IsTupleIter i1 l1 (k1 + 1) → h'.IsTupleIter i2 l2 (k2 + 1) → IsPair h' s.heap.objs.size x y → h'.objs.size = s.heap.objs.size + 1 →
      (∀ c o, c ≠ z → c ≠ i1 → c ≠ i2 → s.heap.get? c = some o → h'.get? c = some o) → Q (some (.ref s.heap.objs.size)) { s with heap := h' }) :
    wpAny (model prog w) A (pyNext (.ref z)) Q E s := by
  have hTy : s.TypeIs (.ref z) "zip" := ⟨_, hz, rfl⟩
  unfold pyNext
  exact wpAny_bind (wpAny_attempt (wpAny_callSpecial?_slot (name := Str.ofString "__next__") hTy F.slot_zip_next
    (wpAny_call_entry F.slot_zip_next hTy F.entry_zip_next
      (zipT_next_item_held D hz hT hTI h1 h2 hl1 hl2 hx hy fun h' a1 a3 a4 a5 a6 a7 => wpAny_pure (hQ h' a1 a3 a4 a5 a6 a7)) (F.args_zip_next_1 _))))
theorem pyNext_held_end {z TI TO T i1 i2 l1 l2 : Addr} {f : Bool} {oT : Obj} {k1 k2 : Nat} {xs ys : Array Value} {Q : Option Value → Shared → Prop} (hh : A.handled = none) (D : ZipApart z TI TO i1 i2 l1 l2)
    (hz : IsZipHeld s.heap z TI TO T f) (hT : s.heap.get? T = some oT) (hTI : IsPair s.heap TI (.ref i1) (.ref i2))
    (h1 : s.heap.IsTupleIter i1 l1 k1) (h2 : s.heap.IsTupleIter i2 l2 k2) (hl1 : s.heap.IsTuple l1 xs) (hl2 : s.heap.IsTuple l2 ys) (hend : xs[k1]? = none ∨ ys[k2]? = none)
    (hQ : ∀ h', (∀ c o, c ≠ z → c ≠ i1 → c ≠ i2 → s.heap.get? c = some o → h'.get? c = some o) → Q none { s with heap := h' }) : wpAny (model prog w) A (pyNext (.ref z)) Q E s := by
  have hTy : s.TypeIs (.ref z) "zip" := ⟨_, hz, rfl⟩
  unfold pyNext
  refine wpAny_bind (wpAny_attempt (wpAny_callSpecial?_slot (name := Str.ofString "__next__") hTy F.slot_zip_next
    (wpAny_call_entry F.slot_zip_next hTy F.entry_zip_next (zipT_next_end_held hh D hz hT hTI h1 h2 hl1 hl2 hend fun h' e hk he => ?_) (F.args_zip_next_1 _))))
  obtain ⟨o, ho, hc⟩ := he
  refine wpAny_bind (wpAny_isInstance (T := "StopIteration") (b := true) ⟨o, ho, hc⟩ isSubtype_stop ?_)
  exact wpAny_pure (hQ _ hk)
end
end RZH
namespace Z
open PySem PySem.W PySem.Spec PyProof.Rows L2
/-- the zip at z, at its k-th turn -/
def ZSt (H : Hp) (h : Heap) (z TI TO i1 i2 l1 l2 : Addr) (k : Nat) : Prop :=
  IsPair h TI (.ref i1) (.ref i2) ∧ h.IsTupleIter i1 l1 k ∧ h.IsTupleIter i2 l2 k ∧ (∃ o, h.get? TO = some o) ∧ ((IsZip h z TI TO .none ∧ ∃ a b, IsPair h TO a b) ∨ ∃ T f xs, IsZipHeld h z TI TO T f ∧ H T = some (.tup xs))
/-- what the list at q holds at each turn -/
structure ZRun (K : PySem.W.Frag) (q a b : Addr) (xs ys : List V) (P : Nat → List V → Hp → Prop) : Prop where
  at_ : ∀ k acc H, P k acc H → H q = some (.lst acc) ∧ acc.length = k ∧ SqT K H a xs ∧ SqT K H b ys
  step : ∀ k acc H x y T, P k acc H → xs[k]? = some x → ys[k]? = some y → H T = none → P (k + 1) (acc ++ [.ref T]) (upd (upd H T (.tup [x, y])) q (.lst (acc ++ [.ref T])))
section
variable {X : Cx} {pins : List (Addr × Obj)} {σ : L2.St} {q z TI TO i1 i2 a b : Addr} {xs ys : List V} {P : Nat → List V → Hp → Prop} {Rs : Result → Shared → Prop} {A1 : Around}
theorem zip_loop (hh : A1.in1.handled = none) (D : ZipApart z TI TO i1 i2 a b) (R : ZRun X.K q a b xs ys P) (hdone : ∀ k acc H s, Inv X pins σ H s → P k acc H → (xs.length ≤ k ∨ ys.length ≤ k) → Rs (.ok (.ret .none)) s) :
    ∀ (m k : Nat) (acc : List V) (H : Hp) (s : Shared), xs.length - k = m → Inv X pins σ H s → (∀ c ∈ [z, TI, TO, i1, i2], FpOk X pins H c) → ZSt H s.heap z TI TO i1 i2 a b k → P k acc H → codeAny (model X.prog X.w) A1 (.builtin "list.extend.loop" ⟨[.ref q, .ref z, .none], []⟩) Rs s := by
  intro m
  induction m with
  | zero =>
    intro k acc H s hm I hf hst hP
    obtain ⟨hq, hl, hqx, hqy⟩ := R.at_ _ _ _ hP
    obtain ⟨its, rv, p, _⟩ := I.tuple hqx
    obtain ⟨its2, rv2, p2, _⟩ := I.tuple hqy
    refine codeAny_builtin PySem.F.entry_extend_loop ?_
    rw [Around.under_plainId PySem.F.plain_extend_loop _]
    show wpAny _ A1.in1 (pyNext (.ref z) >>= _) _ _ s
    obtain ⟨hTI, h1, h2, hTOa, hz⟩ := hst
    have hend : its.toArray[k]? = none ∨ its2.toArray[k]? = none := .inl (by have := rv.length; simp; omega)
    rcases hz with ⟨hz, x0, y0, hTO⟩ | ⟨T, f, ws, hz, hT⟩
    · refine wpAny_bind (RZ.pyNext_zipT_end hh D hz hTI hTO h1 h2 p p2 hend fun h' hk => ?_)
      exact wpAny_pure (hdone k acc H _ (I.turnedL (t' := s.toks) (ch := [z, TI, TO, i1, i2]) (fun c o hb q => hk c o (fun q' => hb (by simp [q'])) (fun q' => hb (by simp [q'])) (fun q' => hb (by simp [q'])) (fun q' => hb (by simp [q'])) q) hf) hP (.inl (by omega)))
    · obtain ⟨_, _, _, oT, hoT, _⟩ := (show ObjOk X.prog X.w H s.heap T (.tup ws) from I.hok T _ hT)
      refine wpAny_bind (RZH.pyNext_held_end hh D hz hoT hTI h1 h2 p p2 hend fun h' hk => ?_)
      exact wpAny_pure (hdone k acc H _ (I.turnedL (t' := s.toks) (ch := [z, TI, TO, i1, i2]) (fun c o hb q => hk c o (fun q' => hb (by simp [q'])) (fun q' => hb (by simp [q'])) (fun q' => hb (by simp [q'])) q) hf) hP (.inl (by omega)))
  | succ m ih =>
    intro k acc H s hm I hf hst hP
    obtain ⟨hq, hl, hqx, hqy⟩ := R.at_ _ _ _ hP
    obtain ⟨its, rv, p, hsz1⟩ := I.tuple hqx
    obtain ⟨its2, rv2, p2, _⟩ := I.tuple hqy
    refine codeAny_builtin PySem.F.entry_extend_loop ?_
    rw [Around.under_plainId PySem.F.plain_extend_loop _]
    show wpAny _ A1.in1 (pyNext (.ref z) >>= _) _ _ s
    obtain ⟨hTI, h1, h2, hTOa, hz⟩ := hst
    by_cases hy : ys.length ≤ k
    · have hend : its.toArray[k]? = none ∨ its2.toArray[k]? = none := .inr (by have := rv2.length; simp; omega)
      rcases hz with ⟨hz, x0, y0, hTO⟩ | ⟨T, f, ws, hz, hT⟩
      · refine wpAny_bind (RZ.pyNext_zipT_end hh D hz hTI hTO h1 h2 p p2 hend fun h' hk => ?_)
        exact wpAny_pure (hdone k acc H _ (I.turnedL (t' := s.toks) (ch := [z, TI, TO, i1, i2]) (fun c o hb q => hk c o (fun q' => hb (by simp [q'])) (fun q' => hb (by simp [q'])) (fun q' => hb (by simp [q'])) (fun q' => hb (by simp [q'])) q) hf) hP (.inr hy))
      · obtain ⟨_, _, _, oT, hoT, _⟩ := (show ObjOk X.prog X.w H s.heap T (.tup ws) from I.hok T _ hT)
        refine wpAny_bind (RZH.pyNext_held_end hh D hz hoT hTI h1 h2 p p2 hend fun h' hk => ?_)
        exact wpAny_pure (hdone k acc H _ (I.turnedL (t' := s.toks) (ch := [z, TI, TO, i1, i2]) (fun c o hb q => hk c o (fun q' => hb (by simp [q'])) (fun q' => hb (by simp [q'])) (fun q' => hb (by simp [q'])) q) hf) hP (.inr hy))
    · have hkx : k < xs.length := by omega
      have hky : k < ys.length := by omega
      obtain ⟨u, hu, ru⟩ := rv.get (List.getElem?_eq_getElem hkx)
      obtain ⟨u2, hu2, ru2⟩ := rv2.get (List.getElem?_eq_getElem hky)
      have hacc : acc.length < sizeLine := by omega
      have hS : H s.heap.objs.size = none := I.hok.fresh (Nat.le_refl _)
      have hqS : q ≠ s.heap.objs.size := ne_of_none hq hS
      have hP' := R.step k acc H _ _ s.heap.objs.size hP (List.getElem?_eq_getElem hkx) (List.getElem?_eq_getElem hky) hS
      have hql : ∀ c ∈ [z, TI, TO, i1, i2], c ≠ q := fun c hc e => by
        have e1 := (hf c hc).1
        rw [e, hq] at e1; cases e1
      -- behind the draw: the tuple is laid and put into the list
      have fin : ∀ h' : Heap, IsPair h' s.heap.objs.size u u2 → (∀ c o, c ∉ [z, TI, TO, i1, i2] → s.heap.get? c = some o → h'.get? c = some o) → IsPair h' TI (.ref i1) (.ref i2) → h'.IsTupleIter i1 a (k + 1) → h'.IsTupleIter i2 b (k + 1) → (∃ o, h'.get? TO = some o) →
          (∃ f T ws, IsZipHeld h' z TI TO T f ∧ upd H s.heap.objs.size (.tup [xs[k], ys[k]]) T = some (.tup ws)) →
          wpAny (model X.prog X.w) A1.in1 (do updateSeq q (·.push (.ref s.heap.objs.size)); again (.builtin "list.extend.loop" ⟨[.ref q, .ref z, .none], []⟩)) (fun fin s' => match fin with | .done f => Rs (.ok f) s' | .again c' => c'.quiet = true ∧ codeAny (model X.prog X.w) A1 c' Rs s') (fun e s' => Rs (.error e) s') { s with heap := h' } := by
        intro h' hT hk hTI' h1' h2' hTO' hzz
        have new : ObjOk X.prog X.w (upd H s.heap.objs.size (.tup [xs[k], ys[k]])) h' s.heap.objs.size (.tup [xs[k], ys[k]]) :=
          ⟨by show 2 ≤ sizeLine; decide, [u, u2], .cons ru (.cons ru2 .nil), ⟨_, hT, rfl, _, rfl⟩⟩
        have I1 : Inv X pins σ (upd H s.heap.objs.size (.tup [xs[k], ys[k]])) { s with heap := h' } := I.turnedNew (t' := s.toks) (ch := [z, TI, TO, i1, i2]) hk hf (Nat.le_refl _) new
        have hq1 : upd H s.heap.objs.size (.tup [xs[k], ys[k]]) q = some (.lst acc) := by rw [upd_ne hqS]; exact hq
        obtain ⟨z3, itl, n3, r3, hl3, e3⟩ := I1.lstM hq1
        refine wpAny_bind (wpAny_updateSeq e3 rfl (wpAny_pure ⟨plainId_quiet PySem.F.plain_extend_loop _, ?_⟩) (by rw [List.size_toArray]; omega) (by show (itl.toArray.push (Value.ref s.heap.objs.size)).size ≤ sizeLine + 1; rw [Array.size_push, List.size_toArray]; omega))
        have I2 := I1.lset (f := (·.push (Value.ref s.heap.objs.size))) (its' := itl ++ [Value.ref s.heap.objs.size]) (ys := acc ++ [V.ref s.heap.objs.size]) (t' := s.toks) hq1 e3 (by simp) (r3.append (.cons rfl .nil)) (by rw [List.length_append, List.length_singleton]; omega)
        have oth : ∀ c o, c ≠ q → h'.get? c = some o → (h'.update q (Obj.mapSeq (·.push (Value.ref s.heap.objs.size)))).get? c = some o := fun c o hc e => (Heap.get?_update_other _ _ (Ne.symm hc)).trans e
        have alive : ∀ c ∈ [z, TI, TO, i1, i2], c ≠ s.heap.objs.size := fun c hc e => by
          have : ∃ o, s.heap.get? c = some o := by
            have e' : c = z ∨ c = TI ∨ c = TO ∨ c = i1 ∨ c = i2 := by simpa using hc
            rcases e' with r | r | r | r | r
            · rw [r]
              rcases hz with ⟨hz, _⟩ | ⟨T, f, ws, hz, _⟩
              · exact ⟨_, hz⟩
              · exact ⟨_, hz⟩
            · rw [r]; exact ⟨_, hTI⟩
            · rw [r]; exact hTOa
            · rw [r]; obtain ⟨o, e, _⟩ := h1; exact ⟨o, e⟩
            · rw [r]; obtain ⟨o, e, _⟩ := h2; exact ⟨o, e⟩
          obtain ⟨o, ho⟩ := this
          exact absurd e (Nat.ne_of_lt (Heap.lt_size ho))
        refine ih (k + 1) _ _ _ (by omega) I2 (fun c hc => ?_) ⟨oth _ _ (hql TI (by simp)) hTI', h1'.at fun o e => oth _ _ (hql i1 (by simp)) e, h2'.at fun o e => oth _ _ (hql i2 (by simp)) e, hTO'.imp fun o e => oth _ _ (hql TO (by simp)) e, .inr ?_⟩ hP'
        · obtain ⟨f0, f1, f2, f3, f4, f5⟩ := hf c hc
          exact ⟨by rw [upd_ne (hql c hc), upd_ne (alive c hc)]; exact f0, f1, f2, f3, f4, f5⟩
        · obtain ⟨f, T, ws, hz', hT'⟩ := hzz
          refine ⟨T, f, ws, oth _ _ (hql z (by simp)) hz', ?_⟩
          have : T ≠ q := fun e => by rw [e, hq1] at hT'; cases hT'
          rw [upd_ne this]; exact hT'
      rcases hz with ⟨hz, x0, y0, hTO⟩ | ⟨T, f, ws, hz, hT⟩
      · refine wpAny_bind (RZ.pyNext_zipT_item D hz hTI hTO h1 h2 p p2 (x := u) (y := u2) (by simpa using hu) (by simpa using hu2) fun h' z' TO' h1' h2' hT hsz hk => ?_)
        exact fin h' hT (fun c o hc e => hk c o (fun q' => hc (by simp [q'])) (fun q' => hc (by simp [q'])) (fun q' => hc (by simp [q'])) (fun q' => hc (by simp [q'])) e) (hk _ _ D.TIz D.TITO D.TIi1 D.TIi2 hTI) h1' h2' ⟨_, TO'⟩ ⟨false, s.heap.objs.size, _, z', upd_same⟩
      · obtain ⟨_, _, _, oT, hoT, _⟩ := (show ObjOk X.prog X.w H s.heap T (.tup ws) from I.hok T _ hT)
        refine wpAny_bind (RZH.pyNext_held_item D hz hoT hTI h1 h2 p p2 (x := u) (y := u2) (by simpa using hu) (by simpa using hu2) fun h' z' h1' h2' hT' hsz hk => ?_)
        exact fin h' hT' (fun c o hc e => hk c o (fun q' => hc (by simp [q'])) (fun q' => hc (by simp [q'])) (fun q' => hc (by simp [q'])) e) (hk _ _ D.TIz D.TIi1 D.TIi2 hTI) h1' h2' (hTOa.imp fun o e => hk _ o D.TOz D.TOi1 D.TOi2 e) ⟨true, T, ws, z', by rw [upd_ne (ne_of_none hT hS)]; exact hT⟩
/-- list(zip(e, e2)) of two tuples -/
def tListZip (K : PySem.W.Frag) (ta : TA) : TE := fun σ H Q => ta σ H fun vs H1 => ∃ (a b : Addr) (xs ys : List V), vs = [.ref a, .ref b] ∧ SqT K H1 a xs ∧ SqT K H1 b ys ∧
  ∀ q, H1 q = none → ∃ P : Nat → List V → Hp → Prop, P 0 [] (upd H1 q (.lst [])) ∧ ZRun K q a b xs ys P ∧ ∀ k acc H', P k acc H' → (xs.length ≤ k ∨ ys.length ≤ k) → Q (.ref q) H'
theorem nolen_zip : typeLookup (.type "zip") "__len__" = pure none := am_miss_of_fast (by decide +kernel)
theorem nohint_zip : typeLookup (.type "zip") "__length_hint__" = pure none := am_miss_of_fast (by decide +kernel)
theorem pe_listZip {e e2 : Expr} {ta : TA} {p p2 pos zpos : Pos} (hc : X.calm = true) (hg : Gl X "list") (hm : X.mg "list" = none) (hg2 : Gl X "zip") (hm2 : X.mg "zip" = none) (ha : PA X [e, e2] ta)
    (hs0 : starEach [.Call (.Name "zip" p2) [e, e2] [] zpos] X.env = (false, eval (.Call (.Name "zip" p2) [e, e2] [] zpos) X.env) :: starEach [] X.env := by rfl)
    (hs : starEach [e, e2] X.env = (false, eval e X.env) :: starEach [e2] X.env := by rfl) (hpl : (backTo zpos (starEach [e2] X.env)).any (·.1) = false := by rfl) :
    PE X (.Call (.Name "list" p) [.Call (.Name "zip" p2) [e, e2] [] zpos] [] pos) (tListZip X.K ta) := by
  refine ⟨fun pins s σ H Q I h => ?_⟩
  refine Call_ (ld_blt I hg hm PyProof.Rows.boot_list (PyProof.Rows.callWith_type1 ?_ hs0 rfl))
  rw [hs0]
  show wpAny _ _ (spliced ((false, eval (.Call (.Name "zip" p2) [e, e2] [] zpos) X.env) :: backTo pos (starEach [] X.env))) _ _ s
  refine Calls.spliced_cons (Call_ (ld_blt I hg2 hm2 PyProof.Rows.boot_zip (PyProof.Rows.callWith_type1 (thn (ha.run zpos pins s σ H _ I h) fun us s1 ⟨vs, H1, I1, r1, q1⟩ => ?_) hs hpl)))
  obtain ⟨a, b, xs, ys, ex, hqx, hqy, hq⟩ := q1
  subst ex
  obtain ⟨w1, w2, rfl, ra, rb⟩ := vals2 r1
  cases ra
  cases rb
  obtain ⟨its, rv, pl1, _⟩ := I1.tuple hqx
  obtain ⟨its2, rv2, pl2, _⟩ := I1.tuple hqy
  obtain ⟨o1, ho1, _⟩ := id pl1
  obtain ⟨o2, ho2, _⟩ := id pl2
  refine RZ.call_zipT (show s1.heap.IsTuple a its.toArray from pl1) (show s1.heap.IsTuple b its2.toArray from pl2) fun h' hz hTI hTO h1 h2 hsz hk => ?_
  refine Calls.spliced_nil ?_
  show wpAny _ _ (call (.type "list") [.ref (s1.heap.objs.size + 4)]) _ _ _
  have D := PySem.W.ktu_apart s1.heap.objs.size a b (Heap.lt_size ho1) (Heap.lt_size ho2)
  have I2 : Inv X pins σ H1 { s1 with heap := h' } := I1.kept (t' := s1.toks) hk
  have fresh5 : ∀ c, c ∈ [s1.heap.objs.size + 4, s1.heap.objs.size + 2, s1.heap.objs.size + 3, s1.heap.objs.size, s1.heap.objs.size + 1] → FpOk X pins H1 c := fun c hcm => by
    have e' : c = s1.heap.objs.size + 4 ∨ c = s1.heap.objs.size + 2 ∨ c = s1.heap.objs.size + 3 ∨ c = s1.heap.objs.size ∨ c = s1.heap.objs.size + 1 := by simpa using hcm
    have hle : s1.heap.objs.size ≤ c := by
      rcases e' with z | z | z | z | z
      · rw [z]; exact Nat.le_add_right _ _
      · rw [z]; exact Nat.le_add_right _ _
      · rw [z]; exact Nat.le_add_right _ _
      · rw [z]; exact Nat.le_refl _
      · rw [z]; exact Nat.le_add_right _ _
    exact I1.fpOk hle (I1.hok.fresh hle)
  -- the new list
  refine callType_codes (Q₁ := fun obj s₁ => obj = .ref h'.objs.size ∧ s₁ = { s1 with heap := h'.push { cls := .type "list", data := .seq #[] } }) PySem.F.called_list (PySem.F.typeCall_list_1 _) PySem.F.entry_list_init
    (code_list_new _ ⟨rfl, rfl⟩) fun obj s₁ h₁ => ?_
  obtain ⟨rfl, rfl⟩ := h₁
  have hS : (h'.push { cls := .type "list", data := .seq #[] }).get? h'.objs.size = some { cls := .type "list", data := .seq #[] } := Heap.get?_push_size _ rfl
  refine ⟨⟨_, hS, rfl⟩, PySem.F.args_list_init_2 _ _, ?_⟩
  have fr : H1 h'.objs.size = none := I2.hok.fresh (Nat.le_refl _)
  obtain ⟨P, hP, hrun, hfin⟩ := hq _ fr
  have I3 : Inv X pins σ (upd H1 h'.objs.size (.lst [])) { s1 with heap := h'.push { cls := .type "list", data := .seq #[] } } := I2.lnew (its := []) (t' := s1.toks) .nil (Nat.zero_le _)
  show wpAny _ _ (do let old ← Builtin.List.listItems (.ref h'.objs.size); Builtin.List.listUpdate (.ref h'.objs.size) (fun _ => #[]); letGo old.toList.reverse; Builtin.List.listExtendWith (.ref h'.objs.size) (.ref (s1.heap.objs.size + 4)) .none) _ _ _
  refine wpAny_bind ?_
  unfold Builtin.List.listItems
  refine wpAny_bind (wpAny_seqItems hS rfl (wpAny_pure ?_))
  show wpAny _ _ (updateSeq h'.objs.size (fun _ => #[]) >>= fun _ => letGo (#[] : Array Value).toList.reverse >>= fun _ => Builtin.List.listExtendWith (.ref h'.objs.size) (.ref (s1.heap.objs.size + 4)) .none) _ _ _
  refine wpAny_bind (wpAny_updateSeq hS rfl ?_)
  have I4 := I3.lset (f := fun _ => #[]) (its := []) (its' := []) (ys := []) (t' := s1.toks) upd_same hS rfl .nil (Nat.zero_le _)
  rw [upd_upd] at I4
  refine wpAny_bind (wpAny_letGo ?_)
  have zq : s1.heap.objs.size + 4 ≠ h'.objs.size := Nat.ne_of_lt (Heap.lt_size hz)
  have oth : ∀ c o, h'.get? c = some o → ((h'.push { cls := .type "list", data := .seq #[] }).update h'.objs.size (Obj.mapSeq fun _ => #[])).get? c = some o := fun c o e =>
    (Heap.get?_update_other _ _ (Ne.symm (Nat.ne_of_lt (Heap.lt_size e)))).trans (Heap.get?_push_of_some _ e)
  have hz4 := oth _ _ hz
  unfold Builtin.List.listExtendWith
  refine wpAny_bind (wpAny_typeOf (T := "zip") ⟨_, hz4, rfl⟩ ?_)
  have e1 : Builtin.List.listSameRef (.ref h'.objs.size) (.ref (s1.heap.objs.size + 4)) = false := by simp [Builtin.List.listSameRef, Ne.symm zq]
  have e2 : (Value.type "zip" == Value.type "list") = false := by decide
  have e3 : (Value.type "zip" == Value.type "tuple") = false := by decide
  simp only [e1, e2, e3, Bool.or_false, Bool.false_eq_true, if_false]
  refine wpAny_bind (wpAny_pyIter_zip hz4 ?_)
  refine wpAny_bind (wpAny_holding ?_)
  unfold Builtin.List.listLengthHint
  refine wpAny_bind (wpAny_specialOf (T := "zip") ⟨_, hz4, rfl⟩ nolen_zip ?_)
  show wpAny _ _ (specialOf (Value.ref (s1.heap.objs.size + 4)) (Str.ofString "__length_hint__") >>= _) _ _ _
  refine wpAny_bind (wpAny_specialOf (T := "zip") ⟨_, hz4, rfl⟩ nohint_zip ?_)
  refine wpAny_pure ?_
  obtain ⟨z5, itl, n5, r5, hl5, e5⟩ := I4.lstM upd_same
  cases r5
  refine wpAny_bind (wpAny_rule ?_)
  refine wpAny_bind ?_
  show wpAny _ _ (updateSeq h'.objs.size (·.push .none) >>= fun _ => updateSeq h'.objs.size (·.pop)) _ _ _
  refine wpAny_bind (wpAny_updateSeq e5 rfl ?_)
  have I5 := I4.lset (f := (·.push Value.none)) (its' := [Value.none]) (ys := [.non]) (t' := s1.toks) upd_same e5 (by simp) (.cons rfl .nil) (by rw [List.length_singleton, sizeLine_eq]; decide)
  obtain ⟨z6, its6, k6, r6, hl6, e6⟩ := I5.lstM upd_same
  obtain ⟨u6, rfl, ru6⟩ := r6.one
  refine wpAny_updateSeq e6 rfl ?_ (by show 1 ≤ sizeLine; rw [sizeLine_eq]; decide) (by show 0 ≤ sizeLine + 1; exact Nat.zero_le _)
  have I6 := I5.lset (f := (·.pop)) (its := [u6]) (its' := []) (ys := []) (t' := s1.toks) upd_same e6 (by rfl) .nil (Nat.zero_le _)
  rw [upd_upd, upd_upd] at I6
  have oth6 : ∀ c o, c ≠ h'.objs.size → ((h'.push { cls := .type "list", data := .seq #[] }).update h'.objs.size (Obj.mapSeq fun _ => #[])).get? c = some o →
      ((((h'.push { cls := .type "list", data := .seq #[] }).update h'.objs.size (Obj.mapSeq fun _ => #[])).update h'.objs.size (Obj.mapSeq (·.push Value.none))).update h'.objs.size (Obj.mapSeq (·.pop))).get? c = some o := fun c o hc e =>
    (Heap.get?_update_other _ _ (Ne.symm hc)).trans ((Heap.get?_update_other _ _ (Ne.symm hc)).trans e)
  have all6 : ∀ c o, h'.get? c = some o → ((((h'.push { cls := .type "list", data := .seq #[] }).update h'.objs.size (Obj.mapSeq fun _ => #[])).update h'.objs.size (Obj.mapSeq (·.push Value.none))).update h'.objs.size (Obj.mapSeq (·.pop))).get? c = some o := fun c o e =>
    oth6 c o (Nat.ne_of_lt (Heap.lt_size e)) (oth c o e)
  refine wpAny_pure ⟨plainId_quiet PySem.F.plain_extend_loop _, zip_loop (A1 := X.A.in1) (xs := xs) (ys := ys) (I.ok.hd hc) D hrun (fun k acc H' s' I' hP' hend => ?_) _ 0 [] _ _ rfl I6 (fun c hcm => ?_) ⟨all6 _ _ hTI, h1.at fun o e => all6 _ o e, h2.at fun o e => all6 _ o e, ⟨_, all6 _ _ hTO⟩, .inl ⟨all6 _ _ hz, _, _, all6 _ _ hTO⟩⟩ hP⟩
  · exact ⟨rfl, .ref h'.objs.size, H', I', rfl, hfin k acc H' hP' hend⟩
  · obtain ⟨f0, f1, f2, f3, f4, f5⟩ := fresh5 c hcm
    have hlt : c ≠ h'.objs.size := fun e => by
      have e' : c = s1.heap.objs.size + 4 ∨ c = s1.heap.objs.size + 2 ∨ c = s1.heap.objs.size + 3 ∨ c = s1.heap.objs.size ∨ c = s1.heap.objs.size + 1 := by simpa using hcm
      rw [hsz] at e
      rcases e' with z | z | z | z | z
      · rw [z] at e; exact absurd e (Nat.ne_of_lt (Nat.add_lt_add_left (by decide) _))
      · rw [z] at e; exact absurd e (Nat.ne_of_lt (Nat.add_lt_add_left (by decide) _))
      · rw [z] at e; exact absurd e (Nat.ne_of_lt (Nat.add_lt_add_left (by decide) _))
      · rw [z] at e; exact absurd e (Nat.ne_of_lt (Nat.lt_add_of_pos_right (by decide)))
      · rw [z] at e; exact absurd e (Nat.ne_of_lt (Nat.add_lt_add_left (by decide) _))
    exact ⟨by rw [upd_ne hlt]; exact f0, f1, f2, f3, f4, f5⟩
end
end Z

/-! Z: list(zip(a, b)); (*a, b). -/
namespace Z
open PySem PySem.Spec PyProof.Rows L2
def pairD (p : D × D) : D := .tup [p.1, p.2]
def zipD (ds : List D) (P : List D → Prop) : Prop := match ds with | [.tup a, .tup b] => P ((a.zip b).map pairD) | _ => False
def fZip (ta : TAd) : TAd := fun ρ P Xp => ta ρ (fun ds => zipD ds P) Xp
section
variable {X : Cx} {W : WX} {mg : Mg} {ta : TAd} {e e2 : Expr} {p p2 pos zpos : Pos} {te : TEd}
theorem lift_zip (σ : L2.St) (H : Hp) (Q : VK) (h : liftF (gd X) W (fZip ta) σ H Q) : tListZip X.K (liftA (gd X) W ta) σ H Q := by
  obtain ⟨S0, H0, S, ρ, P, Xp, R, h, k, x⟩ := h
  refine ⟨S0, H0, S, ρ, _, Xp, R, h, fun ds hd vs S1 H1 w1 r1 => ?_, x⟩
  match ds, hd with
  | [.tup da, .tup db], hd =>
    obtain ⟨v, u, rfl, q1, q2⟩ := r1.two_inv
    cases q1 with
    | @tup a xs _ ea ra => cases q2 with
      | @tup b ys _ eb rb =>
        refine ⟨a, b, xs, ys, rfl, .inl (.inl (w1.sh _ _ ea)), .inl (.inl (w1.sh _ _ eb)), fun q hq => ?_⟩
        have hsq : S1 q = none := w1.sfree hq
        refine ⟨fun n acc H' => ∃ S', Wd S1 H1 S' H' ∧ S' q = none ∧ H' q = some (.lst acc) ∧ acc.length = n ∧ Reps (gd X) S' acc (((da.zip db).take n).map pairD),
          ⟨S1, (Wd.refl w1.sh).mut _ hq hsq, hsq, upd_same, rfl, .nil⟩, ⟨fun n acc H' ⟨S', w', hs', e', hl, r'⟩ => ⟨e', hl, .inl (.inl (w'.sh _ _ (w'.ss _ _ ea))), .inl (.inl (w'.sh _ _ (w'.ss _ _ eb)))⟩, fun n acc H' x y T ⟨S', w', hs', e', hl, r'⟩ hx hy hT => ?_⟩, fun n acc H' ⟨S', w', hs', e', hl, r'⟩ hend => ?_⟩
        · obtain ⟨dx, hdx, rx⟩ := ra.get' hx
          obtain ⟨dy, hdy, ry⟩ := rb.get' hy
          have hqT : q ≠ T := ne_of_none e' hT
          have hsT : S' T = none := w'.sfree hT
          have w2 := w'.new hT (.tup [x, y])
          have ss : Same S' (upd S' T (.tup [x, y])) := fun z o e => by rw [upd_ne (ne_of_none e hsT)]; exact e
          refine ⟨upd S' T (.tup [x, y]), w2.mut _ hq (by rw [upd_ne hqT]; exact hs'), by rw [upd_ne hqT]; exact hs', upd_same, by rw [List.length_append, hl]; rfl, ?_⟩
          have ez : (da.zip db)[n]? = some (dx, dy) := by
            rw [List.getElem?_zip_eq_some]; exact ⟨hdx, hdy⟩
          rw [List.take_succ, ez]
          simp only [Option.toList_some, List.map_append, List.map_cons, List.map_nil]
          exact (r'.mono ss).append (.one (.tup upd_same (.cons (rx.mono (w'.ss.trans ss)) (.cons (ry.mono (w'.ss.trans ss)) .nil))))
        · have hlen : (da.zip db).length ≤ n := by
            rw [List.length_zip]
            have h1 := ra.length
            have h2 := rb.length
            omega
          rw [List.take_of_length_le hlen] at r'
          exact k _ hd q acc S' H' (w1.trans w') (w1.free hq) hs' e' r'
theorem df_zip (hc : X.calm = true) (hg : Gl X "list") (hm : X.mg "list" = none) (hg2 : Gl X "zip") (hm2 : X.mg "zip" = none) (ha : DA X W [e, e2] ta)
    (hs0 : starEach [.Call (.Name "zip" p2) [e, e2] [] zpos] X.env = (false, eval (.Call (.Name "zip" p2) [e, e2] [] zpos) X.env) :: starEach [] X.env := by rfl)
    (hs : starEach [e, e2] X.env = (false, eval e X.env) :: starEach [e2] X.env := by rfl) (hpl : (backTo zpos (starEach [e2] X.env)).any (·.1) = false := by rfl) :
    DF X W (.Call (.Name "list" p) [.Call (.Name "zip" p2) [e, e2] [] zpos] [] pos) (fZip ta) := PE.weak (pe_listZip hc hg hm hg2 hm2 ha hs0 hs hpl) lift_zip
theorem zipD_tup {a b : List D} {P : List D → Prop} : zipD [.tup a, .tup b] P = P ((a.zip b).map pairD) := rfl
/-- *e among arguments: a tuple or a list -/
def aStar (te : TEd) (t : TAd) : TAd := fun ρ P Xp => te ρ (fun d => itemsD d fun l => t ρ (fun ds => P (l ++ ds)) Xp) Xp
theorem da_star {es : List Expr} {ta' : TAd} {sp : Pos} (he : DE X W e te) (hr : DA X W es ta') (hs : starEach (.Starred e sp :: es) X.env = (true, eval e X.env) :: starEach es X.env := by rfl) : DA X W (.Starred e sp :: es) (aStar te ta') :=
  PA.weak (StX.pa_star he hr hs) fun σ H Q ⟨S0, H0, S, ρ, P, Xp, R, h, k, x⟩ => ⟨S0, H0, S, ρ, _, Xp, R, h, fun d hd v S1 H1 w1 r1 => by
    have fin : ∀ {l : List D} {xs : List V}, Reps (gd X) S1 xs l → ta' ρ (fun ds => P (l ++ ds)) Xp → liftA (gd X) W ta' σ H1 fun ys H2 => Q (xs ++ ys) H2 := fun {l xs} r hd =>
      ⟨S0, H0, S1, ρ, _, Xp, R.grow w1, hd, fun ds hds vs S2 H2 w2 r2 => k _ hds _ S2 H2 (w1.trans w2) ((r.mono w2.ss).append r2), x.grow w1⟩
    cases r1 with
    | lst e r => exact ⟨_, _, rfl, .inr (.inl (rd_mono w1.sh e)), fin r hd⟩
    | scr e r => exact ⟨_, _, rfl, .inr (sq_mono w1.sh e), fin r hd⟩
    | tup e r => exact ⟨_, _, rfl, .inl (.inl (.inl (w1.sh _ _ e))), fin r hd⟩
    | _ => exact hd.elim, x⟩
end
end Z

/-! Z: our own lent as values: read, not kept. -/
namespace Z
open PySem PySem.Spec PyProof.Rows L2
/-- no list and no dict in it -/
inductive NoMut : D → Prop where
  | non : NoMut .non
  | bl (b : Bool) : NoMut (.bl b)
  | int (i : Int) : NoMut (.int i)
  | str (x : Str) : NoMut (.str x)
  | ty (n : String) : NoMut (.ty n)
  | gl (x : Str) : NoMut (.gl x)
  | tup {l : List D} : (∀ d ∈ l, NoMut d) → NoMut (.tup l)
  | ins {C : Str} {fs : List (Str × D)} : (∀ p ∈ fs, NoMut p.2) → NoMut (.ins C fs)
  | err {C : Str} {fs : List (Str × D)} : (∀ p ∈ fs, NoMut p.2) → NoMut (.err C fs)
  | ptr (a : Addr) : NoMut (.ptr a)
def isMut : HO → Prop
  | .lst _ => True
  | .dK _ => True
  | .dT _ => True
  | _ => False
section
variable {mg : Mg} {S S' S0 H0 H H' : Hp} {σ : L2.St} {ρ : En}
mutual
theorem Rep.unfrz (e : ∀ p o, S p = some o → S' p = some o ∨ isMut o) : ∀ {v : V} {d : D}, Rep mg S v d → NoMut d → Rep mg S' v d
  | _, _, .non, _ => .non
  | _, _, .bl b, _ => .bl b
  | _, _, .int i, _ => .int i
  | _, _, .str x, _ => .str x
  | _, _, .ty n, _ => .ty n
  | _, _, .gl h, _ => .gl h
  | _, _, .tup h r, .tup n => .tup ((e _ _ h).resolve_right (fun z => z)) (Reps.unfrz e r n)
  | _, _, .lst h r, n => nomatch n
  | _, _, .ins hC h r, .ins n => .ins hC ((e _ _ h).resolve_right (fun z => z)) (RepF.unfrz e r n)
  | _, _, .scr h r, n => nomatch n
  | _, _, .dk h r, n => nomatch n
  | _, _, .dt h r, n => nomatch n
  | _, _, .err0 a b c d f, _ => .err0 a b c d f
  | _, _, .err1 a b c d f g h, .err n => .err1 a b c d f ((e _ _ g).resolve_right (fun z => z)) (RepF.unfrz e h n)
  | _, _, .ptr a, _ => .ptr a
theorem Reps.unfrz (e : ∀ p o, S p = some o → S' p = some o ∨ isMut o) : ∀ {vs : List V} {ds : List D}, Reps mg S vs ds → (∀ d ∈ ds, NoMut d) → Reps mg S' vs ds
  | _, _, .nil, _ => .nil
  | _, _, .cons h r, n => .cons (Rep.unfrz e h (n _ List.mem_cons_self)) (Reps.unfrz e r fun d hd => n d (List.mem_cons_of_mem _ hd))
theorem RepF.unfrz (e : ∀ p o, S p = some o → S' p = some o ∨ isMut o) : ∀ {κ : Type} {gs : List (κ × V)} {fs : List (κ × D)}, RepF mg S gs fs → (∀ p ∈ fs, NoMut p.2) → RepF mg S' gs fs
  | _, _, _, .nil, _ => .nil
  | _, _, _, .cons h r, n => .cons (Rep.unfrz e h (n _ List.mem_cons_self)) (RepF.unfrz e r fun d hd => n d (List.mem_cons_of_mem _ hd))
end
/-- S without F -/
def cutS (S : Hp) (F : List Addr) : Hp := fun p => if p ∈ F then none else S p
theorem cutS_in {F : List Addr} {p : Addr} (h : p ∈ F) : cutS S F p = none := if_pos h
theorem cutS_out {F : List Addr} {p : Addr} (h : p ∉ F) : cutS S F p = S p := if_neg h
/-- what is lent may be changed again -/
theorem Wd.unfrz {F : List Addr} (hF : ∀ p ∈ F, S p = none) (w : Wd (frzS S H F) H S' H') : Wd S H (cutS S' F) H' where
  hh := w.hh
  ss := fun q o e => by
    have c : q ∉ F := fun z => by rw [hF q z] at e; cases e
    rw [cutS_out c]
    exact w.ss q o (by rw [frzS_out c]; exact e)
  sh := fun q o e => by
    by_cases c : q ∈ F
    · rw [cutS_in c] at e; cases e
    · rw [cutS_out c] at e; exact w.sh q o e
  nw := fun q h1 h2 => by
    by_cases c : q ∈ F
    · exact cutS_in c
    · rw [cutS_out c]
      exact w.nw q (by rw [frzS_out c]; exact h1) h2
theorem RE.frzX (R : RE mg S0 H0 S H σ ρ) {i : Nat} {o : Ow} (hi : ρ[i]? = some (.own o)) : ∃ p, OwAt mg S H p o ∧ (∀ q ∈ fpx p o, S q = none) ∧ RE mg S0 H0 (frzS S H (fpx p o)) H σ (ρ.set i (.val o.d)) := by
  obtain ⟨A, h1, h2⟩ := R.own
  obtain ⟨e1, e2, e4⟩ := h1 i o hi
  have w := R.wd.frzs e2
  have ss : Same S (frzS S H (fpx (A i) o)) := frzS_ss fun p hp => (e2 p hp).2
  have hil : i < ρ.length := (List.getElem?_eq_some_iff.mp hi).1
  refine ⟨A i, e4, fun q hq => (e2 q hq).2, w, by simpa using R.len, fun j d hj => ?_, A, fun j o1 hj => ?_, fun j k o1 o2 hj hk => ?_⟩
  · by_cases c : i = j
    · subst c
      rw [List.getElem?_set_self hil] at hj
      cases hj
      exact ⟨_, e1, e4.rep ss fun p hp => frzS_in hp⟩
    · rw [List.getElem?_set_ne c] at hj
      obtain ⟨v, a, b⟩ := R.val j d hj
      exact ⟨v, a, b.mono ss⟩
  · by_cases c : i = j
    · subst c; rw [List.getElem?_set_self hil] at hj; cases hj
    · rw [List.getElem?_set_ne c] at hj
      obtain ⟨a1, a2, a4⟩ := h1 j o1 hj
      exact ⟨a1, fun p hp => ⟨(a2 p hp).1, by rw [frzS_out (h2 j i o1 o hj hi (Ne.symm c) p hp)]; exact (a2 p hp).2⟩, a4.mono ss fun _ _ _ q => q⟩
  · have old : ∀ (j : Nat) (o1 : Ow), (ρ.set i (.val o.d))[j]? = some (.own o1) → ρ[j]? = some (.own o1) := fun j o1 hj => by
      by_cases c : i = j
      · subst c; rw [List.getElem?_set_self hil] at hj; cases hj
      · rw [List.getElem?_set_ne c] at hj; exact hj
    exact h2 j k o1 o2 (old j o1 hj) (old k o2 hk)
/-- lists and dicts, no instance -/
def Ow.mut : Ow → Prop
  | .ins _ _ _ => False
  | _ => True
theorem OwAt.isMut {a : Addr} {o : Ow} (h : OwAt mg S H a o) (m : o.mut) : ∀ p ∈ fpx a o, ∃ u, H p = some u ∧ Z.isMut u := by
  intro p hp
  cases o with
  | lst l => obtain ⟨vs, e, r⟩ := h; rw [List.mem_singleton.mp hp]; exact ⟨_, e, True.intro⟩
  | ins a0 C fs => exact m.elim
  | dk l => obtain ⟨vs, e, r⟩ := h; rw [List.mem_singleton.mp hp]; exact ⟨_, e, True.intro⟩
  | dt l => obtain ⟨vs, e, r⟩ := h; rw [List.mem_singleton.mp hp]; exact ⟨_, e, True.intro⟩
  | nst g T =>
    obtain ⟨z, h1, h2, h3⟩ := h
    obtain ⟨x, hx, e⟩ := List.mem_map.mp hp
    have q := h3 x hx
    rw [← e]
    cases ho : x.2 with
    | lst l => rw [ho] at q; obtain ⟨vs, e, _⟩ := q; exact ⟨_, e, True.intro⟩
    | dk l => rw [ho] at q; obtain ⟨vs, e, _⟩ := q; exact ⟨_, e, True.intro⟩
    | dt l => rw [ho] at q; obtain ⟨vs, e, _⟩ := q; exact ⟨_, e, True.intro⟩
theorem cut_ok {F : List Addr} (w : Wd (frzS S H F) H S' H') (hF : ∀ p ∈ F, ∃ u, H p = some u ∧ isMut u) : ∀ p o, S' p = some o → cutS S' F p = some o ∨ isMut o := fun p o e => by
  by_cases c : p ∈ F
  · obtain ⟨u, h1, h2⟩ := hF p c
    have e1 := w.hh p u h1
    have e2 := w.sh p o e
    rw [e1] at e2
    cases e2
    exact .inr h2
  · rw [cutS_out c]; exact .inl e
variable {W : WX}
/-- the slots of is are lent while e is read; its value has no list and no dict in it -/
def lent (ρ : En) : List Nat → (En → Prop) → Prop
  | [], k => k ρ
  | i :: r, k => match ρ[i]? with
    | some (.own o) => o.mut ∧ lent (ρ.set i (.val o.d)) r k
    | _ => lent ρ r k
def eBor (i : Nat) (te : TEd) : TEd := fun ρ P Xp => match ρ[i]? with
  | some (.own o) => o.mut ∧ te (ρ.set i (.val o.d)) (fun d => NoMut d ∧ P d) (fun C fs => (∀ x ∈ fs, NoMut x.2) ∧ Xp C fs)
  | _ => te ρ P Xp
def tBor (i : Nat) (te : TTd) : TTd := fun ρ P Xp => match ρ[i]? with
  | some (.own o) => o.mut ∧ te (ρ.set i (.val o.d)) P (fun C fs => (∀ x ∈ fs, NoMut x.2) ∧ Xp C fs)
  | _ => te ρ P Xp
def fBor (i : Nat) (te : TAd) : TAd := fun ρ P Xp => match ρ[i]? with
  | some (.own o) => o.mut ∧ te (ρ.set i (.val o.d)) (fun l => (∀ d ∈ l, NoMut d) ∧ P l) (fun C fs => (∀ x ∈ fs, NoMut x.2) ∧ Xp C fs)
  | _ => te ρ P Xp
theorem xOk.lent {F : List Addr} {Xp : Xd} (x : xOk mg W σ S H Xp) (hS : ∀ p ∈ F, S p = none) (hF : ∀ p ∈ F, ∃ u, H p = some u ∧ isMut u) : xOk mg W σ (frzS S H F) H (fun C fs => (∀ x ∈ fs, NoMut x.2) ∧ Xp C fs) := fun C fs h c d' S' H' e w r => by
  have ok := cut_ok w hF
  refine x C fs h.2 c d' (cutS S' F) H' e (w.unfrz hS) ?_
  rcases r with r | ⟨dd, gs, e1, e2, rf⟩
  · exact .inl r
  · exact .inr ⟨dd, gs, e1, (ok _ _ e2).resolve_right (fun z => z), rf.unfrz ok h.1⟩
theorem lift_eBor {i : Nat} {te : TEd} (σ : L2.St) (H : Hp) (Q : VK) (h : liftE mg W (eBor i te) σ H Q) : liftE mg W te σ H Q := by
  obtain ⟨S0, H0, S, ρ, P, Xp, R, h, k, x⟩ := h
  unfold eBor at h
  split at h
  · rename_i o ho
    obtain ⟨p, ow, hS, R'⟩ := R.frzX ho
    have hF := ow.isMut h.1
    refine ⟨S0, H0, _, _, _, _, R', h.2, fun d hd v S' H' w r => k d hd.2 v (cutS S' (fpx p o)) H' (w.unfrz hS) (r.unfrz (cut_ok w hF) hd.1), x.lent hS hF⟩
  · exact ⟨S0, H0, S, ρ, P, Xp, R, h, k, x⟩
theorem lift_tBor {i : Nat} {te : TTd} (σ : L2.St) (H : Hp) (Q : Bool → Hp → Prop) (h : liftT mg W (tBor i te) σ H Q) : liftT mg W te σ H Q := by
  obtain ⟨S0, H0, S, ρ, P, Xp, R, h, k, x⟩ := h
  unfold tBor at h
  split at h
  · rename_i o ho
    obtain ⟨p, ow, hS, R'⟩ := R.frzX ho
    have hF := ow.isMut h.1
    exact ⟨S0, H0, _, _, _, _, R', h.2, fun d hd S' H' w => k d hd (cutS S' (fpx p o)) H' (w.unfrz hS), x.lent hS hF⟩
  · exact ⟨S0, H0, S, ρ, P, Xp, R, h, k, x⟩
theorem lift_fBor {i : Nat} {te : TAd} (σ : L2.St) (H : Hp) (Q : VK) (h : liftF mg W (fBor i te) σ H Q) : liftF mg W te σ H Q := by
  obtain ⟨S0, H0, S, ρ, P, Xp, R, h, k, x⟩ := h
  unfold fBor at h
  split at h
  · rename_i o ho
    obtain ⟨p, ow, hS, R'⟩ := R.frzX ho
    have hF := ow.isMut h.1
    refine ⟨S0, H0, _, _, _, _, R', h.2, fun l hd q vs S' H' w hp hs e r => k l hd.2 q vs (cutS S' (fpx p o)) H' (w.unfrz hS) hp ?_ e (r.unfrz (cut_ok w hF) hd.1), x.lent hS hF⟩
    by_cases c : q ∈ fpx p o
    · exact cutS_in c
    · rw [cutS_out c]; exact hs
  · exact ⟨S0, H0, S, ρ, P, Xp, R, h, k, x⟩
variable {X : Cx} {e : Expr} {te : TEd} {tt : TTd} {tf : TAd}
theorem de_bor (i : Nat) (h : DE X W e te) : DE X W e (eBor i te) := PE.weak h lift_eBor
theorem dt_bor (i : Nat) (h : DT X W e tt) : DT X W e (tBor i tt) := PT.weak h lift_tBor
theorem df_bor (i : Nat) (h : DF X W e tf) : DF X W e (fBor i tf) := PE.weak h lift_fBor
/-- y = [..] on one line while the slot j is lent -/
theorem ds_setLcB {elt tg iter : Expr} {ifs : List Expr} {scope : Scope} {own : List (Str × Nat)} {pos : Pos} {ti : TAd} {g : TGd} {tt : TTd} {te : TEd} (j : Nat) {i : Nat} {y : Str} {py spos : Pos} (hc : X.calm = true) (hN : X.N.Nodup) (hy : X.N[i]? = some y) (hyl : X.env.scope.names.lookup y = some .local)
    (hsw : swapsWith (.ListComp elt [⟨tg, iter, ifs, 0⟩] scope pos) (some (.Name y py)) spos.line X.env = pure true) (hi : DI X W tg iter ti) (ok : BlkOk X.N X.env.scope scope own)
    (hg : ∀ (s : Shared) (H : Hp) (C : Addr) (cl : List (Str × Addr)) (fp : List Addr), DG (X.blk s H scope (compEnvC scope cl C X.env) fp) (own.map (·.2)) tg g) (ht : ∀ (s : Shared) (H : Hp) (C : Addr) (cl : List (Str × Addr)) (fp : List Addr), DTs (X.blk s H scope (compEnvC scope cl C X.env) fp) ifs tt)
    (he : ∀ (s : Shared) (H : Hp) (C : Addr) (cl : List (Str × Addr)) (fp : List Addr), DE (X.blk s H scope (compEnvC scope cl C X.env) fp) W0 elt te) (hs : ∀ x, foldedSetIterable iter X.env x = pure x := by intro _; rfl) :
    DS X W (.Assign [.Name y py] (.ListComp elt [⟨tg, iter, ifs, 0⟩] scope pos) spos) (sSet (eF (fBor j (fLc ti g tt te (own.map (·.2))))) i) :=
  PS.weak (ps_setLc hc hN hy hyl hsw hi ok (blkG hc hg) (blkT hc ht) (blkE hc he) hs) fun D σ H ⟨S0, H0, S, ρ, Φ, R, h, k⟩ =>
    lift_lc σ H _ (lift_fBor σ H _ ⟨S0, H0, S, ρ, _, _, R, h, vOk.frz (P := fun d => Φ.nx (ρ.set i (.val d))) fun d hd v S1 H1 w1 r1 => k.nx _ hd _ S1 H1 ((R.grow w1).set r1) w1.ss, k.x R⟩)
end
end Z

/-! Z: lists of our own lists: made, read, changed by another name. -/
namespace Z
open PySem PySem.Spec PyProof.Rows L2
/-- the graph of a list of lists -/
def nstT (g : Addr) (ps : List Addr) (ls : List (List D)) : List (Addr × Os) := (g, .lst (ps.map .ptr)) :: ps.zip (ls.map Os.lst)
theorem nstT_keys {g : Addr} {ps : List Addr} {ls : List (List D)} (h : ps.length = ls.length) : (nstT g ps ls).map (·.1) = g :: ps := by
  unfold nstT
  rw [List.map_cons, List.map_fst_zip (by rw [List.length_map, h]; exact Nat.le_refl _)]
/-- y = [e for target in iter if ..], e a new list each -/
def sSetLcN (ti : TAd) (tg : TGd) (tt : TTd) (tf : TAd) (vs : List Nat) (i : Nat) : TSd := fun Φ ρ => ti ρ (fun items => ∃ I : Nat → List (List D) → Prop, I 0 [] ∧
  (∀ (k : Nat) x acc, items[k]? = some x → I k acc → tg x (wipeD ρ vs) fun ρ2 => tt ρ2 (fun b => if b = true then tf ρ2 (fun l => acc.length < sizeLine ∧ I (k + 1) (acc ++ [l])) NoX else I (k + 1) acc) NoX) ∧
  ∀ acc, I items.length acc → ∀ (g : Addr) (ps : List Addr), ps.length = acc.length → (g :: ps).Nodup → Φ.nx (ρ.set i (.own (.nst g (nstT g ps acc))))) (fun C fs => Φ.xc C fs ρ)
/-- the lists that stand so far -/
def NstAt (mg : Mg) (H S' H' : Hp) (ps : List Addr) (acc : List (List D)) : Prop := ps.length = acc.length ∧ ∀ (k : Nat) p l, ps[k]? = some p → acc[k]? = some l → ∃ vs, H' p = some (.lst vs) ∧ Reps mg S' vs l ∧ S' p = none ∧ H p = none
theorem NstAt.grow {mg : Mg} {H S1 H1 S2 H2 : Hp} {ps : List Addr} {acc : List (List D)} (h : NstAt mg H S1 H1 ps acc) (w : Wd S1 H1 S2 H2) : NstAt mg H S2 H2 ps acc :=
  ⟨h.1, fun k p l a b => by
    obtain ⟨vs, e, r, s, n⟩ := h.2 k p l a b
    exact ⟨vs, w.hh _ _ e, r.mono w.ss, w.nw _ s (by rw [e]; intro z; cases z), n⟩⟩
theorem lift_lcN {mg : Mg} {W : WX} {ti : TAd} {tg : TGd} {tt : TTd} {tf : TAd} {vs : List Nat} {i : Nat} (Dn : Ends) (σ : L2.St) (H : Hp) (h : liftS mg W (sSetLcN ti tg tt tf vs i) Dn σ H) :
    tLc (liftI mg W ti) (liftG mg vs tg) (liftT mg W0 tt) (liftF mg W0 tf) vs σ H fun x H1 => Dn.nx (σ.set i (some x)) H1 := by
  obtain ⟨S0, H0, S, ρ, Φ, R, h, k⟩ := h
  refine ⟨S0, H0, S, ρ, _, _, R, h, fun items ⟨I, i0, iS, iE⟩ J S1 H1 w1 ok D hD => ?_, k.x R⟩
  have hDH : H D = none := w1.free hD
  refine ⟨fun j m H' => ∃ S' acc ps, Wd S H S' H' ∧ Same S1 S' ∧ S' D = none ∧ H' D = some (.lst (ps.map V.ref)) ∧ NstAt mg H S' H' ps acc ∧ (D :: ps).Nodup ∧ I j acc ∧ j + m = items.length,
    ⟨items.length, S1, [], [], w1.mut _ hDH (w1.sfree hD), Same.refl _, w1.sfree hD, upd_same, ⟨rfl, fun _ _ _ z => by simp at z⟩, by simp, i0, by omega⟩, fun j m H' ⟨S', acc, ps, w', s', hs', e', r', nd, hI, em⟩ => ?_⟩
  by_cases hi : j < items.length
  · refine .inr ⟨ok.go j H' (s'.trans w'.sh) hi, fun H2 => ∃ S2 acc2 ps2, Wd S H S2 H2 ∧ Same S1 S2 ∧ S2 D = none ∧ H2 D = some (.lst (ps2.map V.ref)) ∧ NstAt mg H S2 H2 ps2 acc2 ∧ (D :: ps2).Nodup ∧ I (j + 1) acc2, fun H2 ⟨S2, acc2, ps2, w2, s2, hs2, e2, r2, nd2, hI2⟩ => ⟨m - 1, by omega, S2, acc2, ps2, w2, s2, hs2, e2, r2, nd2, hI2, by omega⟩, fun v H2 hy => ?_⟩
    obtain ⟨S2, w2, r2⟩ := ok.yld j S' H' v H2 s' w'.sh hy _ (List.getElem?_eq_getElem hi)
    have w02 := w'.trans w2
    have hsD : ∀ S3 H3, Wd S' H' S3 H3 → S3 D = none := fun S3 H3 w => w.nw D hs' (by rw [e']; intro z; cases z)
    refine ⟨S0, H0, S2, _, _, _, (R.grow w02).wipe vs, r2, iS j _ acc (List.getElem?_eq_getElem hi) hI, fun ρ3 h3 σ3 S3 H3 R3 ew w3 => ⟨ew.trans wipe_wipe, ?_⟩⟩
    have w23 := w2.trans w3
    refine ⟨S0, H0, S3, ρ3, _, _, R3, h3, fun b hb S4 H4 w4 => ?_, xOk.no⟩
    have w24 := w23.trans w4
    cases b with
    | true =>
      rw [if_pos rfl] at hb
      refine iteT ?_
      refine ⟨S0, H0, S4, ρ3, _, _, R3.grow w4, hb, fun l hy q vl S5 H5 w5 hq hsq eq rq => ?_, xOk.no⟩
      have w25 := w24.trans w5
      have e5 : H5 D = some (.lst (ps.map V.ref)) := w25.hh _ _ e'
      have s5 : S5 D = none := hsD _ _ w25
      have hqH : H q = none := (w'.trans w24).free hq
      have r5 := r'.grow w25
      have hqD : q ≠ D := fun z => by
        have e4 := w24.hh _ _ e'
        rw [z] at hq
        rw [hq] at e4; cases e4
      have hqps : q ∉ ps := fun z => by
        obtain ⟨n, hn, e⟩ := List.mem_iff_getElem.mp z
        have hl : n < acc.length := by rw [← r'.1]; exact hn
        obtain ⟨vs', e6, _⟩ := r'.2 n q acc[n] (by rw [List.getElem?_eq_getElem hn, e]) (List.getElem?_eq_getElem hl)
        have e7 := w24.hh _ _ e6
        rw [hq] at e7; cases e7
      refine ⟨ps.map V.ref, e5, by rw [List.length_map, r'.1]; exact hy.1, S5, acc ++ [l], ps ++ [q], (w'.trans w25).mut _ hDH s5, s'.trans w25.ss, s5, by rw [List.map_append]; exact upd_same, ⟨by rw [List.length_append, List.length_append, r'.1]; rfl, fun n p l' hp hl' => ?_⟩, ?_, hy.2⟩
      · have hpD : p ≠ D := fun z => by
          rcases Nat.lt_or_ge n ps.length with c | c
          · rw [List.getElem?_append_left c] at hp
            exact (List.nodup_cons.mp nd).1 (z ▸ List.mem_of_getElem? hp)
          · rw [List.getElem?_append_right c] at hp
            have : p = q := by
              have := List.mem_of_getElem? hp
              simpa using this
            exact hqD (this.symm.trans z)
        rcases Nat.lt_or_ge n ps.length with c | c
        · rw [List.getElem?_append_left c] at hp
          rw [List.getElem?_append_left (by rw [← r'.1]; exact c)] at hl'
          obtain ⟨vs', a1, a2, a3, a4⟩ := r5.2 n p l' hp hl'
          exact ⟨vs', by rw [upd_ne hpD]; exact a1, a2, a3, a4⟩
        · rw [List.getElem?_append_right c] at hp
          rw [List.getElem?_append_right (by rw [← r'.1]; exact c)] at hl'
          have ep : p = q := by
            have := List.mem_of_getElem? hp
            simpa using this
          have el : l' = l := by
            have := List.mem_of_getElem? hl'
            simpa using this
          subst ep el
          exact ⟨vl, by rw [upd_ne hpD]; exact eq, rq, hsq, hqH⟩
      · rw [← List.cons_append]
        exact nd_snoc nd fun z => (List.mem_cons.mp z).elim hqD hqps
    | false =>
      rw [if_neg Bool.false_ne_true] at hb
      refine iteF ?_
      exact ⟨S4, acc, ps, w'.trans w24, s'.trans w24.ss, hsD _ _ w24, w24.hh _ _ e', r'.grow w24, nd, hb⟩
  · have ei : j = items.length := by omega
    subst ei
    refine .inl ⟨ok.stop _ H' (s'.trans w'.sh) (Nat.le_refl _), ?_⟩
    have keys := nstT_keys (g := D) r'.1
    refine k.nx _ (iE acc hI D ps r'.1 nd) _ S' H' (R.setOwnF w' (fun q hq => ?_) ⟨rfl, by rw [keys]; exact List.mem_cons_self, by rw [keys]; exact nd, fun x hx => ?_⟩) (w'.ss)
    · have hq' : q ∈ D :: ps := by rw [← keys]; exact hq
      rcases List.mem_cons.mp hq' with z | z
      · rw [z]; exact ⟨hDH, hs'⟩
      · obtain ⟨n, hn, e⟩ := List.mem_iff_getElem.mp z
        have hl : n < acc.length := by rw [← r'.1]; exact hn
        obtain ⟨vs', _, _, a3, a4⟩ := r'.2 n q acc[n] (by rw [List.getElem?_eq_getElem hn, e]) (List.getElem?_eq_getElem hl)
        exact ⟨a4, a3⟩
    · unfold nstT at hx
      rcases List.mem_cons.mp hx with z | z
      · rw [z]
        refine ⟨_, e', ?_⟩
        have all : ∀ l : List Addr, Reps mg S' (l.map V.ref) (l.map Z.D.ptr) := fun l => by
          induction l with
          | nil => exact .nil
          | cons p l ih => exact .cons (.ptr p) ih
        exact all ps
      · obtain ⟨n, hn, e⟩ := List.mem_iff_getElem.mp z
        rw [List.getElem_zip] at e
        have hn' : n < ps.length ∧ n < acc.length := by rw [List.length_zip, List.length_map] at hn; omega
        obtain ⟨vs', a1, a2, _, _⟩ := r'.2 n ps[n] acc[n] (List.getElem?_eq_getElem hn'.1) (List.getElem?_eq_getElem hn'.2)
        rw [← e]
        simp only [List.getElem_map]
        exact ⟨vs', a1, a2⟩
section
variable {X : Cx} {W : WX} {elt tg iter : Expr} {ifs : List Expr} {scope : Scope} {own : List (Str × Nat)} {pos : Pos} {ti : TAd} {g : TGd} {tt : TTd} {tf : TAd}
theorem blkF (hc : X.calm = true) (h : ∀ (s : Shared) (H : Hp) (C : Addr) (cl : List (Str × Addr)) (fp : List Addr), DF (X.blk s H scope (compEnvC scope cl C X.env) fp) W0 elt tf) (s : Shared) (H : Hp) (C : Addr) (cl : List (Str × Addr)) (fp : List Addr) :
    PE (X.blk s H scope (compEnvC scope cl C X.env) fp) elt (liftF (gd X) W0 tf) := by
  have q := h s H C cl fp
  unfold DF at q
  rw [gd_blk hc] at q
  exact q
theorem ds_setLcN {i : Nat} {y : Str} {py spos : Pos} (hc : X.calm = true) (hN : X.N.Nodup) (hy : X.N[i]? = some y) (hyl : X.env.scope.names.lookup y = some .local)
    (hsw : swapsWith (.ListComp elt [⟨tg, iter, ifs, 0⟩] scope pos) (some (.Name y py)) spos.line X.env = pure true) (hi : DI X W tg iter ti) (ok : BlkOk X.N X.env.scope scope own)
    (hg : ∀ (s : Shared) (H : Hp) (C : Addr) (cl : List (Str × Addr)) (fp : List Addr), DG (X.blk s H scope (compEnvC scope cl C X.env) fp) (own.map (·.2)) tg g) (ht : ∀ (s : Shared) (H : Hp) (C : Addr) (cl : List (Str × Addr)) (fp : List Addr), DTs (X.blk s H scope (compEnvC scope cl C X.env) fp) ifs tt)
    (he : ∀ (s : Shared) (H : Hp) (C : Addr) (cl : List (Str × Addr)) (fp : List Addr), DF (X.blk s H scope (compEnvC scope cl C X.env) fp) W0 elt tf) (hs : ∀ x, foldedSetIterable iter X.env x = pure x := by intro _; rfl) :
    DS X W (.Assign [.Name y py] (.ListComp elt [⟨tg, iter, ifs, 0⟩] scope pos) spos) (sSetLcN ti g tt tf (own.map (·.2)) i) :=
  PS.weak (ps_setLc hc hN hy hyl hsw hi ok (blkG hc hg) (blkT hc ht) (blkF hc he) hs) lift_lcN
end
/-! ### read and changed by any name -/
def putOs (T : List (Addr × Os)) (p : Addr) (o : Os) : List (Addr × Os) := T.map fun x => if x.1 = p then (p, o) else x
theorem putOs_keys (T : List (Addr × Os)) (p : Addr) (o : Os) : (putOs T p o).map (·.1) = T.map (·.1) := by
  unfold putOs
  rw [List.map_map]
  apply List.map_congr_left
  intro x _
  show (if x.1 = p then (p, o) else x).1 = x.1
  by_cases c : x.1 = p
  · rw [if_pos c]; exact c.symm
  · rw [if_neg c]
section
variable {X : Cx} {W : WX} {mg : Mg} {pos cpos apos tpos p0 : Pos} {o ix e : Expr} {t0 tix te : TEd} {i j : Nat} {S0 H0 S H : Hp} {σ : L2.St} {ρ : En}
/-- the list at p of the graph in slot j -/
def lstP (ρ : En) (j : Nat) (d : D) (k : Addr → List (Addr × Os) → Addr → List D → Prop) : Prop := ∃ p g T l, d = .ptr p ∧ ρ[j]? = some (.own (.nst g T)) ∧ osAt T p = some (.lst l) ∧ k g T p l
theorem RE.lstAt (R : RE mg S0 H0 S H σ ρ) {g : Addr} {T : List (Addr × Os)} (hj : ρ[j]? = some (.own (.nst g T))) {p : Addr} {l : List D} (h : osAt T p = some (.lst l)) : ∃ vs, H p = some (.lst vs) ∧ Reps mg S vs l := by
  obtain ⟨q, h1, h2, _, _, _, h3⟩ := R.atF hj
  exact h3 _ (osAt_mem h)
theorem RE.putP (R : RE mg S0 H0 S H σ ρ) {g : Addr} {T : List (Addr × Os)} (hj : ρ[j]? = some (.own (.nst g T))) {p : Addr} {l l' : List D} (h : osAt T p = some (.lst l)) {vs' : List V} (r : Reps mg S vs' l') :
    RE mg S0 H0 S (upd H p (.lst vs')) σ (ρ.set j (.own (.nst g (putOs T p (.lst l'))))) := by
  obtain ⟨q, h1, h2, rfl, hg, nd, h3⟩ := R.atF hj
  have hp : p ∈ T.map (·.1) := List.mem_map_of_mem (f := (·.1)) (osAt_mem h)
  have hpp := h2 p hp
  refine R.mutF hj h1 (R.wd.mut _ hpp.1 hpp.2) (fun x hx u hu => by rw [upd_ne fun z => hx (by rw [z]; exact hp)]; exact hu) (fun x hx => .inl (by
    have : x ∈ (putOs T p (.lst l')).map (·.1) := hx
    rw [putOs_keys] at this; exact this)) ⟨rfl, by rw [putOs_keys]; exact hg, by rw [putOs_keys]; exact nd, fun x hx => ?_⟩
  unfold putOs at hx
  obtain ⟨y, hy, ey⟩ := List.mem_map.mp hx
  by_cases c : y.1 = p
  · rw [if_pos c] at ey
    rw [← ey]
    exact ⟨vs', upd_same, r⟩
  · rw [if_neg c] at ey
    rw [← ey]
    exact (h3 y hy).mono (Same.refl _) fun u hu => by rw [upd_ne c]; exact hu
/-- the first object of the graph in slot i -/
def eRoot (i : Nat) : TEd := fun ρ P _ => ∃ g T, ρ[i]? = some (.own (.nst g T)) ∧ P (.ptr g)
theorem de_root (he : PE X e (tVar i)) : DE X W e (eRoot i) := PE.weak he fun σ H Q ⟨S0, H0, S, ρ, P, Xp, R, ⟨g, T, hi, hP⟩, k, x⟩ => by
  obtain ⟨q, h1, h2, rfl, _⟩ := R.atF hi
  exact ⟨_, h1, k.now R hP (.ptr q)⟩
/-- o[ix], o a list of the graph in slot j -/
def eIxP (j : Nat) (t0 tix : TEd) : TEd := fun ρ P Xp => t0 ρ (fun d => tix ρ (fun z => ixD z fun n => lstP ρ j d fun _ _ _ l => ∃ e, atI l n = some e ∧ P e) Xp) Xp
theorem de_ixP (j : Nat) (ho : DE X W o t0) (hi : DE X W ix tix) (hs : PlainIx ix) : DE X W (.Subscript o ix pos) (eIxP j t0 tix) := PE.weak (pe_ix ix_list ho hi hs) fun σ H Q ⟨S0, H0, S, ρ, P, Xp, R, h, k, x⟩ =>
  ⟨S0, H0, S, ρ, _, Xp, R, h, fun d hd v S1 H1 w1 r1 => ⟨S0, H0, S1, ρ, _, Xp, R.grow w1, hd, fun z hz u S2 H2 w2 r2 => by
    cases r2 <;> first | exact hz.elim | skip
    obtain ⟨p, g, T, l, rfl, hj, hp, e, he, hP⟩ := hz
    cases r1
    obtain ⟨vs, h4, h5⟩ := ((R.grow w1).grow w2).lstAt hj hp
    obtain ⟨u, hu, ru⟩ := h5.at he
    exact ⟨p, vs, _, u, rfl, rfl, .inl (.inl h4), hu, k _ hP _ S2 H2 (w1.trans w2) ru⟩, x.grow w1⟩, x⟩
def eLenP (j : Nat) (t0 : TEd) : TEd := fun ρ P Xp => t0 ρ (fun d => lstP ρ j d fun _ _ _ l => P (.int l.length)) Xp
theorem de_lenP (j : Nat) (ho : DE X W o t0) (hg : Gl X "len") (hm : X.mg "len" = none)
    (he : starEach [o] X.env = (false, eval o X.env) :: starEach [] X.env := by rfl) (hpl : (backTo pos (starEach [] X.env)).any (·.1) = false := by rfl) : DE X W (.Call (.Name "len" p0) [o] [] pos) (eLenP j t0) :=
  PE.weak (pe_callB call_len_seq hg hm PySem.boot_len (pa_cons ho pa_nil he) (by decide) (by decide) he hpl) fun σ H Q ⟨S0, H0, S, ρ, P, Xp, R, h, k, x⟩ => ⟨S0, H0, S, ρ, _, Xp, R, h, fun d hd v S1 H1 w1 r1 => by
    obtain ⟨p, g, T, l, rfl, hj, hp, hP⟩ := hd
    cases r1
    obtain ⟨vs, h4, h5⟩ := (R.grow w1).lstAt hj hp
    exact ⟨p, vs, rfl, .inl (.inl (.inl h4)), by rw [h5.length]; exact k _ hP _ S1 H1 w1 (.int _)⟩, x⟩
/-- o.append(e) -/
def sAppP (j : Nat) (t0 te : TEd) : TSd := fun Φ ρ => t0 ρ (fun d => lstP ρ j d fun g T p l => te ρ (fun x => l.length < sizeLine ∧ Φ.nx (ρ.set j (.own (.nst g (putOs T p (.lst (l ++ [x]))))))) (fun C fs => Φ.xc C fs ρ)) (fun C fs => Φ.xc C fs ρ)
theorem ds_appP (j : Nat) (ho : DE X W o t0) (he : DE X W e te) (hbase : attributeBase o "append" X.env (eval o X.env) = eval o X.env := by rfl)
    (hfew : ((backTo cpos (starEach [e] X.env)).all (fun x => !x.1) && (backToKw cpos (keywordEach [] X.env)).all (fun x => x.1.isSome)
      && decide (([e] : List Expr).length + ([] : List Keyword).length + (if ([] : List Keyword).isEmpty then 0 else 1) < 30)) = true := by rfl)
    (hline : (apos.endLine == cpos.line) = true := by rfl) (hs : starEach [e] X.env = (false, eval e X.env) :: starEach [] X.env := by rfl) (hplain : (backTo cpos (starEach [] X.env)).any (·.1) = false := by rfl)
    (hsw : swapsWith (.Call (.Attribute o "append" apos) [e] [] cpos) none pos.line X.env = pure false := by rfl) : DS X W (.Expr (.Call (.Attribute o "append" apos) [e] [] cpos) pos) (sAppP j t0 te) :=
  PS.weak (ps_expr (pe_bm PySem.F.plainAttrs_list PySem.F.slot_list_append PySem.F.type_list_append mt_append ho (pa_cons he pa_nil hs) hbase hfew hline hs hplain) hsw) fun Dn σ H ⟨S0, H0, S, ρ, Φ, R, h, k⟩ =>
    ⟨S0, H0, S, ρ, _, _, R, h, fun d hd v S1 H1 w1 r1 => by
      obtain ⟨p, g, T, l, rfl, hj, hp, hd⟩ := hd
      cases r1
      have R1 := R.grow w1
      obtain ⟨vs, h4, h5⟩ := R1.lstAt hj hp
      refine ⟨tyV_list h4, S0, H0, S1, ρ, _, _, R1, hd, fun x hx v S2 H2 w2 r2 => ?_, (k.mono w1.ss).x R1⟩
      obtain ⟨hz, hn⟩ := hx
      have R2 := R1.grow w2
      exact ⟨p, vs, v, rfl, rfl, w2.hh _ _ h4, by rw [h5.length]; exact hz, k.nx _ hn _ S2 _ (R2.putP hj hp ((h5.mono w2.ss).append (.one r2))) (w1.ss.trans w2.ss)⟩, k.x R⟩
/-- o[ix] = e -/
def sSetIxP (j : Nat) (t0 tix te : TEd) : TSd := fun Φ ρ => te ρ (fun x => t0 ρ (fun d => tix ρ (fun z => lstP ρ j d fun g T p l => ∃ n m, z = .int n ∧ ixN l.length n = some m ∧ Φ.nx (ρ.set j (.own (.nst g (putOs T p (.lst (l.set m x))))))) (fun C fs => Φ.xc C fs ρ)) (fun C fs => Φ.xc C fs ρ)) (fun C fs => Φ.xc C fs ρ)
theorem ds_setIxP (j : Nat) (ho : DE X W o t0) (hi : DE X W ix tix) (he : DE X W e te)
    (ha : ∀ v, assign (.Subscript o ix tpos) X.env v = (do
      let ov ← holding [v] (eval o X.env)
      let iv ← holding [v, ov] (eval ix X.env)
      standAt tpos
      holding [v, ov, iv] (setItem ov iv v)
      release [v, ov, iv] []) := by intro _; rfl)
    (hs : swapsWithSole [.Subscript o ix tpos] e pos.line X.env = pure false := by rfl) (hw : swappedStores [.Subscript o ix tpos] e X.env = pure none := by rfl)
    (h1 : (assignEach [.Subscript o ix tpos] X.env).map (·.2) = [assign (.Subscript o ix tpos) X.env] := by rfl) : DS X W (.Assign [.Subscript o ix tpos] e pos) (sSetIxP j t0 tix te) :=
  PS.weak (ps_asg he (pg_sub ho hi set_list ha) hs hw h1) fun Dn σ H ⟨S0, H0, S, ρ, Φ, R, h, k⟩ =>
    ⟨S0, H0, S, ρ, _, _, R, h, fun x hx v S1 H1 w1 r1 => by
      have R1 := R.grow w1
      refine ⟨S0, H0, S1, ρ, _, _, R1, hx, fun d hd u S2 H2 w2 r2 => ?_, (k.mono w1.ss).x R1⟩
      have R2 := R1.grow w2
      refine ⟨S0, H0, S2, ρ, _, _, R2, hd, fun z hz u2 S3 H3 w3 r3 => ?_, (k.mono (w1.ss.trans w2.ss)).x R2⟩
      have R3 := R2.grow w3
      obtain ⟨p, g, T, l, rfl, hj, hp, n, m, rfl, hm, hn⟩ := hz
      cases r2
      obtain ⟨vs, h4, h5⟩ := R3.lstAt hj hp
      exact ⟨p, vs, n, m, rfl, r3.int_inv, h4, by rw [h5.length]; exact hm, k.nx _ hn _ S3 _ (R3.putP hj hp (h5.set (r1.mono (w2.ss.trans w3.ss)) m)) (w1.ss.trans (w2.ss.trans w3.ss))⟩, k.x R⟩
end
end Z

/-! Z: tables of classes from what the top has written. -/
namespace Z
open PySem PySem.Spec PyProof.Rows L2
/-- what of the text a class as the second argument of isinstance must have -/
structure ClsK (K : PySem.W.Frag) (c : Addr) : Prop where
  i : PySem.W.isClsIn K c = true
  t : PySem.W.typeIn K (.ref c) = some (.type "type")
  s : PySem.W.subIn K (.ref c) (.ref c) = some true
theorem kit_b {K : PySem.W.Frag} {c : Addr} {x : String} {b : Bool} (k : ClsK K c) (h : PySem.W.subIn K (.type x) (.ref c) = some b) : PySem.W.kitOne K (.type x) (.ref c) = some b := by
  show (if (Value.type x == Value.ref c) = true then some true else PySem.W.kitCls K (.type x) (.ref c)) = some b
  rw [if_neg (show ¬ (Value.type x == Value.ref c) = true from by simp)]
  show (if ((PySem.W.clsIn K c).isSome && PySem.W.typeIn K (.ref c) == some (.type "type")) = true then PySem.W.subIn K (.type x) (.ref c) else none) = some b
  rw [if_pos (by rw [show (PySem.W.clsIn K c).isSome = true from k.i, k.t]; rfl)]
  exact h
theorem kit_c {K : PySem.W.Frag} {c d : Addr} {b : Bool} (k : ClsK K d) (h : PySem.W.subIn K (.ref c) (.ref d) = some b) : PySem.W.kitOne K (.ref c) (.ref d) = some b := by
  show (if (Value.ref c == Value.ref d) = true then some true else PySem.W.kitCls K (.ref c) (.ref d)) = some b
  by_cases e : (Value.ref c == Value.ref d) = true
  · rw [if_pos e]
    have e' : c = d := Value.ref.inj (beq_iff_eq.mp e)
    subst e'
    rw [k.s] at h
    exact h
  · rw [if_neg e]
    show (if ((PySem.W.clsIn K d).isSome && PySem.W.typeIn K (.ref d) == some (.type "type")) = true then PySem.W.subIn K (.ref c) (.ref d) else none) = some b
    rw [if_pos (by rw [show (PySem.W.clsIn K d).isSome = true from k.i, k.t]; rfl)]
    exact h
theorem kit_t {K : PySem.W.Frag} {c : Addr} {x : String} {b : Bool} (hm : PySem.W.kitMeta x = true) (h : PySem.W.subIn K (.ref c) (.type x) = some b) : PySem.W.kitOne K (.ref c) (.type x) = some b := by
  show (if (Value.ref c == Value.type x) = true then some true else PySem.W.kitCls K (.ref c) (.type x)) = some b
  rw [if_neg (show ¬ (Value.ref c == Value.type x) = true from by simp)]
  show (if PySem.W.kitMeta x = true then PySem.W.subIn K (.ref c) (.type x) else none) = some b
  rw [if_pos hm]
  exact h
/-- the rows of a table -/
abbrev TabL := List ((TN × TN) × Bool)
def tabOf (l : TabL) : Tab := fun t u => match t, u with
  | .b x, .b y => kitB x y
  | t, u => (l.find? fun r => decide (r.1 = (t, u))).map (·.2)
def rowOk (mg : Mg) (r : (TN × TN) × Bool) : Prop := ∀ tv uv, r.1.1.at mg tv → r.1.2.at mg uv → PySem.W.kitOne mg.K tv uv = some r.2
theorem tabOf_mem {l : TabL} {t u : TN} {b : Bool} (h : tabOf l t u = some b) : (∃ x y, t = .b x ∧ u = .b y ∧ kitB x y = some b) ∨ ((t, u), b) ∈ l := by
  have key : (l.find? fun r => decide (r.1 = (t, u))).map (·.2) = some b → ((t, u), b) ∈ l := fun h => by
    obtain ⟨r, hr, rfl⟩ := Option.map_eq_some_iff.mp h
    have e := List.find?_some hr
    have e' : r.1 = (t, u) := by simpa using e
    rw [← e']
    exact List.mem_of_find?_eq_some hr
  unfold tabOf at h
  split at h
  · exact .inl ⟨_, _, rfl, rfl, h⟩
  · exact .inr (key h)
theorem tabOk_of {mg : Mg} {l : TabL} (h : ∀ r ∈ l, rowOk mg r) (hi : ∀ n u b, ((TN.c n, u), b) ∈ l → ∀ c, mg.m n = some (.ref c) → ClsTy mg.K c) (he : ∀ n u b, ((TN.e n, u), b) ∈ l → ∀ c, mg.m n = some (.ref c) → ExcC mg.K c) : TabOk mg (tabOf l) where
  one := fun t u b e tv uv ht hu => by
    rcases tabOf_mem e with ⟨x, y, rfl, rfl, hk⟩ | hm
    · cases ht; cases hu; exact kit_ty hk
    · exact h _ hm tv uv ht hu
  ins := fun n u b e c hc => by
    rcases tabOf_mem e with ⟨x, y, z, _⟩ | hm
    · cases z
    · exact hi n u b hm c hc
  exc := fun n u b e c hc => by
    rcases tabOf_mem e with ⟨x, y, z, _⟩ | hm
    · cases z
    · exact he n u b hm c hc
section
variable {mg : Mg} {n m : Str} {x : String} {c d : Addr} {b : Bool}
theorem row_bc (hd : mg.m m = some (.ref d)) (k : ClsK mg.K d) (h : PySem.W.subIn mg.K (.type x) (.ref d) = some b) : rowOk mg ((.b x, .c m), b) := fun tv uv ht hu => by
  cases ht
  obtain ⟨a, ha, rfl⟩ := hu
  rw [hd] at ha; cases ha
  exact kit_b k h
theorem row_cc (hc : mg.m n = some (.ref c)) (hd : mg.m m = some (.ref d)) (k : ClsK mg.K d) (h : PySem.W.subIn mg.K (.ref c) (.ref d) = some b) : rowOk mg ((.c n, .c m), b) := fun tv uv ht hu => by
  obtain ⟨a, ha, rfl⟩ := ht
  rw [hc] at ha; cases ha
  obtain ⟨a, ha, rfl⟩ := hu
  rw [hd] at ha; cases ha
  exact kit_c k h
theorem row_ec (hc : mg.m n = some (.ref c)) (hd : mg.m m = some (.ref d)) (k : ClsK mg.K d) (h : PySem.W.subIn mg.K (.ref c) (.ref d) = some b) : rowOk mg ((.e n, .c m), b) := fun tv uv ht hu => by
  obtain ⟨a, ha, rfl⟩ := ht
  rw [hc] at ha; cases ha
  obtain ⟨a, ha, rfl⟩ := hu
  rw [hd] at ha; cases ha
  exact kit_c k h
theorem row_cb (hc : mg.m n = some (.ref c)) (hm : PySem.W.kitMeta x = true) (h : PySem.W.subIn mg.K (.ref c) (.type x) = some b) : rowOk mg ((.c n, .b x), b) := fun tv uv ht hu => by
  obtain ⟨a, ha, rfl⟩ := ht
  rw [hc] at ha; cases ha
  cases hu
  exact kit_t hm h
theorem row_eb (hc : mg.m n = some (.ref c)) (hm : PySem.W.kitMeta x = true) (h : PySem.W.subIn mg.K (.ref c) (.type x) = some b) : rowOk mg ((.e n, .b x), b) := fun tv uv ht hu => by
  obtain ⟨a, ha, rfl⟩ := ht
  rw [hc] at ha; cases ha
  cases hu
  exact kit_t hm h
end
/-- which classes a clause catches: rows (class, caught) -/
def exmL (l : List (Str × Bool)) : Exm := fun n => (l.find? fun r => decide (r.1 = n)).map (·.2)
theorem exmOk_of {mg : Mg} {n : Str} {d : Addr} {l : List (Str × Bool)} (hd : mg.m n = some (.ref d)) (h1 : PySem.W.subIn mg.K (.ref d) (.type "BaseException") = some true) (h2 : PySem.W.hasDictIn mg.K d = true) (h3 : PySem.W.typeIn mg.K (.ref d) = some (.type "type"))
    (h : ∀ r ∈ l, ∀ c, mg.m r.1 = some (.ref c) → PySem.W.subIn mg.K (.ref c) (.ref d) = some r.2) : ExmOk mg n (exmL l) where
  one := fun C b e c d' hc hd' => by
    obtain ⟨r, hr, rfl⟩ := Option.map_eq_some_iff.mp e
    have e' : r.1 = C := by simpa using List.find?_some hr
    subst e'
    rw [hd] at hd'
    cases hd'
    exact PySem.W.exm_ref h1 h2 h3 (h r (List.mem_of_find?_eq_some hr) c hc)
theorem attr_fld {At : AT} {fl : Str} {d : D} {t : TN} {P : D → Prop} (ht : tyG d = some t) (h : At t = some none) : attrD At fl d P = ∃ v, (fldsD d).lookup fl = some v ∧ P v := by
  unfold attrD
  rw [ht, Option.bind_some, h]
theorem attr_prop {At : AT} {fl : Str} {d : D} {t : TN} {sp : Spd} {P : D → Prop} (ht : tyG d = some t) (h : At t = some (some sp)) : attrD At fl d P = sp [d] P NoX := by
  unfold attrD
  rw [ht, Option.bind_some, h]
end Z

/-! Z: max, min of tuples; [..] * n; rooms. -/
namespace Z
open PySem PySem.Spec PyProof.Rows L2
theorem maxOf_ok (x : Int) (xs : List Int) : PySem.W.maxOf x xs ∈ x :: xs ∧ ∀ y ∈ x :: xs, y ≤ PySem.W.maxOf x xs := by
  unfold PySem.W.maxOf
  induction xs generalizing x with
  | nil => simp
  | cons z xs ih =>
    rw [List.foldl_cons]
    by_cases c : PySem.W.DatumOrd.lt x z = true
    · rw [if_pos c]
      have c' : x < z := of_decide_eq_true c
      obtain ⟨h1, h2⟩ := ih z
      refine ⟨List.mem_cons_of_mem _ h1, fun y hy => ?_⟩
      rcases List.mem_cons.mp hy with e | hy
      · rw [e]; exact Int.le_trans (Int.le_of_lt c') (h2 z List.mem_cons_self)
      · exact h2 y hy
    · rw [if_neg c]
      have c' : z ≤ x := by
        have : ¬ x < z := fun z' => c (decide_eq_true z')
        omega
      obtain ⟨h1, h2⟩ := ih x
      refine ⟨?_, fun y hy => ?_⟩
      · rcases List.mem_cons.mp h1 with e | h1
        · rw [e]; exact List.mem_cons_self
        · exact List.mem_cons_of_mem _ (List.mem_cons_of_mem _ h1)
      · rcases List.mem_cons.mp hy with e | hy
        · rw [e]; exact h2 x List.mem_cons_self
        · rcases List.mem_cons.mp hy with e | hy
          · rw [e]; exact Int.le_trans c' (h2 x List.mem_cons_self)
          · exact h2 y (List.mem_cons_of_mem _ hy)
def maxT (x : D) (P : D → Prop) : Prop := match x with
  | .tup l => ∃ ns : List Int, l = ns.map D.int ∧ 0 < ns.length ∧ ∀ m, m ∈ ns → (∀ y, y ∈ ns → y ≤ m) → P (.int m)
  | x => cMax [x] P
def cMaxG : Cd := fun ds P => match ds with
  | [x] => maxT x P
  | ds => cMax ds P
theorem cMaxG_2 {i j : Int} {P : D → Prop} : cMaxG [.int i, .int j] P = P (.int (if j > i then j else i)) := rfl
theorem cMaxG_l {l : List D} {P : D → Prop} : cMaxG [.lst l] P = ∃ ns : List Int, l = ns.map D.int ∧ 0 < ns.length ∧ ∀ m, m ∈ ns → (∀ y, y ∈ ns → y ≤ m) → P (.int m) := rfl
theorem cMaxG_t {l : List D} {P : D → Prop} : cMaxG [.tup l] P = ∃ ns : List Int, l = ns.map D.int ∧ 0 < ns.length ∧ ∀ m, m ∈ ns → (∀ y, y ∈ ns → y ≤ m) → P (.int m) := rfl
section
variable {X : Cx} {W : WX} {mg : Mg} {pos : Pos} {a b : Expr} {tf : TAd} {tb : TEd}
theorem cr_maxG (hc : X.calm = true) (hu : X.A.units + 64 < cLine) : CallR X (.builtin "max") (cL (gd X) cMaxG) := by
  intro pins s σ H xs us Q I r h
  obtain ⟨S, ds, P, sh, r1, ho, k⟩ := h
  have rest : cMax ds P → wpAny (model X.prog X.w) X.A (call (.builtin "max") us) (EP X pins σ Q) X.xe s := fun ho => cr_maxD hc pins s σ H xs us Q I r ⟨S, ds, P, sh, r1, ho, k⟩
  match ds, ho with
  | [], ho => exact rest ho
  | _ :: _ :: _, ho => exact rest ho
  | [x], ho =>
    cases x <;> first | exact rest ho | skip
    obtain ⟨ns, rfl, h0, ho⟩ := ho
    obtain ⟨v, rfl, q⟩ := r1.one_inv
    cases q with
    | @tup p vs _ e q =>
      have q' := q.ints_inv
      subst q'
      have hq : SqT X.K H p (ns.map V.int) := .inl (.inl (sh _ _ e))
      obtain ⟨its, rv, pl, _⟩ := I.tuple hq
      rw [Vals.ref1 r]
      match ns, h0 with
      | n :: ns, _ =>
        refine PySem.W.max_tuple_datum (α := Int) (x := n) (xs := ns) (I.ok.hd hc) (show s.heap.IsTuple p its.toArray from pl) (by simpa using PySem.W.HoldAll.of_ints (RZ.intsAre_vals rv)) (by show X.A.units + 1 + 0 < cLine; omega) fun i v h' tk hi hv hk => ?_
        obtain ⟨as, hr⟩ := hv
        have hr' : Reads h' v (.int (PySem.W.maxOf n ns)) as := hr
        cases hr'
        obtain ⟨m1, m2⟩ := maxOf_ok n ns
        exact ⟨.int _, H, I.kept hk, ⟨_, rfl⟩, k _ (ho _ m1 m2) _ S H (.refl sh) (.int _)⟩
/-- [..] * n -/
def repD (l : List D) (y : D) (P : List D → Prop) : Prop := match y with | .int k => -(2 ^ 63) ≤ k ∧ k < 2 ^ 63 ∧ l.length * k.toNat ≤ sizeLine ∧ P (List.replicate k.toNat l).flatten | _ => False
def fRep (tf : TAd) (tb : TEd) : TAd := fun ρ P Xp => tf ρ (fun l => tb ρ (fun y => repD l y P) Xp) Xp
theorem Reps.rep {S : Hp} {vs : List V} {ds : List D} (h : Reps mg S vs ds) : ∀ n : Nat, Reps mg S (List.replicate n vs).flatten (List.replicate n ds).flatten
  | 0 => .nil
  | n + 1 => by
    rw [List.replicate_succ, List.replicate_succ, List.flatten_cons, List.flatten_cons]
    exact h.append (Reps.rep h n)
theorem df_rep (ha : DF X W a tf) (hb : DE X W b tb) : DF X W (.BinOp a .Mult b pos) (fRep tf tb) := PE.weak (pe_op op_rep ha hb) fun σ H Q ⟨S0, H0, S, ρ, P, Xp, R, h, k, x⟩ =>
  ⟨S0, H0, S, ρ, _, Xp, R, h, fun l hl p vs S1 H1 w1 hp hs e r => ⟨S0, H0, S1, ρ, _, Xp, R.grow w1, hl, fun y hy u S2 H2 w2 r2 => by
    cases r2 <;> first | exact hy.elim | skip
    obtain ⟨h1, h2, hz, hP⟩ := hy
    have r' := r.mono w2.ss
    refine ⟨p, _, vs, rfl, rfl, w2.hh _ _ e, h1, h2, by rw [r.length]; exact hz, fun q hq => ?_⟩
    have w := w1.trans w2
    have hsq : S2 q = none := w2.sfree hq
    exact k _ hP q _ S2 _ (w.mut _ (w.free hq) hsq) (w.free hq) hsq upd_same (r'.rep _), x.grow w1⟩, x⟩
end
theorem hotU {k : Nat} {A : Around} (r : L2H.RoomH k A) : A.units + 64 < cLine := by have := r.un; omega
theorem roomH_suite {k : Nat} {A : Around} (r : Room k A) (h : Option Value) : L2H.RoomH k (A.mark h) := ⟨r.dp, r.un⟩
/-- no values but own ones have the operator -/
def oNone : O2 := fun _ _ _ => False
theorem or_none {X : Cx} {f : Value → Value → Sem Value} : OpR X f (rL (gd X) oNone) := by
  intro pins s σ H x y v u Q I rx ry ⟨S, dx, dy, P, sh, r1, r2, ho, k⟩
  exact ho.elim
end Z

/-! Z: is None; slices; insert; comprehensions of two clauses. -/
namespace Z
open PySem PySem.Spec PyProof.Rows L2
def isNon : D → Bool
  | .non => true
  | _ => false
theorem Rep.isNon {mg : Mg} {S : Hp} {v : V} {d : D} (r : Rep mg S v d) : decide (v = V.non) = Z.isNon d := by
  cases r <;> first | rfl | (exact decide_eq_false (by intro z; cases z))
def oIsN (neg : Bool) : O2 := fun x y P => y = .non ∧ P (.bl (if neg then !isNon x else isNon x))
theorem oIs_eq {x : D} {P : D → Prop} : oIsN false x .non P = P (.bl (isNon x)) := propext ⟨fun ⟨_, h⟩ => h, fun h => ⟨rfl, h⟩⟩
theorem oIsnot_eq {x : D} {P : D → Prop} : oIsN true x .non P = P (.bl (!isNon x)) := propext ⟨fun ⟨_, h⟩ => h, fun h => ⟨rfl, h⟩⟩
theorem isNon_non : isNon .non = true := rfl
theorem isNon_bl {b : Bool} : isNon (.bl b) = false := rfl
theorem isNon_int {b : Int} : isNon (.int b) = false := rfl
theorem isNon_str {b : Str} : isNon (.str b) = false := rfl
theorem isNon_tup {b : List D} : isNon (.tup b) = false := rfl
theorem isNon_lst {b : List D} : isNon (.lst b) = false := rfl
theorem isNon_ins {C : Str} {b : List (Str × D)} : isNon (.ins C b) = false := rfl
section
variable {X : Cx} {W : WX} {mg : Mg} {pos p2 : Pos} {e : Expr} {te tl th : TEd}
theorem or_is : OpR X (compareOp .Is) (rL (gd X) (oIsN false)) := by
  intro pins s σ H x y v u Q I rx ry ⟨S, dx, dy, P, sh, r1, r2, ⟨e, ho⟩, k⟩
  subst e
  have ey := r2.non_inv
  subst ey
  exact op_isN pins s σ H x _ v u Q I rx ry ⟨rfl, by rw [r1.isNon]; exact k _ ho _ S H (.refl sh) (.bl _)⟩
theorem or_isnot : OpR X (compareOp .IsNot) (rL (gd X) (oIsN true)) := by
  intro pins s σ H x y v u Q I rx ry ⟨S, dx, dy, P, sh, r1, r2, ⟨e, ho⟩, k⟩
  subst e
  have ey := r2.non_inv
  subst ey
  exact op_notN pins s σ H x _ v u Q I rx ry ⟨rfl, by rw [r1.isNon]; exact k _ ho _ S H (.refl sh) (.bl _)⟩
/-! ### slices -/
def cutD {α : Type} (l : List α) (lo hi : Option Int) : List α := (l.drop (HT.sIx l.length 0 lo)).take (HT.sIx l.length l.length hi - HT.sIx l.length 0 lo)
theorem Reps.cut {S : Hp} {vs : List V} {ds : List D} (r : Reps mg S vs ds) (lo hi : Option Int) : Reps mg S (cutV vs lo hi) (cutD ds lo hi) := by
  unfold cutV cutD
  rw [r.length]
  exact (r.drop _).take _
theorem cutD_all {α : Type} {l : List α} {lo hi : Option Int} (h : HT.sIx l.length 0 lo = 0 ∧ HT.sIx l.length l.length hi = l.length) : cutD l lo hi = l := by
  unfold cutD
  rw [h.1, h.2, List.drop_zero, Nat.sub_zero, List.take_length]
def oSl (x : D) (lo hi : Option Int) (P : D → Prop) : Prop := match x with
  | .lst l => P (.lst (cutD l lo hi))
  | .scr l => P (.lst (cutD l lo hi))
  | .tup l => P (.tup (cutD l lo hi))
  | .str y => y.length ≤ sizeLine ∧ P (.str (L2.cutS y lo hi))
  | _ => False
abbrev TOd := En → (Option Int → Prop) → Xd → Prop
def pNo : TOd := fun _ P _ => P none
def pSome (t : TEd) : TOd := fun ρ P Xp => t ρ (fun d => ixD d fun n => P (some n)) Xp
def eSl (t : TEd) (a b : TOd) : TEd := fun ρ P Xp => t ρ (fun x => a ρ (fun lo => b ρ (fun hi => oSl x lo hi P) Xp) Xp) Xp
def liftO (mg : Mg) (W : WX) (to : TOd) : TO := fun σ H Q => ∃ S0 H0 S ρ P Xp, RE mg S0 H0 S H σ ρ ∧ to ρ P Xp ∧ (∀ o, P o → ∀ S' H', Wd S H S' H' → Q o H') ∧ xOk mg W σ S H Xp
abbrev DO (X : Cx) (W : WX) (e : Option Expr) (to : TOd) : Prop := PO X e (liftO (gd X) W to)
theorem PO.weak {X : Cx} {e : Option Expr} {t t' : TO} (h : PO X e t) (w : ∀ σ H Q, t' σ H Q → t σ H Q) : PO X e t' := ⟨fun pins s σ H Q I q => h.run pins s σ H Q I (w σ H Q q)⟩
theorem do_none : DO X W none pNo := PO.weak po_none fun σ H Q ⟨S0, H0, S, ρ, P, Xp, R, h, k, x⟩ => k _ h S H (.refl R.wd.sh)
theorem do_some (h : DE X W e te) : DO X W (some e) (pSome te) := PO.weak (po_some h) fun σ H Q ⟨S0, H0, S, ρ, P, Xp, R, h, k, x⟩ =>
  ⟨S0, H0, S, ρ, _, Xp, R, h, fun d hd v S1 H1 w1 r1 => by
    cases r1 <;> first | exact hd.elim | skip
    exact ⟨_, rfl, k _ hd S1 H1 w1⟩, x⟩
/-- slices of lists, tuples and texts -/
def rSlD (mg : Mg) : V → Option Int → Option Int → Hp → VK → Prop := fun x lo hi H Q => ∃ S dx P, Same S H ∧ Rep mg S x dx ∧ oSl dx lo hi P ∧ vOk mg S H P Q
theorem vOk.newL {S H : Hp} {P : D → Prop} {Q : VK} (k : vOk mg S H P Q) (sh : Same S H) {vs : List V} {ds : List D} (r : Reps mg S vs ds) (h : P (.lst ds)) {p : Addr} (hp : H p = none) : Q (.ref p) (upd H p (.lst vs)) := by
  have ss : Same S (upd S p (.lst vs)) := fun q v e => by rw [upd_ne (ne_of_none (sh _ _ e) hp)]; exact e
  exact k _ h _ _ _ ((Wd.refl sh).new hp _) (.lst (.inl upd_same) (r.mono ss))
theorem sl_D : SlR X (rSlD (gd X)) := by
  intro pins s σ H x v vl vu lo hi sl Q I rx hs pl pu ⟨S, dx, P, sh, r, ho, k⟩
  cases r with
  | lst e r => exact sl_list pins s σ H _ v vl vu lo hi sl Q I rx hs pl pu ⟨_, _, rfl, .inl (rd_mono sh e), fun p hp => k.newL sh (r.cut lo hi) ho hp⟩
  | scr e r => exact sl_list pins s σ H _ v vl vu lo hi sl Q I rx hs pl pu ⟨_, _, rfl, sq_mono sh e, fun p hp => k.newL sh (r.cut lo hi) ho hp⟩
  | tup e r =>
    refine sl_tupA pins s σ H _ v vl vu lo hi sl Q I rx hs pl pu ⟨_, _, rfl, .inl (.inl (sh _ _ e)), fun h => ?_, fun h p hp => ?_⟩
    · rw [r.length] at h
      rw [show oSl (.tup _) lo hi P = P (.tup (cutD _ lo hi)) from rfl, cutD_all h] at ho
      exact k _ ho _ S H (.refl sh) (.tup e r)
    · exact k.tup (.refl sh) (r.cut lo hi) ho hp
  | str y => exact sl_str pins s σ H _ v vl vu lo hi sl Q I rx hs pl pu ⟨_, rfl, ho.1, k _ ho.2 _ S H (.refl sh) (.str _)⟩
  | _ => exact ho.elim
theorem de_slice {lo hi : Option Expr} {a b : TOd} (he : DE X W e te) (hl : DO X W lo a) (hu : DO X W hi b) : DE X W (.Subscript e (.Slice lo hi none p2) pos) (eSl te a b) :=
  PE.weak (pe_slice sl_D he hl hu) fun σ H Q ⟨S0, H0, S, ρ, P, Xp, R, h, k, x⟩ =>
    ⟨S0, H0, S, ρ, _, Xp, R, h, fun d hd v S1 H1 w1 r1 => ⟨S0, H0, S1, ρ, _, Xp, R.grow w1, hd, fun lo hlo S2 H2 w2 => ⟨S0, H0, S2, ρ, _, Xp, R.grow (w1.trans w2), hlo, fun hi hhi S3 H3 w3 =>
      ⟨S3, d, P, w3.sh, r1.mono (w2.trans w3).ss, hhi, k.grow ((w1.trans w2).trans w3)⟩, x.grow (w1.trans w2)⟩, x.grow w1⟩, x⟩
/-! ### insert -/
def sIns (i : Nat) (tix te : TEd) : TSd := fun Φ ρ => ∃ l, ρ[i]? = some (.own (.lst l)) ∧ tix ρ (fun z => ixD z fun n => te ρ (fun d => l.length < sizeLine ∧ 0 ≤ n ∧ n < 2 ^ 63 ∧ Φ.nx (ρ.set i (.own (.lst (l.take n.toNat ++ [d] ++ l.drop n.toNat))))) (fun C fs => Φ.xc C fs ρ)) (fun C fs => Φ.xc C fs ρ)
abbrev rInsert : V → List V → Hp → VK → Prop := fun x vs H Q => ∃ (l : Addr) (xs : List V) (i : Int) (y : V), x = .ref l ∧ vs = [.int i, y] ∧ H l = some (.lst xs) ∧ xs.length < sizeLine ∧ 0 ≤ i ∧ i < 2 ^ 63 ∧
    Q .non (upd H l (.lst (xs.take i.toNat ++ [y] ++ xs.drop i.toNat)))
theorem lift_ins {K : PySem.W.Frag} {i : Nat} {tix : TEd} (D : Ends) (σ : L2.St) (H : Hp) (h : liftS mg W (sIns i tix te) D σ H) : L2.tDrop (tBM K "list" rInsert (tVar i) (L2.tCons (liftE mg W tix) (L2.tCons (liftE mg W te) L2.tNil))) D σ H := by
  obtain ⟨S0, H0, S, ρ, Φ, R, ⟨l, hl, h⟩, k⟩ := h
  obtain ⟨p, h1, h2, h3, vs, h4, h5⟩ := R.at hl
  refine ⟨_, h1, tyV_list h4, S0, H0, S, ρ, _, _, R, h, fun z hz v S1 H1 w1 r1 => ?_, k.x R⟩
  cases r1 <;> first | exact hz.elim | skip
  have R1 := R.grow w1
  refine ⟨S0, H0, S1, ρ, _, _, R1, hz, fun d hd u S2 H2 w2 r2 => ?_, (k.mono w1.ss).x R1⟩
  have w := w1.trans w2
  have R2 := R.grow w
  have e1 := w.hh _ _ h4
  exact ⟨p, vs, _, u, rfl, rfl, e1, by rw [h5.length]; exact hd.1, hd.2.1, hd.2.2.1, k.nx _ hd.2.2.2 _ S2 _ (R2.mut hl h1 ⟨_, upd_same, (((h5.mono w.ss).take _).append (.one r2)).append ((h5.mono w.ss).drop _)⟩) w.ss⟩
theorem ds_ins {o ix : Expr} {i : Nat} {tix : TEd} {apos cpos : Pos} (ho : PE X o (tVar i)) (hi : DE X W ix tix) (he : DE X W e te) (hbase : attributeBase o "insert" X.env (eval o X.env) = eval o X.env := by rfl)
    (hfew : ((backTo cpos (starEach [ix, e] X.env)).all (fun x => !x.1) && (backToKw cpos (keywordEach [] X.env)).all (fun x => x.1.isSome)
      && decide (([ix, e] : List Expr).length + ([] : List Keyword).length + (if ([] : List Keyword).isEmpty then 0 else 1) < 30)) = true := by rfl)
    (hline : (apos.endLine == cpos.line) = true := by rfl) (hs : starEach [ix, e] X.env = (false, eval ix X.env) :: starEach [e] X.env := by rfl) (hs2 : starEach [e] X.env = (false, eval e X.env) :: starEach [] X.env := by rfl) (hplain : (backTo cpos (starEach [e] X.env)).any (·.1) = false := by rfl)
    (hsw : swapsWith (.Call (.Attribute o "insert" apos) [ix, e] [] cpos) none pos.line X.env = pure false := by rfl) : DS X W (.Expr (.Call (.Attribute o "insert" apos) [ix, e] [] cpos) pos) (sIns i tix te) :=
  PS.weak (ps_expr (pe_bm PySem.F.plainAttrs_list PySem.F.slot_list_insert PySem.F.type_list_insert mt_insert ho (pa_cons hi (pa_cons he pa_nil hs2) hs) hbase hfew hline hs hplain) hsw) lift_ins
/-! ### comprehensions of two clauses -/
def fLc2 (ti : TAd) (tg : TGd) (tt : TTd) (ti1 : TAd) (tg1 : TGd) (tt1 : TTd) (te : TEd) (vs vs1 : List Nat) : TAd := fun ρ P Xp => ti ρ (fun items => ∃ I : Nat → List D → Prop, I 0 [] ∧
  (∀ (i : Nat) x acc, items[i]? = some x → I i acc → tg x (wipeD ρ vs) fun ρ2 => tt ρ2 (fun b => if b = true then ti1 ρ2 (fun items1 => ∃ I1 : Nat → List D → Prop, I1 0 acc ∧
    (∀ (j : Nat) y acc, items1[j]? = some y → I1 j acc → tg1 y (wipeD ρ2 vs1) fun ρ3 => tt1 ρ3 (fun b => if b = true then te ρ3 (fun z => acc.length < sizeLine ∧ I1 (j + 1) (acc ++ [z])) NoX else I1 (j + 1) acc) NoX) ∧
    ∀ acc, I1 items1.length acc → I (i + 1) acc) NoX else I (i + 1) acc) NoX) ∧ ∀ acc, I items.length acc → P acc) Xp
/-- what a target leaves: values at vs, all else as it was -/
def GOk (vs : List Nat) (tg : TGd) : Prop := ∀ d ρ P, (∀ i ∈ vs, ∀ o, ρ[i]? ≠ some (.own o)) → tg d ρ P → tg d ρ fun ρ' => P ρ' ∧ wipeD ρ' vs = wipeD ρ vs ∧ ∀ i ∈ vs, ∀ o, ρ'[i]? ≠ some (.own o)
def GsOk (vs : List Nat) (tg : TGsd) : Prop := ∀ ds ρ P, (∀ i ∈ vs, ∀ o, ρ[i]? ≠ some (.own o)) → tg ds ρ P → tg ds ρ fun ρ' => P ρ' ∧ wipeD ρ' vs = wipeD ρ vs ∧ ∀ i ∈ vs, ∀ o, ρ'[i]? ≠ some (.own o)
theorem gok_name {i : Nat} {vs : List Nat} (hi : i ∈ vs := by decide) : GOk vs (gN i) := fun d ρ P ho h => by
  refine ⟨h, ?_, fun j hj o z => ?_⟩
  · apply List.ext_getElem?
    intro j
    rw [wipeD_get, wipeD_get, List.length_set]
    by_cases c : i = j
    · subst c
      by_cases hl : i < ρ.length
      · rw [if_pos ⟨hi, hl⟩, if_pos ⟨hi, hl⟩]
      · rw [List.set_eq_of_length_le (by omega)]
    · rw [List.getElem?_set_ne c]
  · by_cases c : i = j
    · subst c
      by_cases hl : i < ρ.length
      · rw [List.getElem?_set_self hl] at z; cases z
      · rw [List.getElem?_eq_none (by rw [List.length_set]; omega)] at z; cases z
    · rw [List.getElem?_set_ne c] at z
      exact ho j hj o z
theorem gsok_nil {vs : List Nat} : GsOk vs gsNil := fun ds ρ P ho h => ⟨h.1, h.2, rfl, ho⟩
theorem gsok_cons {vs : List Nat} {t : TGd} {u : TGsd} (h1 : GOk vs t) (h2 : GsOk vs u) (hm : ∀ d ρ (P Q : En → Prop), (∀ r, P r → Q r) → t d ρ P → t d ρ Q) (hm2 : ∀ d ρ (P Q : En → Prop), (∀ r, P r → Q r) → u d ρ P → u d ρ Q) : GsOk vs (gsCons t u) := fun ds ρ P ho h => by
  cases ds with
  | nil => exact h
  | cons d r =>
    show t d ρ _
    refine hm _ _ _ _ (fun ρ1 ⟨q, e, o⟩ => ?_) (h1 d ρ _ ho h)
    exact hm2 _ _ _ _ (fun ρ2 ⟨q2, e2, o2⟩ => ⟨q2, e2.trans e, o2⟩) (h2 r ρ1 _ o q)
theorem gok_tup {vs : List Nat} {n : Nat} {u : TGsd} (h : GsOk vs u) : GOk vs (gTup n u) := fun d ρ P ho q => by
  cases d <;> first | exact q | skip
  exact ⟨q.1, h _ ρ P ho q.2⟩
theorem RE.join {S0 H0 S H S3 H3 S6 H6 : Hp} {σ σ3 : L2.St} {ρ ρ3 : En} {vs : List Nat} (R : RE mg S0 H0 S H σ ρ) (R3 : RE mg S0 H0 S3 H3 σ3 ρ3) (es : L2.wipe σ3 vs = L2.wipe σ vs) (er : wipeD ρ3 vs = wipeD ρ vs)
    (no : ∀ i ∈ vs, ∀ o, ρ3[i]? ≠ some (.own o)) (w : Wd S H S6 H6) (ss : Same S3 S6) : RE mg S0 H0 S6 H6 σ3 ρ3 := by
  have R6 := R.grow w
  obtain ⟨A, h1, h2⟩ := R6.own
  have old : ∀ (i : Nat) (o : Ow), ρ3[i]? = some (.own o) → ρ[i]? = some (.own o) ∧ σ3[i]? = σ[i]? := fun i o e => by
    have hi : i ∉ vs := fun z => no i z o e
    have e1 := congrArg (·[i]?) er
    have e2 := congrArg (·[i]?) es
    simp only [wipeD_get, wipe_get, hi, false_and, if_false] at e1 e2
    exact ⟨e1 ▸ e, e2⟩
  refine ⟨R6.wd, R3.len, fun i d e => ?_, A, fun i o e => ?_, fun i j o o' a b => h2 i j o o' (old i o a).1 (old j o' b).1⟩
  · obtain ⟨v, hv, r⟩ := R3.val i d e
    exact ⟨v, hv, r.mono ss⟩
  · have q := old i o e
    rw [q.2]; exact h1 i o q.1
theorem lift_lc2 {ti : TAd} {tg : TGd} {tt : TTd} {ti1 : TAd} {tg1 : TGd} {tt1 : TTd} {vs vs1 : List Nat} (go : GOk vs tg) (σ : L2.St) (H : Hp) (Q : VK) (h : liftF mg W (fLc2 ti tg tt ti1 tg1 tt1 te vs vs1) σ H Q) :
    tLc2 (liftI mg W ti) (liftG mg vs tg) (liftT mg W0 tt) (liftI mg W0 ti1) (liftG mg vs1 tg1) (liftT mg W0 tt1) (liftE mg W0 te) vs vs1 σ H Q := by
  obtain ⟨S0, H0, S, ρ, P, Xp, R, h, k, x⟩ := h
  refine ⟨S0, H0, S, ρ, _, Xp, R, h, fun items ⟨I, i0, iS, iE⟩ J S1 H1 w1 ok D hD => ?_, x⟩
  have hDH : H D = none := w1.free hD
  refine ⟨fun i m H' => ∃ S' acc vl, Wd S H S' H' ∧ Same S1 S' ∧ S' D = none ∧ H' D = some (.lst vl) ∧ Reps mg S' vl acc ∧ I i acc ∧ i + m = items.length,
    ⟨items.length, S1, [], [], w1.mut _ hDH (w1.sfree hD), Same.refl _, w1.sfree hD, upd_same, .nil, i0, by omega⟩, fun i m H' ⟨S', acc, vl, w', s', hs', e', r', hI, em⟩ => ?_⟩
  by_cases hi : i < items.length
  · refine .inr ⟨ok.go i H' (s'.trans w'.sh) hi, fun H2 => ∃ S2 acc2 vl2, Wd S H S2 H2 ∧ Same S1 S2 ∧ S2 D = none ∧ H2 D = some (.lst vl2) ∧ Reps mg S2 vl2 acc2 ∧ I (i + 1) acc2, fun H2 ⟨S2, acc2, vl2, w2, s2, hs2, e2, r2, hI2⟩ => ⟨m - 1, by omega, S2, acc2, vl2, w2, s2, hs2, e2, r2, hI2, by omega⟩, fun v H2 hy => ?_⟩
    obtain ⟨S2, w2, r2⟩ := ok.yld i S' H' v H2 s' w'.sh hy _ (List.getElem?_eq_getElem hi)
    have w02 := w'.trans w2
    have hsD : ∀ S3 H3, Wd S' H' S3 H3 → S3 D = none := fun S3 H3 w => w.nw D hs' (by rw [e']; intro z; cases z)
    refine ⟨S0, H0, S2, _, _, _, (R.grow w02).wipe vs, r2, go _ _ _ (fun j hj o z => ?_) (iS i _ acc (List.getElem?_eq_getElem hi) hI), fun ρ3 ⟨h3, er, no⟩ σ3 S3 H3 R3 ew w3 => ⟨ew.trans wipe_wipe, ?_⟩⟩
    · rw [wipeD_get] at z
      by_cases c : j ∈ vs ∧ j < ρ.length
      · rw [if_pos c] at z; cases z
      · rw [if_neg c, List.getElem?_eq_none (Nat.le_of_not_lt fun q => c ⟨hj, q⟩)] at z; cases z
    have w23 := w2.trans w3
    refine ⟨S0, H0, S3, ρ3, _, _, R3, h3, fun b hb S4 H4 w4 => ?_, xOk.no⟩
    have w24 := w23.trans w4
    cases b with
    | false =>
      rw [if_neg Bool.false_ne_true] at hb
      refine iteF ?_
      exact ⟨S4, acc, vl, w'.trans w24, s'.trans w24.ss, hsD _ _ w24, w24.hh _ _ e', r'.mono w24.ss, hb⟩
    | true =>
      rw [if_pos rfl] at hb
      refine iteT ?_
      have R4 := R3.grow w4
      refine ⟨S0, H0, S4, ρ3, _, _, R4, hb, fun items1 ⟨I1, j0, jS, jE⟩ J1 S5 H5 w5 ok1 => ?_, xOk.no⟩
      have w25 := w24.trans w5
      have es : L2.wipe σ3 vs = L2.wipe σ vs := ew.trans wipe_wipe
      have er' : wipeD ρ3 vs = wipeD ρ vs := er.trans (by
        apply List.ext_getElem?
        intro j
        rw [wipeD_get, wipeD_get, wipeD_length]
        split <;> rfl)
      refine ⟨fun j k' H6 => ∃ S6 acc6 vl6, Wd S H S6 H6 ∧ Same S3 S6 ∧ Same S5 S6 ∧ S6 D = none ∧ H6 D = some (.lst vl6) ∧ Reps mg S6 vl6 acc6 ∧ I1 j acc6 ∧ j + k' = items1.length,
        ⟨items1.length, S5, acc, vl, w'.trans w25, (w4.trans w5).ss, Same.refl _, hsD _ _ w25, w25.hh _ _ e', r'.mono w25.ss, j0, by omega⟩, fun j k' H6 ⟨S6, acc6, vl6, v6, s36, s6, hs6, e6, r6, hI6, em6⟩ => ?_⟩
      have s16 : Same S1 S6 := (s'.trans w23.ss).trans s36
      by_cases hj : j < items1.length
      · refine .inr ⟨ok1.go j H6 (s6.trans v6.sh) hj, fun H7 => ∃ S7 acc7 vl7, Wd S H S7 H7 ∧ Same S3 S7 ∧ Same S5 S7 ∧ S7 D = none ∧ H7 D = some (.lst vl7) ∧ Reps mg S7 vl7 acc7 ∧ I1 (j + 1) acc7, fun H7 ⟨S7, acc7, vl7, a1, a2, a3, a4, a5, a6, a7⟩ => ⟨k' - 1, by omega, S7, acc7, vl7, a1, a2, a3, a4, a5, a6, a7, by omega⟩, fun v H7 hy => ?_⟩
        obtain ⟨S7, w7, r7⟩ := ok1.yld j S6 H6 v H7 s6 v6.sh hy _ (List.getElem?_eq_getElem hj)
        have hsE : ∀ S8 H8, Wd S6 H6 S8 H8 → S8 D = none := fun S8 H8 w => w.nw D hs6 (by rw [e6]; intro z; cases z)
        have R7 := R.join R3 es er' no (v6.trans w7) (s36.trans w7.ss)
        refine ⟨S0, H0, S7, _, _, _, R7.wipe vs1, r7, jS j _ acc6 (List.getElem?_eq_getElem hj) hI6, fun ρ4 h4 σ4 S8 H8 R8 ew8 w8 => ⟨ew8.trans wipe_wipe, ?_⟩⟩
        have w68 := w7.trans w8
        refine ⟨S0, H0, S8, ρ4, _, _, R8, h4, fun b hb S9 H9 w9 => ?_, xOk.no⟩
        have w69 := w68.trans w9
        cases b with
        | true =>
          rw [if_pos rfl] at hb
          refine iteT ?_
          refine ⟨S0, H0, S9, ρ4, _, _, R8.grow w9, hb, fun y hy v5 Sa Ha wa r5 => ?_, xOk.no⟩
          have w6a := w69.trans wa
          have ea : Ha D = some (.lst vl6) := w6a.hh _ _ e6
          have sa : Sa D = none := hsE _ _ w6a
          exact ⟨vl6, ea, by rw [r6.length]; exact hy.1, Sa, acc6 ++ [y], vl6 ++ [v5], (v6.trans w6a).mut _ hDH sa, s36.trans w6a.ss, s6.trans w6a.ss, sa, upd_same, (r6.mono w6a.ss).append (.one r5), hy.2⟩
        | false =>
          rw [if_neg Bool.false_ne_true] at hb
          refine iteF ?_
          exact ⟨S9, acc6, vl6, v6.trans w69, s36.trans w69.ss, s6.trans w69.ss, hsE _ _ w69, w69.hh _ _ e6, r6.mono w69.ss, hb⟩
      · have ej : j = items1.length := by omega
        subst ej
        exact .inl ⟨ok1.stop _ H6 (s6.trans v6.sh) (Nat.le_refl _), S6, acc6, vl6, v6, s16, hs6, e6, r6, jE acc6 hI6⟩
  · have ei : i = items.length := by omega
    subst ei
    exact .inl ⟨ok.stop _ H' (s'.trans w'.sh) (Nat.le_refl _), k acc (iE acc hI) D vl S' H' w' hDH hs' e' r'⟩
theorem blkI {elt tg1 iter1 : Expr} {scope : Scope} {ti1 : TAd} (hc : X.calm = true) (h : ∀ (s : Shared) (H : Hp) (C : Addr) (cl : List (Str × Addr)) (fp : List Addr), DI (X.blk s H scope (compEnvC scope cl C X.env) fp) W0 tg1 iter1 ti1) (s : Shared) (H : Hp) (C : Addr) (cl : List (Str × Addr)) (fp : List Addr) :
    PI (X.blk s H scope (compEnvC scope cl C X.env) fp) tg1 iter1 (liftI (gd X) W0 ti1) := by
  have q := h s H C cl fp
  unfold DI at q
  rw [gd_blk hc] at q
  exact q
theorem df_lc2 {elt tg iter tg1 iter1 : Expr} {ifs ifs1 : List Expr} {scope : Scope} {own : List (Str × Nat)} {vs1 : List Nat} {ti ti1 : TAd} {g g1 : TGd} {tt tt1 : TTd} (hc : X.calm = true) (hN : X.N.Nodup) (hi : DI X W tg iter ti) (ok : BlkOk X.N X.env.scope scope own) (hv : ∀ i ∈ vs1, i ∈ own.map (·.2))
    (hg : ∀ (s : Shared) (H : Hp) (C : Addr) (cl : List (Str × Addr)) (fp : List Addr), DG (X.blk s H scope (compEnvC scope cl C X.env) fp) (own.map (·.2)) tg g) (ht : ∀ (s : Shared) (H : Hp) (C : Addr) (cl : List (Str × Addr)) (fp : List Addr), DTs (X.blk s H scope (compEnvC scope cl C X.env) fp) ifs tt)
    (hi1 : ∀ (s : Shared) (H : Hp) (C : Addr) (cl : List (Str × Addr)) (fp : List Addr), DI (X.blk s H scope (compEnvC scope cl C X.env) fp) W0 tg1 iter1 ti1)
    (hg1 : ∀ (s : Shared) (H : Hp) (C : Addr) (cl : List (Str × Addr)) (fp : List Addr), DG (X.blk s H scope (compEnvC scope cl C X.env) fp) vs1 tg1 g1) (ht1 : ∀ (s : Shared) (H : Hp) (C : Addr) (cl : List (Str × Addr)) (fp : List Addr), DTs (X.blk s H scope (compEnvC scope cl C X.env) fp) ifs1 tt1)
    (he : ∀ (s : Shared) (H : Hp) (C : Addr) (cl : List (Str × Addr)) (fp : List Addr), DE (X.blk s H scope (compEnvC scope cl C X.env) fp) W0 elt te) (go : GOk (own.map (·.2)) g) (hs : ∀ x, foldedSetIterable iter X.env x = pure x := by intro _; rfl) (hs1 : ∀ env x, foldedSetIterable iter1 env x = pure x := by intro _ _; rfl) :
    DF X W (.ListComp elt [⟨tg, iter, ifs, 0⟩, ⟨tg1, iter1, ifs1, 0⟩] scope pos) (fLc2 ti g tt ti1 g1 tt1 te (own.map (·.2)) vs1) :=
  PE.weak (pe_lc2 hc hN hi ok hv (blkG hc hg) (blkT hc ht) (blkI (elt := elt) hc hi1) (blkG hc hg1) (blkT hc ht1) (blkE hc he) hs hs1) (lift_lc2 go)
end
end Z

/-! Z: equations for dicts, attributes, errors. -/
namespace Z
open PySem PySem.Spec PyProof.Rows L2
section
variable {i j : Int} {x : Str} {l : List (Key × D)} {m : List (List Key × D)} {d : D} {P : Option D → Prop} {PO : Ow → Prop} {PI : Int → Prop} {ls : List D}
theorem kD_int {k : Key} (h : D.int i = kD k) : k = .inl i := by
  cases k with
  | inl n => exact congrArg _ (D.int.inj h).symm
  | inr y => cases h
theorem kDs_int : ∀ {ns : List Int} {ks : List Key}, ns.map D.int = ks.map kD → ks = ns.map .inl
  | [], [], _ => rfl
  | [], _ :: _, h => by simp at h
  | _ :: _, [], h => by simp at h
  | n :: ns, k :: ks, h => by
    rw [List.map_cons, List.map_cons] at h
    injection h with h1 h2
    rw [kD_int h1, kDs_int h2]; rfl
theorem getO_int : getO (.dk l) (.int i) P = P (lkD l (.inl i)) := propext ⟨fun ⟨k, e, h⟩ => by rw [kD_int e] at h; exact h, fun h => ⟨.inl i, rfl, h⟩⟩
theorem putO_int : putO (.dk l) (.int i) d PO = (l.length < sizeLine ∧ PO (.dk (putKD l (.inl i) d))) := propext ⟨fun ⟨k, e, h⟩ => by rw [kD_int e] at h; exact h, fun h => ⟨.inl i, rfl, h⟩⟩
theorem kD_map_int (ns : List Int) : (ns.map Sum.inl : List Key).map kD = ns.map D.int := by rw [List.map_map]; rfl
theorem getO_tups {ns : List Int} : getO (.dt m) (.tup (ns.map D.int)) P = P (lkD m (ns.map .inl)) := propext ⟨fun ⟨k, e, h⟩ => by
  rw [kDs_int (D.tup.inj e)] at h; exact h, fun h => ⟨ns.map .inl, by rw [kD_map_int], h⟩⟩
theorem putO_tups {ns : List Int} : putO (.dt m) (.tup (ns.map D.int)) d PO = (m.length < sizeLine ∧ PO (.dt (putKD m (ns.map .inl) d))) := propext ⟨fun ⟨k, e, h⟩ => by
  rw [kDs_int (D.tup.inj e)] at h; exact h, fun h => ⟨ns.map .inl, by rw [kD_map_int], h⟩⟩
theorem lenO_lst : lenO (.lst ls) PI = PI ls.length := rfl
theorem lenO_dk : lenO (.dk l) PI = PI l.length := rfl
theorem lenO_dt : lenO (.dt m) PI = PI m.length := rfl
/-- a kind of dict: its keys as data -/
structure DKind (κ : Type) [DecidableEq κ] where
  key : κ → D
  ow : List (κ × D) → Ow
  get : ∀ l k P, P (lkD l k) → getO (ow l) (key k) P
  put : ∀ l k d P, l.length < sizeLine → P (ow (putKD l k d)) → putO (ow l) (key k) d P
  len : ∀ l P, P (l.length : Int) → lenO (ow l) P
  ini : ow [] = .dk [] ∨ ow [] = .dt []
section
variable {κ μ : Type} [DecidableEq κ] [DecidableEq μ] {f : κ → μ}
theorem lkD_inj (hf : ∀ a b, f a = f b → a = b) (l : List (κ × D)) (k : κ) : lkD (l.map fun p => (f p.1, p.2)) (f k) = lkD l k := by
  induction l with
  | nil => rfl
  | cons p l ih =>
    rw [List.map_cons]
    by_cases c : p.1 = k
    · rw [lkD_pos (by show f p.1 = _; rw [c]), lkD_pos c]
    · rw [lkD_neg (fun z => c (hf _ _ z)), lkD_neg c]; exact ih
theorem putKD_inj (hf : ∀ a b, f a = f b → a = b) (l : List (κ × D)) (k : κ) (d : D) : putKD (l.map fun p => (f p.1, p.2)) (f k) d = (putKD l k d).map fun p => (f p.1, p.2) := by
  unfold putKD
  have a : ((l.map fun p => (f p.1, p.2)).any fun kv => decide (kv.1 = f k)) = l.any fun kv => decide (kv.1 = k) := by
    rw [List.any_map]
    congr 1
    funext p
    show decide (f p.1 = f k) = decide (p.1 = k)
    by_cases c : p.1 = k
    · rw [decide_eq_true c, decide_eq_true (by rw [c])]
    · rw [decide_eq_false c, decide_eq_false fun z => c (hf _ _ z)]
  rw [a]
  split
  · rw [List.map_map, List.map_map]
    apply List.map_congr_left
    intro p _
    show (if f p.1 = f k then (f p.1, d) else (f p.1, p.2)) = (f (if p.1 = k then (p.1, d) else p).1, (if p.1 = k then (p.1, d) else p).2)
    by_cases c : p.1 = k
    · rw [if_pos (by rw [c]), if_pos c]
    · rw [if_neg fun z => c (hf _ _ z), if_neg c]
  · rw [List.map_append]; rfl
end
theorem inl_inj : ∀ a b : Int, (Sum.inl a : Key) = .inl b → a = b := fun _ _ z => Sum.inl.inj z
def dkInt : DKind Int where
  key := D.int
  ow := fun l => .dk (l.map fun p => (.inl p.1, p.2))
  get := fun l k P h => by rw [getO_int, lkD_inj inl_inj]; exact h
  put := fun l k d P hl h => by rw [putO_int, putKD_inj inl_inj]; exact ⟨by rw [List.length_map]; exact hl, h⟩
  len := fun l P h => by rw [lenO_dk, List.length_map]; exact h
  ini := .inl rfl
def keys2 (p : Int × Int) : List Key := [.inl p.1, .inl p.2]
theorem keys2_inj : ∀ a b : Int × Int, keys2 a = keys2 b → a = b := fun a b z => by
  unfold keys2 at z
  injection z with z1 z2
  injection z2 with z2 _
  exact Prod.ext (Sum.inl.inj z1) (Sum.inl.inj z2)
def dkPair : DKind (Int × Int) where
  key := fun p => .tup [.int p.1, .int p.2]
  ow := fun l => .dt (l.map fun p => (keys2 p.1, p.2))
  get := fun l k P h => by
    rw [show D.tup [.int k.1, .int k.2] = .tup ([k.1, k.2].map D.int) from rfl, getO_tups]
    show P (lkD _ (keys2 k))
    rw [lkD_inj keys2_inj]; exact h
  put := fun l k d P hl h => by
    rw [show D.tup [.int k.1, .int k.2] = .tup ([k.1, k.2].map D.int) from rfl, putO_tups]
    refine ⟨by rw [List.length_map]; exact hl, ?_⟩
    show P (.dt (putKD _ (keys2 k) d))
    rw [putKD_inj keys2_inj]; exact h
  len := fun l P h => by rw [lenO_dt, List.length_map]; exact h
  ini := .inr rfl
end
end Z

namespace Sg
/-! rows of marks: numbering, cells, what is common -/
section num
variable {κ : Type} [DecidableEq κ] {μ : Type} [DecidableEq μ]
def addF (u : List κ) (k : κ) : List κ := if k ∈ u then u else u ++ [k]
/-- the keys in the order in which they come first -/
def fst (l : List κ) : List κ := l.foldl addF []
def num (l : List κ) : List Nat := l.map fun k => (fst l).idxOf k
theorem snoc_ind {α : Type} {p : List α → Prop} (h0 : p []) (h1 : ∀ l x, p l → p (l ++ [x])) : ∀ l, p l := by
  intro l
  have : ∀ r : List α, p r.reverse := by
    intro r
    induction r with
    | nil => exact h0
    | cons x r ih => rw [List.reverse_cons]; exact h1 _ _ ih
  have := this l.reverse
  rwa [List.reverse_reverse] at this
theorem fst_snoc (l : List κ) (k : κ) : fst (l ++ [k]) = addF (fst l) k := by unfold fst; rw [List.foldl_append]; rfl
theorem mem_fst (l : List κ) (k : κ) : k ∈ fst l ↔ k ∈ l := by
  induction l using snoc_ind with
  | h0 => simp [fst]
  | h1 l x ih =>
    rw [fst_snoc]; unfold addF
    split
    · rename_i c
      rw [List.mem_append, ih]
      constructor
      · exact .inl
      · rintro (h | h)
        · exact h
        · have e : k = x := by simpa using h
          subst e; exact ih.mp c
    · rw [List.mem_append, List.mem_append, ih]
theorem fst_nd (l : List κ) : (fst l).Nodup := by
  induction l using snoc_ind with
  | h0 => exact List.nodup_nil
  | h1 l x ih =>
    rw [fst_snoc]; unfold addF
    split
    · exact ih
    · rename_i c
      rw [List.nodup_append]
      refine ⟨ih, by simp, ?_⟩
      intro a ha b hb e
      have : b = x := by simpa using hb
      subst this; subst e; exact c ha
theorem idx_ext {u v : List κ} {k : κ} (h : k ∈ u) : (u ++ v).idxOf k = u.idxOf k := by
  rw [List.idxOf_append]; simp [h]
theorem idx_new {u : List κ} {k : κ} (h : k ∉ u) : (u ++ [k]).idxOf k = u.length := by
  rw [List.idxOf_append]; simp [h]
theorem fst_idx {l : List κ} {k x : κ} (h : k ∈ l) : (fst (l ++ [x])).idxOf k = (fst l).idxOf k := by
  rw [fst_snoc]; unfold addF
  split
  · rfl
  · exact idx_ext ((mem_fst l k).mpr h)
theorem num_snoc (l : List κ) (x : κ) : num (l ++ [x]) = num l ++ [(fst (l ++ [x])).idxOf x] := by
  unfold num
  rw [List.map_append]
  congr 1
  apply List.map_congr_left
  intro a ha
  exact fst_idx ha
theorem num_length (l : List κ) : (num l).length = l.length := by unfold num; simp
theorem idx_inj {u : List κ} {a b : κ} (ha : a ∈ u) (hb : b ∈ u) (h : u.idxOf a = u.idxOf b) : a = b := by
  have h1 := List.getElem_idxOf (List.idxOf_lt_length_of_mem ha)
  have h2 := List.getElem_idxOf (List.idxOf_lt_length_of_mem hb)
  rw [← h1, ← h2]
  simp only [h]
/-- two rows join the same deals -/
def SameK (l : List κ) (r : List μ) : Prop := l.length = r.length ∧ ∀ (i j : Nat) (a b : κ) (a' b' : μ), l[i]? = some a → l[j]? = some b → r[i]? = some a' → r[j]? = some b' → (a = b ↔ a' = b')
theorem num_get {l : List κ} {i : Nat} {a : κ} (h : l[i]? = some a) : (num l)[i]? = some ((fst l).idxOf a) := by
  unfold num; rw [List.getElem?_map, h]; rfl
theorem num_same (l : List κ) : SameK l (num l) := by
  refine ⟨(num_length l).symm, fun i j a b a' b' ha hb ha' hb' => ?_⟩
  rw [num_get ha] at ha'
  rw [num_get hb] at hb'
  cases ha'; cases hb'
  constructor
  · intro e; rw [e]
  · intro e
    exact idx_inj ((mem_fst l a).mpr (List.mem_of_getElem? ha)) ((mem_fst l b).mpr (List.mem_of_getElem? hb)) e
theorem SameK.symm {l : List κ} {r : List μ} (h : SameK l r) : SameK r l := ⟨h.1.symm, fun i j a b a' b' h1 h2 h3 h4 => (h.2 i j a' b' a b h3 h4 h1 h2).symm⟩
theorem get_some {α β : Type} {l : List α} {r : List β} (h : l.length = r.length) {i : Nat} {a : α} (e : l[i]? = some a) : ∃ b, r[i]? = some b := by
  have := (List.getElem?_eq_some_iff.mp e).1
  exact ⟨r[i]'(by omega), List.getElem?_eq_getElem _⟩
theorem SameK.trans {ν : Type} [DecidableEq ν] {l : List κ} {r : List μ} {s : List ν} (h : SameK l r) (k : SameK r s) : SameK l s := ⟨h.1.trans k.1, fun i j a b a' b' h1 h2 h3 h4 => by
  obtain ⟨c, hc⟩ := get_some h.1 h1
  obtain ⟨d, hd⟩ := get_some h.1 h2
  exact (h.2 i j a b c d h1 h2 hc hd).trans (k.2 i j c d a' b' hc hd h3 h4)⟩
theorem SameK.refl (l : List κ) : SameK l l := ⟨rfl, fun i j a b a' b' h1 h2 h3 h4 => by rw [h1] at h3; rw [h2] at h4; cases h3; cases h4; exact Iff.rfl⟩
theorem SameK.cut {l : List κ} {r : List μ} {x : κ} {y : μ} (h : SameK (l ++ [x]) (r ++ [y])) : SameK l r := by
  have hl : l.length = r.length := by have := h.1; simp at this; exact this
  refine ⟨hl, fun i j a b a' b' h1 h2 h3 h4 => ?_⟩
  have q : ∀ {α : Type} {l : List α} {x : α} {i : Nat} {a : α}, l[i]? = some a → (l ++ [x])[i]? = some a := fun {α l x i a} e => by
    rw [List.getElem?_append_left (List.getElem?_eq_some_iff.mp e).1]; exact e
  exact h.2 i j a b a' b' (q h1) (q h2) (q h3) (q h4)
theorem same_fst : ∀ (l : List κ) (r : List μ), SameK l r → (fst l).length = (fst r).length ∧ ∀ (i : Nat) a b, l[i]? = some a → r[i]? = some b → (fst l).idxOf a = (fst r).idxOf b := by
  intro l
  induction l using snoc_ind with
  | h0 =>
    intro r h
    have : r = [] := List.length_eq_zero_iff.mp h.1.symm
    subst this
    exact ⟨rfl, fun i a b h => by simp at h⟩
  | h1 l x ih =>
    intro r h
    have hr : r ≠ [] := by
      rintro rfl
      have := h.1; simp at this
    obtain ⟨r, y, rfl⟩ : ∃ r' y, r = r' ++ [y] := ⟨r.dropLast, r.getLast hr, (List.dropLast_concat_getLast hr).symm⟩
    have hc := h.cut
    obtain ⟨i1, i2⟩ := ih r hc
    have hl := hc.1
    have ex : (l ++ [x])[l.length]? = some x := by simp
    have ey : (r ++ [y])[l.length]? = some y := by rw [hl]; simp
    have q : ∀ {α : Type} {l : List α} {x : α} {i : Nat} {a : α}, l[i]? = some a → (l ++ [x])[i]? = some a := fun {α l x i a} e => by
      rw [List.getElem?_append_left (List.getElem?_eq_some_iff.mp e).1]; exact e
    have mm : x ∈ l ↔ y ∈ r := by
      constructor
      · intro m
        obtain ⟨i, hi⟩ := List.mem_iff_getElem?.mp m
        obtain ⟨b, hb⟩ := get_some hl hi
        have := (h.2 i l.length x x b y (q hi) ex (q hb) ey).mp rfl
        rw [← this]; exact List.mem_of_getElem? hb
      · intro m
        obtain ⟨i, hi⟩ := List.mem_iff_getElem?.mp m
        obtain ⟨b, hb⟩ := get_some hl.symm hi
        have := (h.2 i l.length b x y y (q hb) ex (q hi) ey).mpr rfl
        rw [← this]; exact List.mem_of_getElem? hb
    rw [fst_snoc, fst_snoc]
    unfold addF
    by_cases c : x ∈ l
    · have c' := mm.mp c
      rw [if_pos ((mem_fst l x).mpr c), if_pos ((mem_fst r y).mpr c')]
      refine ⟨i1, fun i a b ha hb => ?_⟩
      by_cases hi : i < l.length
      · rw [List.getElem?_append_left hi] at ha
        rw [List.getElem?_append_left (by omega)] at hb
        exact i2 i a b ha hb
      · have : i = l.length := by have := (List.getElem?_eq_some_iff.mp ha).1; simp at this; omega
        subst this
        rw [ex] at ha; rw [ey] at hb
        cases ha; cases hb
        obtain ⟨j, hj⟩ := List.mem_iff_getElem?.mp c
        obtain ⟨b, hb⟩ := get_some hl hj
        have := (h.2 j l.length x x b y (q hj) ex (q hb) ey).mp rfl
        rw [← this]
        exact i2 j x b hj hb
    · have c' : y ∉ r := fun z => c (mm.mpr z)
      rw [if_neg (fun z => c ((mem_fst l x).mp z)), if_neg (fun z => c' ((mem_fst r y).mp z))]
      refine ⟨by simp [i1], fun i a b ha hb => ?_⟩
      by_cases hi : i < l.length
      · rw [List.getElem?_append_left hi] at ha
        rw [List.getElem?_append_left (by omega)] at hb
        rw [idx_ext ((mem_fst l a).mpr (List.mem_of_getElem? ha)), idx_ext ((mem_fst r b).mpr (List.mem_of_getElem? hb))]
        exact i2 i a b ha hb
      · have : i = l.length := by have := (List.getElem?_eq_some_iff.mp ha).1; simp at this; omega
        subst this
        rw [ex] at ha; rw [ey] at hb
        cases ha; cases hb
        rw [idx_new (fun z => c ((mem_fst l x).mp z)), idx_new (fun z => c' ((mem_fst r y).mp z))]
        exact i1
theorem num_eq {l : List κ} {r : List μ} (h : SameK l r) : num l = num r := by
  apply List.ext_getElem?
  intro i
  by_cases hi : i < l.length
  · have e1 := List.getElem?_eq_getElem hi
    obtain ⟨b, hb⟩ := get_some h.1 e1
    rw [num_get e1, num_get hb, (same_fst l r h).2 i _ _ e1 hb]
  · rw [List.getElem?_eq_none (by rw [num_length]; omega), List.getElem?_eq_none (by rw [num_length]; have := h.1; omega)]
theorem num_num (l : List κ) : num (num l) = num l := (num_eq (num_same l)).symm
theorem eq_of_num {l : List κ} {r : List μ} (h : num l = num r) : SameK l r := (num_same l).trans (by rw [h]; exact (num_same r).symm)
theorem fst_length_le (l : List κ) : (fst l).length ≤ l.length := by
  induction l using snoc_ind with
  | h0 => simp [fst]
  | h1 l x ih =>
    rw [fst_snoc]; unfold addF
    split <;> simp <;> omega
theorem num_lt {l : List κ} {x : Nat} (h : x ∈ num l) : x < (fst l).length := by
  unfold num at h
  rw [List.mem_map] at h
  obtain ⟨a, ha, rfl⟩ := h
  exact List.idxOf_lt_length_of_mem ((mem_fst l a).mpr ha)
/-- numbered: each number below one that occurs occurs -/
theorem num_full {l : List κ} {x : Nat} (h : x < (fst l).length) : x ∈ num l := by
  unfold num
  rw [List.mem_map]
  refine ⟨(fst l)[x], (mem_fst l _).mp (List.getElem_mem h), ?_⟩
  have h1 := List.idxOf_lt_length_of_mem (List.getElem_mem h)
  exact (List.getElem_inj (fst_nd l)).mp (List.getElem_idxOf h1)
end num

/-! ### what is common -/
section com
variable {κ : Type} [DecidableEq κ] {μ : Type} [DecidableEq μ]
def low (lab : List Nat) (f k : Nat) : Nat := min (lab.getD f 0) (lab.getD k 0)
def high (lab : List Nat) (f k : Nat) : Nat := max (lab.getD f 0) (lab.getD k 0)
def joinS (lab : List Nat) (f k : Nat) : List Nat := lab.map fun x => if x = high lab f k then low lab f k else x
/-- the first deal with the mark of deal k -/
def fi (m : List κ) (k : Nat) : Nat := match m[k]? with | some a => m.idxOf a | none => 0
def com1 (m : List κ) (lab : List Nat) (n : Nat) : List Nat := (List.range n).foldl (fun lab k => joinS lab (fi m k) k) lab
def comL (a : List κ) (b : List μ) : List Nat := com1 b (com1 a (List.range a.length) a.length) b.length
theorem com1_succ (m : List κ) (lab : List Nat) (n : Nat) : com1 m lab (n + 1) = joinS (com1 m lab n) (fi m n) n := by
  unfold com1; rw [List.range_succ, List.foldl_append]; rfl
theorem com1_zero (m : List κ) (lab : List Nat) : com1 m lab 0 = lab := rfl
theorem joinS_length (lab : List Nat) (f k : Nat) : (joinS lab f k).length = lab.length := by unfold joinS; simp
theorem com1_length (m : List κ) (lab : List Nat) (n : Nat) : (com1 m lab n).length = lab.length := by
  induction n with
  | zero => rfl
  | succ n ih => rw [com1_succ, joinS_length, ih]
theorem comL_length (a : List κ) (b : List μ) : (comL a b).length = a.length := by unfold comL; rw [com1_length, com1_length]; simp
theorem fi_le {m : List κ} {k : Nat} (h : k < m.length) : fi m k ≤ k := by
  unfold fi
  rw [List.getElem?_eq_getElem h]
  show m.idxOf m[k] ≤ k
  exact Nat.le_of_not_lt fun z => by
    have := List.not_of_lt_findIdx (p := (· == m[k])) (xs := m) (i := k) (by unfold List.idxOf at z; exact z)
    simp at this
theorem fi_get {m : List κ} {k : Nat} (h : k < m.length) : m[fi m k]? = m[k]? := by
  unfold fi
  rw [List.getElem?_eq_getElem h]
  show m[m.idxOf m[k]]? = _
  rw [List.getElem?_eq_getElem (List.idxOf_lt_length_of_mem (List.getElem_mem h))]
  rw [List.getElem_idxOf]
theorem fi_eq {m : List κ} {i j : Nat} (h : m[i]? = m[j]?) : fi m i = fi m j := by unfold fi; rw [h]
theorem joinS_get (lab : List Nat) (f k i : Nat) : (joinS lab f k)[i]? = (lab[i]?).map fun x => if x = high lab f k then low lab f k else x := by unfold joinS; rw [List.getElem?_map]
theorem joinS_getD (lab : List Nat) (f k i : Nat) (h : i < lab.length) : (joinS lab f k).getD i 0 = if lab.getD i 0 = high lab f k then low lab f k else lab.getD i 0 := by
  unfold joinS
  simp [List.getD, List.getElem?_map, List.getElem?_eq_getElem h]
/-- all that is joined lies in E -/
def Snd (E : Nat → Nat → Prop) (lab : List Nat) : Prop := ∀ i j, i < lab.length → j < lab.length → lab.getD i 0 = lab.getD j 0 → E i j
theorem joinS_snd {E : Nat → Nat → Prop} (sy : ∀ i j, E i j → E j i) (tr : ∀ i j k, E i j → E j k → E i k) {lab : List Nat} (h : Snd E lab) {f k : Nat} (hf : f < lab.length) (hk : k < lab.length) (e : E f k) : Snd E (joinS lab f k) := by
  intro i j hi hj q
  rw [joinS_length] at hi hj
  rw [joinS_getD _ _ _ _ hi, joinS_getD _ _ _ _ hj] at q
  have hiF := h i f hi hf
  have hiK := h i k hi hk
  have hjF := h j f hj hf
  have hjK := h j k hj hk
  have hij := h i j hi hj
  have toF : ∀ i, i < lab.length → lab.getD i 0 = lab.getD f 0 ∨ lab.getD i 0 = lab.getD k 0 → E i f := fun i hi z => by
    rcases z with z | z
    · exact h i f hi hf z
    · exact tr _ _ _ (h i k hi hk z) (sy _ _ e)
  have key : (lab.getD i 0 = lab.getD j 0) ∨ ((lab.getD i 0 = lab.getD f 0 ∨ lab.getD i 0 = lab.getD k 0) ∧ (lab.getD j 0 = lab.getD f 0 ∨ lab.getD j 0 = lab.getD k 0)) := by
    unfold high low at q
    split at q <;> split at q <;> omega
  rcases key with z | ⟨z1, z2⟩
  · exact hij z
  · exact tr _ _ _ (toF i hi z1) (sy _ _ (toF j hj z2))
theorem com1_snd {E : Nat → Nat → Prop} (sy : ∀ i j, E i j → E j i) (tr : ∀ i j k, E i j → E j k → E i k) {m : List κ} {lab : List Nat} (hl : m.length = lab.length) (h : Snd E lab) (hm : ∀ i j, i < m.length → j < m.length → m[i]? = m[j]? → E i j) : ∀ n, n ≤ m.length → Snd E (com1 m lab n)
  | 0, _ => h
  | n + 1, hn => by
    rw [com1_succ]
    have := fi_le (m := m) (k := n) (by omega)
    exact joinS_snd sy tr (com1_snd sy tr hl h hm n (by omega)) (by rw [com1_length]; omega) (by rw [com1_length]; omega) (hm _ _ (by omega) (by omega) (fi_get (by omega)))
theorem comL_snd {E : Nat → Nat → Prop} (rf : ∀ i, E i i) (sy : ∀ i j, E i j → E j i) (tr : ∀ i j k, E i j → E j k → E i k) {a : List κ} {b : List μ} (hl : a.length = b.length)
    (ha : ∀ i j, i < a.length → j < a.length → a[i]? = a[j]? → E i j) (hb : ∀ i j, i < b.length → j < b.length → b[i]? = b[j]? → E i j) : Snd E (comL a b) := by
  unfold comL
  refine com1_snd sy tr (by rw [com1_length]; simp [hl]) (com1_snd sy tr (by simp) ?_ ha _ (Nat.le_refl _)) hb _ (Nat.le_refl _)
  intro i j hi hj q
  simp at hi hj
  simp [List.getD, hi, hj] at q
  rw [q]; exact rf j
/-- joined stays joined -/
theorem joinS_keep {lab : List Nat} {f k i j : Nat} (hi : i < lab.length) (hj : j < lab.length) (h : lab.getD i 0 = lab.getD j 0) : (joinS lab f k).getD i 0 = (joinS lab f k).getD j 0 := by
  rw [joinS_getD _ _ _ _ hi, joinS_getD _ _ _ _ hj, h]
theorem com1_keep {m : List κ} {lab : List Nat} {i j : Nat} (hi : i < lab.length) (hj : j < lab.length) (h : lab.getD i 0 = lab.getD j 0) : ∀ n, (com1 m lab n).getD i 0 = (com1 m lab n).getD j 0
  | 0 => h
  | n + 1 => by rw [com1_succ]; exact joinS_keep (by rw [com1_length]; exact hi) (by rw [com1_length]; exact hj) (com1_keep hi hj h n)
theorem joinS_join {lab : List Nat} {f k : Nat} (hf : f < lab.length) (hk : k < lab.length) : (joinS lab f k).getD f 0 = (joinS lab f k).getD k 0 := by
  rw [joinS_getD _ _ _ _ hf, joinS_getD _ _ _ _ hk]
  unfold high low
  split <;> split <;> omega
theorem com1_fi {m : List κ} {lab : List Nat} (hl : m.length = lab.length) : ∀ n, n ≤ m.length → ∀ i, i < n → (com1 m lab n).getD (fi m i) 0 = (com1 m lab n).getD i 0
  | n + 1, hn, i, hi => by
    rw [com1_succ]
    have hf := fi_le (m := m) (k := i) (by omega)
    by_cases c : i < n
    · exact joinS_keep (by rw [com1_length]; omega) (by rw [com1_length]; omega) (com1_fi hl n (by omega) i c)
    · have : i = n := by omega
      subst this
      exact joinS_join (by rw [com1_length]; omega) (by rw [com1_length]; omega)
theorem com1_com {m : List κ} {lab : List Nat} (hl : m.length = lab.length) {i j : Nat} (hi : i < m.length) (hj : j < m.length) (h : m[i]? = m[j]?) : (com1 m lab m.length).getD i 0 = (com1 m lab m.length).getD j 0 := by
  rw [← com1_fi hl _ (Nat.le_refl _) i hi, ← com1_fi hl _ (Nat.le_refl _) j hj, fi_eq h]
theorem comL_a {a : List κ} {b : List μ} (hl : a.length = b.length) {i j : Nat} (hi : i < a.length) (hj : j < a.length) (h : a[i]? = a[j]?) : (comL a b).getD i 0 = (comL a b).getD j 0 := by
  unfold comL
  exact com1_keep (by rw [com1_length]; simpa using hi) (by rw [com1_length]; simpa using hj) (com1_com (by simp) hi hj h) _
theorem comL_b {a : List κ} {b : List μ} (hl : a.length = b.length) {i j : Nat} (hi : i < b.length) (hj : j < b.length) (h : b[i]? = b[j]?) : (comL a b).getD i 0 = (comL a b).getD j 0 := by
  unfold comL
  exact com1_com (by rw [com1_length]; simp [hl]) hi hj h
/-- labels are least deals -/
def LabOk (lab : List Nat) : Prop := ∀ i, i < lab.length → lab.getD i 0 ≤ i
theorem joinS_ok {lab : List Nat} (h : LabOk lab) {f k : Nat} : LabOk (joinS lab f k) := by
  intro i hi
  rw [joinS_length] at hi
  rw [joinS_getD _ _ _ _ hi]
  have := h i hi
  unfold high low
  split <;> omega
theorem same_of_snd {l r : List Nat} (hl : l.length = r.length) (h1 : Snd (fun i j => r.getD i 0 = r.getD j 0) l) (h2 : Snd (fun i j => l.getD i 0 = l.getD j 0) r) : SameK l r := by
  refine ⟨hl, fun i j a b a' b' e1 e2 e3 e4 => ?_⟩
  have q : ∀ {l : List Nat} {i a : Nat}, l[i]? = some a → l.getD i 0 = a ∧ i < l.length := fun {l i a} e => ⟨by simp [List.getD, e], (List.getElem?_eq_some_iff.mp e).1⟩
  obtain ⟨e1, l1⟩ := q e1
  obtain ⟨e2, l2⟩ := q e2
  obtain ⟨e3, l3⟩ := q e3
  obtain ⟨e4, l4⟩ := q e4
  constructor
  · intro z; have := h1 i j l1 l2 (by rw [e1, e2, z]); rw [← e3, ← e4]; exact this
  · intro z; have := h2 i j l3 l4 (by rw [e3, e4, z]); rw [← e1, ← e2]; exact this
theorem com_comm {a : List κ} {b : List μ} (hl : a.length = b.length) : num (comL a b) = num (comL b a) := by
  apply num_eq
  apply same_of_snd (by rw [comL_length, comL_length, hl])
  · exact comL_snd (E := fun i j => (comL b a).getD i 0 = (comL b a).getD j 0) (fun _ => rfl) (fun _ _ h => h.symm) (fun _ _ _ h h' => h.trans h') hl (fun i j hi hj h => comL_b hl.symm hi hj h) (fun i j hi hj h => comL_a hl.symm hi hj h)
  · exact comL_snd (E := fun i j => (comL a b).getD i 0 = (comL a b).getD j 0) (fun _ => rfl) (fun _ _ h => h.symm) (fun _ _ _ h h' => h.trans h') hl.symm (fun i j hi hj h => comL_b hl hi hj h) (fun i j hi hj h => comL_a hl hi hj h)
/-- what is common to a row and a finer one is this row -/
theorem com_fine {a : List κ} {b : List μ} (hl : a.length = b.length) (hb : ∀ i j, i < b.length → j < b.length → b[i]? = b[j]? → a[i]? = a[j]?) : num (comL a b) = num a := by
  apply num_eq
  refine ⟨comL_length a b, fun i j x y x' y' e1 e2 e3 e4 => ?_⟩
  have q : ∀ {l : List Nat} {i a : Nat}, l[i]? = some a → l.getD i 0 = a ∧ i < l.length := fun {l i a} e => ⟨by simp [List.getD, e], (List.getElem?_eq_some_iff.mp e).1⟩
  obtain ⟨e1, l1⟩ := q e1
  obtain ⟨e2, l2⟩ := q e2
  have ks := comL_snd (E := fun i j => a[i]? = a[j]?) (fun _ => rfl) (fun _ _ h => h.symm) (fun _ _ _ h h' => h.trans h') hl (fun i j _ _ h => h) hb
  rw [comL_length] at l1 l2
  constructor
  · intro z
    have : a[i]? = a[j]? := ks i j (by rw [comL_length]; exact l1) (by rw [comL_length]; exact l2) (by rw [e1, e2, z])
    rw [e3, e4] at this
    exact Option.some.inj this
  · intro z
    have := comL_a hl l1 l2 (by rw [e3, e4, z])
    rw [← e1, ← e2]; exact this
/-- what a row tells together with a coarser one is this row -/
theorem zip_coarse {a : List κ} {b : List μ} (hl : a.length = b.length) (hb : ∀ i j, i < a.length → j < a.length → a[i]? = a[j]? → b[i]? = b[j]?) : num (a.zip b) = num a := by
  apply num_eq
  refine ⟨by simp [hl], fun i j x y x' y' e1 e2 e3 e4 => ?_⟩
  rw [List.getElem?_zip_eq_some] at e1 e2
  rw [e3] at e1; rw [e4] at e2
  have h1 := e1.1; have h2 := e2.1
  constructor
  · intro z; subst z
    have a1 := Option.some.inj e1.1
    have a2 := Option.some.inj e2.1
    rw [a1, a2]
  · intro z
    have := hb i j (List.getElem?_eq_some_iff.mp e3).1 (List.getElem?_eq_some_iff.mp e4).1 (by rw [e3, e4, z])
    rw [e1.2, e2.2] at this
    have a1 := Option.some.inj e1.1
    have a2 := Option.some.inj e2.1
    exact Prod.ext (by rw [← a1, ← a2, z]) (Option.some.inj this)
theorem same_zip {κ' μ' : Type} [DecidableEq κ'] [DecidableEq μ'] {a : List κ} {b : List μ} {a' : List κ'} {b' : List μ'} (h1 : SameK a a') (h2 : SameK b b') : SameK (a.zip b) (a'.zip b') := by
  refine ⟨by simp [h1.1, h2.1], fun i j x y x' y' e1 e2 e3 e4 => ?_⟩
  rw [List.getElem?_zip_eq_some] at e1 e2 e3 e4
  have k1 := h1.2 i j _ _ _ _ e1.1 e2.1 e3.1 e4.1
  have k2 := h2.2 i j _ _ _ _ e1.2 e2.2 e3.2 e4.2
  rw [Prod.ext_iff, Prod.ext_iff, k1, k2]
theorem zip_comm (a : List κ) (b : List μ) : SameK (a.zip b) (b.zip a) := by
  refine ⟨by simp [Nat.min_comm], fun i j x y x' y' e1 e2 e3 e4 => ?_⟩
  rw [List.getElem?_zip_eq_some] at e1 e2 e3 e4
  have a1 := Option.some.inj (e1.1.symm.trans e3.2)
  have a2 := Option.some.inj (e1.2.symm.trans e3.1)
  have a3 := Option.some.inj (e2.1.symm.trans e4.2)
  have a4 := Option.some.inj (e2.2.symm.trans e4.1)
  rw [Prod.ext_iff, Prod.ext_iff, a1, a2, a3, a4]
  exact And.comm
theorem com_same {κ' μ' : Type} [DecidableEq κ'] [DecidableEq μ'] {a : List κ} {b : List μ} {a' : List κ'} {b' : List μ'} (h1 : SameK a a') (h2 : SameK b b') : comL a b = comL a' b' := by
  have fiS : ∀ {κ κ' : Type} [DecidableEq κ] [DecidableEq κ'] {a : List κ} {a' : List κ'}, SameK a a' → ∀ k, k < a.length → fi a k = fi a' k := by
    intro κ κ' _ _ a a' h k hk
    have hk' : k < a'.length := by have := h.1; omega
    have l1 := fi_le hk
    have l2 := fi_le hk'
    have g1 := fi_get hk
    have g2 := fi_get hk'
    have t : ∀ i, i < a.length → (a[i]? = a[k]? ↔ a'[i]? = a'[k]?) := fun i hi => by
      have hi' : i < a'.length := by have := h.1; omega
      have := h.2 i k _ _ _ _ (List.getElem?_eq_getElem hi) (List.getElem?_eq_getElem hk) (List.getElem?_eq_getElem hi') (List.getElem?_eq_getElem hk')
      rw [List.getElem?_eq_getElem hi, List.getElem?_eq_getElem hk, List.getElem?_eq_getElem hi', List.getElem?_eq_getElem hk', Option.some.injEq, Option.some.injEq]
      exact this
    have low : ∀ {κ : Type} [DecidableEq κ] {a : List κ} {i k : Nat}, k < a.length → a[i]? = a[k]? → fi a k ≤ i := by
      intro κ _ a i k hk e
      rw [← fi_eq e]
      rw [List.getElem?_eq_getElem hk] at e
      exact fi_le (List.getElem?_eq_some_iff.mp e).1
    have m1 := low hk' ((t _ (by omega)).mp g1)
    have m2 := low hk ((t _ (by omega)).mpr g2)
    omega
  have c1 : ∀ {κ κ' : Type} [DecidableEq κ] [DecidableEq κ'] {a : List κ} {a' : List κ'}, SameK a a' → ∀ lab n, n ≤ a.length → com1 a lab n = com1 a' lab n := by
    intro κ κ' _ _ a a' h lab n
    induction n with
    | zero => intro _; rfl
    | succ n ih =>
      intro hn
      rw [com1_succ, com1_succ, ih (by omega), fiS h n (by omega)]
  unfold comL
  rw [← h1.1, ← h2.1, c1 h2 _ _ (Nat.le_refl _), c1 h1 _ _ (Nat.le_refl _)]
/-! ### the program's way: trees of leasts -/
structure UF (P lab : List Nat) : Prop where
  len : P.length = lab.length
  le : ∀ i, i < lab.length → P.getD i 0 ≤ i
  ll : ∀ i, i < lab.length → lab.getD i 0 ≤ i
  up : ∀ i, i < lab.length → lab.getD (P.getD i 0) 0 = lab.getD i 0
  rt : ∀ i, i < lab.length → P.getD i 0 = i → lab.getD i 0 = i
theorem UF.idem {P lab : List Nat} (u : UF P lab) : ∀ i, i < lab.length → lab.getD (lab.getD i 0) 0 = lab.getD i 0 := by
  intro i
  induction i using Nat.strongRecOn with
  | _ i ih =>
    intro hi
    by_cases c : P.getD i 0 = i
    · have := u.rt i hi c; rw [this, this]
    · have h1 := u.le i hi
      have h2 := ih (P.getD i 0) (by omega) (by omega)
      rw [u.up i hi] at h2
      exact h2
theorem UF.root {P lab : List Nat} (u : UF P lab) {i : Nat} (hi : i < lab.length) (h : lab.getD i 0 = i) : P.getD i 0 = i := by
  have h1 := u.le i hi
  have h2 := u.up i hi
  have h3 := u.ll (P.getD i 0) (by omega)
  omega
theorem getD_set {l : List Nat} {i j x : Nat} (hi : i < l.length) : (l.set i x).getD j 0 = if i = j then x else l.getD j 0 := by
  simp only [List.getD, List.getElem?_set]
  split
  · rename_i e; subst e; simp [hi]
  · rfl
/-- a step of halving -/
theorem UF.half {P lab : List Nat} (u : UF P lab) {i : Nat} (hi : i < lab.length) (h : P.getD i 0 ≠ i) : UF (P.set i (P.getD (P.getD i 0) 0)) lab := by
  have l1 := u.le i hi
  have l2 := u.le (P.getD i 0) (by omega)
  have hp : i < P.length := by rw [u.len]; exact hi
  refine ⟨by rw [List.length_set, u.len], fun j hj => ?_, u.ll, fun j hj => ?_, fun j hj => ?_⟩
  · rw [getD_set hp]; split
    · omega
    · exact u.le j hj
  · rw [getD_set hp]; split
    · rename_i e; subst e
      rw [u.up _ (by omega), u.up _ hi]
    · exact u.up j hj
  · rw [getD_set hp]; split
    · rename_i e; subst e
      intro z; omega
    · exact u.rt j hj
/-- the roots are joined -/
theorem UF.join {P lab : List Nat} (u : UF P lab) {f k : Nat} (hf : f < lab.length) (hk : k < lab.length) : UF (P.set (high lab f k) (low lab f k)) (joinS lab f k) := by
  have a1 := u.ll f hf
  have a2 := u.ll k hk
  have i1 := u.idem f hf
  have i2 := u.idem k hk
  have hh : high lab f k < lab.length := by unfold high; omega
  have hl : low lab f k ≤ high lab f k := by unfold high low; omega
  have rh : lab.getD (high lab f k) 0 = high lab f k := by
    unfold high
    by_cases c : lab.getD f 0 ≤ lab.getD k 0
    · rw [Nat.max_eq_right c]; exact i2
    · rw [Nat.max_eq_left (by omega)]; exact i1
  have rl : lab.getD (low lab f k) 0 = low lab f k := by
    unfold low
    by_cases c : lab.getD f 0 ≤ lab.getD k 0
    · rw [Nat.min_eq_left c]; exact i1
    · rw [Nat.min_eq_right (by omega)]; exact i2
  have hp : high lab f k < P.length := by rw [u.len]; exact hh
  refine ⟨by rw [List.length_set, joinS_length, u.len], fun j hj => ?_, fun j hj => ?_, fun j hj => ?_, fun j hj => ?_⟩ <;> rw [joinS_length] at hj
  · rw [getD_set hp]; split
    · omega
    · exact u.le j hj
  · exact joinS_ok u.ll j (by rw [joinS_length]; exact hj)
  · rw [getD_set hp]; split
    · rename_i e
      rw [joinS_getD _ _ _ _ (by omega), joinS_getD _ _ _ _ hj, ← e, rh, rl, if_pos rfl]
      split <;> rfl
    · have := u.le j hj
      rw [joinS_getD _ _ _ _ (by omega), joinS_getD _ _ _ _ hj, u.up j hj]
  · rw [getD_set hp]; split
    · rename_i e
      intro z
      rw [joinS_getD _ _ _ _ hj, ← e, rh, if_pos rfl]
      omega
    · rename_i e
      intro z
      rw [joinS_getD _ _ _ _ hj, u.rt j hj z, if_neg (by omega)]
theorem UF.init (n : Nat) : UF (List.range n) (List.range n) := by
  have q : ∀ i, i < (List.range n).length → (List.range n).getD i 0 = i := fun i hi => by
    simp at hi; simp [List.getD, hi]
  exact ⟨rfl, fun i hi => by rw [q i hi]; exact Nat.le_refl _, fun i hi => by rw [q i hi]; exact Nat.le_refl _, fun i hi => by rw [q i hi, q i hi], fun i hi _ => q i hi⟩
/-- the last pass -/
theorem UF.last {P lab L : List Nat} (u : UF P lab) {k : Nat} (hk : k < lab.length) (hL : L = lab.take k ++ P.drop k) : L.set k (L.getD (L.getD k 0) 0) = lab.take (k + 1) ++ P.drop (k + 1) := by
  have hlen := u.len
  have g : ∀ j, L.getD j 0 = if j < k then lab.getD j 0 else P.getD j 0 := by
    intro j
    subst hL
    simp only [List.getD]
    by_cases c : j < k
    · rw [if_pos c, List.getElem?_append_left (by simp; omega), List.getElem?_take_of_lt c]
    · rw [if_neg c, List.getElem?_append_right (by simp; omega), List.getElem?_drop]
      congr 2; simp; omega
  have e1 : L.getD (L.getD k 0) 0 = lab.getD k 0 := by
    rw [g k, if_neg (by omega), g]
    have := u.le k hk
    split
    · exact u.up k hk
    · rename_i c
      have e : P.getD k 0 = k := by omega
      rw [e, e]; exact (u.rt k hk e).symm
  rw [e1, hL]
  have hdrop : P.drop k = P[k]'(by omega) :: P.drop (k + 1) := List.drop_eq_getElem_cons (by omega)
  have htake : lab.take (k + 1) = lab.take k ++ [lab[k]] := by rw [List.take_add_one, List.getElem?_eq_getElem hk]; rfl
  rw [hdrop, htake, List.set_append_right _ _ (by simp; omega)]
  have : k - (lab.take k).length = 0 := by simp; omega
  rw [this, List.set_cons_zero, List.append_assoc]
  congr 2
  simp [List.getD, List.getElem?_eq_getElem hk]
end com

/-! ### cells -/
def mx (r : List Nat) : Nat := r.foldl max 0
theorem foldl_max (r : List Nat) : ∀ a, a ≤ r.foldl max a ∧ (∀ y ∈ r, y ≤ r.foldl max a) ∧ (r.foldl max a = a ∨ r.foldl max a ∈ r) := by
  induction r with
  | nil => intro a; exact ⟨Nat.le_refl _, fun y h => by simp at h, .inl rfl⟩
  | cons x r ih =>
    intro a
    obtain ⟨h1, h2, h3⟩ := ih (max a x)
    rw [List.foldl_cons]
    refine ⟨by omega, fun y hy => ?_, ?_⟩
    · rcases List.mem_cons.mp hy with e | hy
      · rw [e]; omega
      · exact h2 y hy
    · rcases h3 with e | e
      · rw [e]
        by_cases c : a ≤ x
        · rw [Nat.max_eq_right c]; exact .inr List.mem_cons_self
        · rw [Nat.max_eq_left (by omega)]; exact .inl rfl
      · exact .inr (List.mem_cons_of_mem _ e)
theorem le_mx {r : List Nat} {y : Nat} (h : y ∈ r) : y ≤ mx r := (foldl_max r 0).2.1 y h
theorem mx_eq {r : List Nat} {m : Nat} (h : m ∈ r) (k : ∀ y ∈ r, y ≤ m) : mx r = m := by
  have h1 := le_mx h
  rcases (foldl_max r 0).2.2 with e | e
  · have : mx r = 0 := e
    omega
  · have := k _ e
    have e2 : mx r = r.foldl max 0 := rfl
    omega
def selL (r : List Nat) (n g : Nat) : List Nat := (List.range n).filter fun i => r[i]? == some g
def grp (r : List Nat) (m n : Nat) : List (List Nat) := (List.range (m + 1)).map fun g => selL r n g
def cellsL (r : List Nat) : List (List Nat) := grp r (mx r) r.length
theorem grp_length (r : List Nat) (m n : Nat) : (grp r m n).length = m + 1 := by unfold grp; simp
theorem grp_get {r : List Nat} {m n g : Nat} (h : g ≤ m) : (grp r m n)[g]? = some (selL r n g) := by
  unfold grp
  rw [List.getElem?_map, List.getElem?_range (by omega)]; rfl
theorem selL_succ {r : List Nat} {n g : Nat} : selL r (n + 1) g = if r[n]? = some g then selL r n g ++ [n] else selL r n g := by
  unfold selL
  rw [List.range_succ, List.filter_append]
  by_cases c : r[n]? = some g
  · rw [if_pos c]; simp [c]
  · rw [if_neg c]; simp [c]
theorem grp_succ {r : List Nat} {m n g : Nat} (h : r[n]? = some g) (hg : g ≤ m) : grp r m (n + 1) = (grp r m n).set g (selL r n g ++ [n]) := by
  apply List.ext_getElem?
  intro k
  rw [List.getElem?_set, grp_length]
  by_cases c : k ≤ m
  · rw [grp_get c, grp_get c, selL_succ, h]
    by_cases e : g = k
    · rw [if_pos (by rw [e]), if_pos e, if_pos (by omega), e]
    · rw [if_neg (fun z => e (Option.some.inj z)), if_neg e]
  · rw [List.getElem?_eq_none (by rw [grp_length]; omega), if_neg (by omega), List.getElem?_eq_none (by rw [grp_length]; omega)]
theorem selL_lt {r : List Nat} {n g i : Nat} (h : i ∈ selL r n g) : i < n := by
  unfold selL at h
  simp at h
  exact h.1
theorem grp_zero (r : List Nat) (m : Nat) : grp r m 0 = List.replicate (m + 1) [] := by
  unfold grp
  apply List.ext_getElem?
  intro k
  rw [List.getElem?_map, List.getElem?_replicate]
  by_cases c : k < m + 1
  · rw [List.getElem?_range c, if_pos c]; rfl
  · rw [List.getElem?_eq_none (by simpa using c), if_neg c]; rfl
theorem cells_get {r : List Nat} {d g : Nat} (h : r[d]? = some g) : (cellsL r)[g]? = some (selL r r.length g) := grp_get (le_mx (List.mem_of_getElem? h))
end Sg

namespace Sg
section
variable {κ : Type} [DecidableEq κ] {μ : Type} [DecidableEq μ]
/-- alike in a, not in b -/
def Parts (a : List κ) (b : List μ) (d o : Nat) : Prop := d < o ∧ o < a.length ∧ a[d]? = a[o]? ∧ b[d]? ≠ b[o]?
/-- the first such pair -/
def IsFirst (a : List κ) (b : List μ) : Option (Nat × Nat) → Prop
  | none => ∀ d o, ¬ Parts a b d o
  | some (d, o) => Parts a b d o ∧ ∀ d' o', (d' < d ∨ d' = d ∧ o' < o) → ¬ Parts a b d' o'
theorem IsFirst.uniq {a : List κ} {b : List μ} {x y : Option (Nat × Nat)} (h : IsFirst a b x) (k : IsFirst a b y) : x = y := by
  match x, y, h, k with
  | none, none, _, _ => rfl
  | none, some (d, o), h, k => exact absurd k.1 (h d o)
  | some (d, o), none, h, k => exact absurd h.1 (k d o)
  | some (d, o), some (d', o'), h, k =>
    have h1 : ¬ (d' < d ∨ d' = d ∧ o' < o) := fun z => h.2 d' o' z k.1
    have h2 : ¬ (d < d' ∨ d = d' ∧ o < o') := fun z => k.2 d o z h.1
    have e1 : d = d' := by omega
    have e2 : o = o' := by omega
    rw [e1, e2]
theorem SameK.get {a : List κ} {a' : List μ} (h : SameK a a') {i j : Nat} (hi : i < a.length) (hj : j < a.length) : a[i]? = a[j]? ↔ a'[i]? = a'[j]? := by
  have hl := h.1
  have := h.2 i j _ _ _ _ (List.getElem?_eq_getElem hi) (List.getElem?_eq_getElem hj) (List.getElem?_eq_getElem (by omega)) (List.getElem?_eq_getElem (by omega))
  rw [List.getElem?_eq_getElem hi, List.getElem?_eq_getElem hj, List.getElem?_eq_getElem (by omega), List.getElem?_eq_getElem (by omega), Option.some.injEq, Option.some.injEq]
  exact this
theorem Parts.same {κ' μ' : Type} [DecidableEq κ'] [DecidableEq μ'] {a : List κ} {b : List μ} {a' : List κ'} {b' : List μ'} (hl : a.length = b.length) (h1 : SameK a a') (h2 : SameK b b') (d o : Nat) : Parts a b d o ↔ Parts a' b' d o := by
  have hl1 := h1.1
  unfold Parts
  constructor
  · rintro ⟨p, q, r, s⟩
    exact ⟨p, by omega, (h1.get (by omega) q).mp r, fun z => s ((h2.get (by omega) (by omega)).mpr z)⟩
  · rintro ⟨p, q, r, s⟩
    exact ⟨p, by omega, (h1.get (by omega) (by omega)).mpr r, fun z => s ((h2.get (by omega) (by omega)).mp z)⟩
theorem IsFirst.same {κ' μ' : Type} [DecidableEq κ'] [DecidableEq μ'] {a : List κ} {b : List μ} {a' : List κ'} {b' : List μ'} (hl : a.length = b.length) (h1 : SameK a a') (h2 : SameK b b') {x : Option (Nat × Nat)} (h : IsFirst a b x) : IsFirst a' b' x := by
  match x, h with
  | none, h => exact fun d o z => h d o ((Parts.same hl h1 h2 d o).mpr z)
  | some (d, o), h => exact ⟨(Parts.same hl h1 h2 d o).mp h.1, fun d' o' c z => h.2 d' o' c ((Parts.same hl h1 h2 d' o').mpr z)⟩
/-- a tells b -/
def Tells (a : List κ) (b : List μ) : Prop := ∀ i j, i < a.length → j < a.length → a[i]? = a[j]? → b[i]? = b[j]?
theorem tells_none {a : List κ} {b : List μ} : IsFirst a b none ↔ Tells a b := by
  constructor
  · intro h i j hi hj e
    by_cases c : b[i]? = b[j]?
    · exact c
    · exfalso
      rcases Nat.lt_trichotomy i j with l | l | l
      · exact h i j ⟨l, hj, e, c⟩
      · subst l; exact c rfl
      · exact h j i ⟨l, hi, e.symm, fun z => c z.symm⟩
  · rintro h d o ⟨p, q, r, s⟩
    exact s (h d o (by omega) q r)
theorem tells_iff {a : List κ} {b : List μ} {x : Option (Nat × Nat)} (h : IsFirst a b x) : x = none ↔ Tells a b := by
  rw [← tells_none]
  constructor
  · rintro rfl; exact h
  · intro k; exact h.uniq k
theorem tells_refl (a : List κ) : Tells a a := fun _ _ _ _ h => h
/-- rows that are numbered -/
theorem num_take (l : List κ) (n : Nat) : num (l.take n) = (num l).take n := by
  induction l using snoc_ind with
  | h0 => simp [num]
  | h1 l x ih =>
    by_cases c : n ≤ l.length
    · rw [List.take_append_of_le_length c, num_snoc, List.take_append_of_le_length (by rw [num_length]; exact c), ih]
    · rw [List.take_of_length_le (by simp; omega), List.take_of_length_le (by rw [num_length]; simp; omega)]
theorem num_le_fst {l : List κ} {i g : Nat} (h : (num l)[i]? = some g) : g ≤ (fst (l.take i)).length := by
  have hi : i < l.length := by have := (List.getElem?_eq_some_iff.mp h).1; rw [num_length] at this; exact this
  have e : (num (l.take (i + 1)))[i]? = some g := by rw [num_take, List.getElem?_take_of_lt (by omega)]; exact h
  rw [List.take_add_one, List.getElem?_eq_getElem hi] at e
  show g ≤ _
  have e' : (num (l.take i ++ [l[i]]))[i]? = some g := e
  rw [num_snoc, List.getElem?_append_right (by rw [num_length, List.length_take]; omega)] at e'
  have z : i - (num (l.take i)).length = 0 := by rw [num_length, List.length_take]; omega
  rw [z] at e'
  have e2 : (fst (l.take i ++ [l[i]])).idxOf l[i] = g := by simpa using e'
  have : (fst (l.take i ++ [l[i]])).idxOf l[i] < (fst (l.take i ++ [l[i]])).length := List.idxOf_lt_length_of_mem ((mem_fst _ _).mpr (List.mem_append_right _ List.mem_cons_self))
  have h3 : (fst (l.take i ++ [l[i]])).length ≤ (fst (l.take i)).length + 1 := by
    rw [fst_snoc]; unfold addF
    split
    · omega
    · simp
  omega
theorem num_before {r : List Nat} (hr : num r = r) {i g g' : Nat} (h : r[i]? = some g) (hg : g' < g) : ∃ j, j < i ∧ r[j]? = some g' := by
  have h1 := num_le_fst (l := r) (i := i) (g := g) (by rw [hr]; exact h)
  have h2 : g' ∈ num (r.take i) := num_full (by omega)
  rw [num_take, hr] at h2
  obtain ⟨j, hj⟩ := List.mem_iff_getElem?.mp h2
  have hlt := (List.getElem?_eq_some_iff.mp hj).1
  rw [List.length_take] at hlt
  refine ⟨j, by omega, ?_⟩
  rw [List.getElem?_take_of_lt (by omega)] at hj
  exact hj
end
/-! ### the program's walk over cells -/
section
variable {r s : List Nat}
theorem sel_mem {r : List Nat} {n g i : Nat} : i ∈ selL r n g ↔ i < n ∧ r[i]? = some g := by
  unfold selL; simp
/-- items ascend -/
theorem sel_lt {r : List Nat} {n g : Nat} {p q : Nat} {x y : Nat} (hp : (selL r n g)[p]? = some x) (hq : (selL r n g)[q]? = some y) (h : p < q) : x < y := by
  have hs : (selL r n g).Pairwise (· < ·) := by unfold selL; exact List.Pairwise.filter _ List.pairwise_lt_range
  have h1 := (List.getElem?_eq_some_iff.mp hp)
  have h2 := (List.getElem?_eq_some_iff.mp hq)
  obtain ⟨l1, rfl⟩ := h1
  obtain ⟨l2, rfl⟩ := h2
  exact List.pairwise_iff_getElem.mp hs p q l1 l2 h
/-- cell g is whole in s -/
def Whole (r s : List Nat) (g : Nat) : Prop := ∀ i j, i < r.length → j < r.length → r[i]? = some g → r[j]? = some g → s[i]? = s[j]?
theorem first_of_walk {k c o q : Nat} (hr : num r = r) (hw : ∀ g, g < k → Whole r s g) (h0 : (selL r r.length k)[0]? = some c) (hq : (selL r r.length k)[q]? = some o) (hd : s[c]? ≠ s[o]?) (hb : ∀ p x, p < q → (selL r r.length k)[p]? = some x → s[c]? = s[x]?) :
    IsFirst r s (some (c, o)) := by
  have mc := sel_mem.mp (List.mem_of_getElem? h0)
  have mo := sel_mem.mp (List.mem_of_getElem? hq)
  have q0 : 0 < q := by
    rcases Nat.eq_zero_or_pos q with e | e
    · subst e; rw [h0] at hq; cases hq; exact absurd rfl hd
    · exact e
  have lt := sel_lt h0 hq q0
  refine ⟨⟨lt, mo.1, by rw [mc.2, mo.2], hd⟩, ?_⟩
  rintro d' o' hlex ⟨p1, p2, p3, p4⟩
  have hd' : d' < r.length := by omega
  have e1 := List.getElem?_eq_getElem hd'
  have e2 : r[o']? = some r[d'] := by rw [← p3, e1]
  rcases Nat.lt_trichotomy r[d'] k with l | l | l
  · exact p4 (hw _ l d' o' hd' p2 e1 e2)
  · rw [l] at e1 e2
    obtain ⟨p, hp⟩ := List.mem_iff_getElem?.mp (sel_mem.mpr ⟨hd', e1⟩)
    obtain ⟨p', hp'⟩ := List.mem_iff_getElem?.mp (sel_mem.mpr ⟨p2, e2⟩)
    have hdc : c ≤ d' := by
      rcases Nat.eq_zero_or_pos p with e | e
      · subst e; rw [h0] at hp; cases hp; exact Nat.le_refl _
      · exact Nat.le_of_lt (sel_lt h0 hp e)
    have hdd : d' = c := by omega
    subst hdd
    have hpq : p' < q := by
      rcases Nat.lt_trichotomy p' q with e | e | e
      · exact e
      · subst e; rw [hq] at hp'; cases hp'; omega
      · have := sel_lt hq hp' e; omega
    exact p4 (hb p' o' hpq hp')
  · obtain ⟨j, hj, hjk⟩ := num_before hr e1 l
    obtain ⟨p, hp⟩ := List.mem_iff_getElem?.mp (sel_mem.mpr ⟨(by omega : j < r.length), hjk⟩)
    have : c ≤ j := by
      rcases Nat.eq_zero_or_pos p with e | e
      · subst e; rw [h0] at hp; cases hp; exact Nat.le_refl _
      · exact Nat.le_of_lt (sel_lt h0 hp e)
    omega
theorem none_of_walk (hw : ∀ g, g ≤ mx r → Whole r s g) : IsFirst r s none := by
  rintro d o ⟨p1, p2, p3, p4⟩
  have hd : d < r.length := by omega
  have e1 := List.getElem?_eq_getElem hd
  exact p4 (hw _ (le_mx (List.getElem_mem hd)) d o hd p2 e1 (by rw [← p3, e1]))
theorem whole_of {k c : Nat} (h0 : (selL r r.length k)[0]? = some c) (hb : ∀ (p x : Nat), (selL r r.length k)[p]? = some x → s[c]? = s[x]?) : Whole r s k := by
  intro i j hi hj e1 e2
  obtain ⟨p, hp⟩ := List.mem_iff_getElem?.mp (sel_mem.mpr ⟨hi, e1⟩)
  obtain ⟨p', hp'⟩ := List.mem_iff_getElem?.mp (sel_mem.mpr ⟨hj, e2⟩)
  rw [← hb p i hp, ← hb p' j hp']
theorem whole_nil {k : Nat} (h0 : selL r r.length k = []) : Whole r s k := by
  intro i j hi hj e1 e2
  have := sel_mem.mpr ⟨hi, e1⟩
  rw [h0] at this; cases this
end
/-! ### telling and the operators -/
section
variable {r s : List Nat}
theorem and_tells (hl : r.length = s.length) (hr : num r = r) : num (r.zip s) = r ↔ Tells r s := by
  constructor
  · intro h i j hi hj e
    have k : SameK (r.zip s) r := by
      have := num_same (r.zip s)
      rw [h] at this; exact this
    have hz := (k.get (i := i) (j := j) (by simp; omega) (by simp; omega)).mpr e
    have e1 : (r.zip s)[i]? = some (r[i], s[i]'(by omega)) := List.getElem?_zip_eq_some.mpr ⟨List.getElem?_eq_getElem hi, List.getElem?_eq_getElem (by omega)⟩
    have e2 : (r.zip s)[j]? = some (r[j], s[j]'(by omega)) := List.getElem?_zip_eq_some.mpr ⟨List.getElem?_eq_getElem hj, List.getElem?_eq_getElem (by omega)⟩
    rw [e1, e2] at hz
    have := (Prod.ext_iff.mp (Option.some.inj hz)).2
    rw [List.getElem?_eq_getElem (by omega), List.getElem?_eq_getElem (by omega)]
    exact congrArg _ this
  · intro h
    rw [zip_coarse hl h, hr]
theorem or_tells (hl : r.length = s.length) (hs : num s = s) : num (comL r s) = s ↔ Tells r s := by
  have hc := comL_length r s
  constructor
  · intro h i j hi hj e
    have k : SameK (comL r s) s := by
      have := num_same (comL r s)
      rw [h] at this; exact this
    refine (k.get (i := i) (j := j) (by omega) (by omega)).mp ?_
    have := comL_a hl hi hj e
    rw [List.getElem?_eq_getElem (by omega), List.getElem?_eq_getElem (by omega)]
    simp only [List.getD, List.getElem?_eq_getElem (show i < (comL r s).length by omega), List.getElem?_eq_getElem (show j < (comL r s).length by omega)] at this
    exact congrArg _ this
  · intro h
    rw [com_comm hl, com_fine hl.symm h, hs]
end
end Sg

namespace Sg
section
variable {κ : Type} [DecidableEq κ] {μ : Type} [DecidableEq μ]
def pos (l : List κ) (k : κ) : Nat := (fst l).idxOf k
theorem pos_inj {l : List κ} {a b : κ} (ha : a ∈ l) (hb : b ∈ l) (h : pos l a = pos l b) : a = b := idx_inj ((mem_fst l a).mpr ha) ((mem_fst l b).mpr hb) h
theorem num_pos {l : List κ} {i : Nat} {a : κ} (h : l[i]? = some a) : (num l)[i]? = some (pos l a) := num_get h
def prs (r : List κ) (s : List μ) : List (κ × μ) := r.flatMap fun m => s.map fun o => (m, o)
theorem prs_cons (x : κ) (r : List κ) (s : List μ) : prs (x :: r) s = (s.map fun o => (x, o)) ++ prs r s := List.flatMap_cons
theorem prs_nil (s : List μ) : prs ([] : List κ) s = [] := rfl
theorem prs_append (r r' : List κ) (s : List μ) : prs (r ++ r') s = prs r s ++ prs r' s := List.flatMap_append
theorem prs_length (r : List κ) (s : List μ) : (prs r s).length = r.length * s.length := by
  induction r with
  | nil => simp [prs_nil]
  | cons x r ih => rw [prs_cons, List.length_append, List.length_map, ih, List.length_cons, Nat.succ_mul, Nat.add_comm]
theorem prs_get {s : List μ} {j : Nat} {o : μ} (hj : s[j]? = some o) : ∀ {r : List κ} {i : Nat} {m : κ}, r[i]? = some m → (prs r s)[i * s.length + j]? = some (m, o) := by
  intro r
  have hl := (List.getElem?_eq_some_iff.mp hj).1
  induction r with
  | nil => intro i m h; simp at h
  | cons x r ih =>
    intro i m h
    rw [prs_cons]
    cases i with
    | zero =>
      simp at h; subst h
      rw [Nat.zero_mul, Nat.zero_add, List.getElem?_append_left (by simpa using hl), List.getElem?_map, hj]; rfl
    | succ i =>
      rw [List.getElem?_cons_succ] at h
      rw [List.getElem?_append_right (by rw [List.length_map, Nat.succ_mul]; omega), List.length_map]
      rw [show (i + 1) * s.length + j - s.length = i * s.length + j by rw [Nat.succ_mul]; omega]
      exact ih h
theorem prs_map {κ' μ' : Type} [DecidableEq κ'] [DecidableEq μ'] (f : κ → κ') (g : μ → μ') (r : List κ) (s : List μ) : prs (r.map f) (s.map g) = (prs r s).map fun p => (f p.1, g p.2) := by
  induction r with
  | nil => rfl
  | cons x r ih => rw [List.map_cons, prs_cons, prs_cons, ih, List.map_append, List.map_map, List.map_map]; rfl
theorem sameK_on {f : κ → μ} {l : List κ} (hf : ∀ a ∈ l, ∀ b ∈ l, f a = f b → a = b) : SameK l (l.map f) := by
  refine ⟨by simp, fun i j a b a' b' h1 h2 h3 h4 => ?_⟩
  rw [List.getElem?_map, h1] at h3
  rw [List.getElem?_map, h2] at h4
  have e3 : f a = a' := by simpa using h3
  have e4 : f b = b' := by simpa using h4
  rw [← e3, ← e4]
  exact ⟨fun e => by rw [e], hf a (List.mem_of_getElem? h1) b (List.mem_of_getElem? h2)⟩
end
def enc (r s : List Nat) : List Nat := (prs r s).map fun p => p.1 * s.length + p.2
theorem enc_num {r s : List Nat} (hs : ∀ x ∈ s, x < s.length) : num (enc r s) = num (prs r s) := by
  refine (num_eq (sameK_on fun a ha b hb e => ?_)).symm
  have m : ∀ p ∈ prs r s, p.2 < s.length := fun p hp => by
    unfold prs at hp
    rw [List.mem_flatMap] at hp
    obtain ⟨x, _, hp⟩ := hp
    obtain ⟨o, ho, rfl⟩ := List.mem_map.mp hp
    exact hs o ho
  have h1 := m a ha
  have h2 := m b hb
  have e2 : a.2 = b.2 := by
    have := congrArg (· % s.length) e
    simp only [Nat.mul_add_mod_of_lt h1, Nat.mul_add_mod_of_lt h2] at this
    exact this
  have e1 : a.1 = b.1 := by
    rw [e2] at e
    exact Nat.eq_of_mul_eq_mul_right (by omega) (Nat.add_right_cancel e)
  exact Prod.ext e1 e2
/-- the row at some deals -/
def pick (r lk : List Nat) : List Nat := lk.map fun i => r.getD i 0
theorem pick_row {r s : List Nat} {j : Nat} (hj : j < s.length) : num (pick (num (prs r s)) ((List.range r.length).map fun k => k * s.length + j)) = num r := by
  apply num_eq
  have hsj := List.getElem?_eq_getElem hj
  refine ⟨by unfold pick; simp, fun i i' a b a' b' h1 h2 h3 h4 => ?_⟩
  have hi := (List.getElem?_eq_some_iff.mp h3).1
  have hi' := (List.getElem?_eq_some_iff.mp h4).1
  have g : ∀ {i x m}, i < r.length → (pick (num (prs r s)) ((List.range r.length).map fun k => k * s.length + j))[i]? = some x → r[i]? = some m → x = pos (prs r s) (m, s[j]) ∧ (m, s[j]) ∈ prs r s := by
    intro i x m hi h hm
    have p := prs_get hsj hm
    unfold pick at h
    rw [List.getElem?_map, List.getElem?_map, List.getElem?_range hi] at h
    simp only [Option.map_some, Option.some.injEq, List.getD, num_pos p, Option.getD_some] at h
    exact ⟨h.symm, List.mem_of_getElem? p⟩
  obtain ⟨e1, m1⟩ := g hi h1 h3
  obtain ⟨e2, m2⟩ := g hi' h2 h4
  rw [e1, e2]
  constructor
  · intro e
    have := pos_inj m1 m2 e
    exact (Prod.ext_iff.mp this).1
  · intro e; rw [e]
theorem pick_col {r s : List Nat} {i : Nat} (hi : i < r.length) : num (pick (num (prs r s)) ((List.range s.length).map fun k => i * s.length + k)) = num s := by
  apply num_eq
  have hri := List.getElem?_eq_getElem hi
  refine ⟨by unfold pick; simp, fun k k' a b a' b' h1 h2 h3 h4 => ?_⟩
  have hk := (List.getElem?_eq_some_iff.mp h3).1
  have hk' := (List.getElem?_eq_some_iff.mp h4).1
  have g : ∀ {k x o}, k < s.length → (pick (num (prs r s)) ((List.range s.length).map fun k => i * s.length + k))[k]? = some x → s[k]? = some o → x = pos (prs r s) (r[i], o) ∧ (r[i], o) ∈ prs r s := by
    intro k x o hk h ho
    have p := prs_get ho hri
    unfold pick at h
    rw [List.getElem?_map, List.getElem?_map, List.getElem?_range hk] at h
    simp only [Option.map_some, Option.some.injEq, List.getD, num_pos p, Option.getD_some] at h
    exact ⟨h.symm, List.mem_of_getElem? p⟩
  obtain ⟨e1, m1⟩ := g hk h1 h3
  obtain ⟨e2, m2⟩ := g hk' h2 h4
  rw [e1, e2]
  constructor
  · intro e
    have := pos_inj m1 m2 e
    exact (Prod.ext_iff.mp this).2
  · intro e; rw [e]
theorem pick_all (r : List Nat) : pick r (List.range r.length) = r := by
  unfold pick
  apply List.ext_getElem?
  intro i
  rw [List.getElem?_map]
  by_cases c : i < r.length
  · rw [List.getElem?_range c, List.getElem?_eq_getElem c]
    simp [List.getD, List.getElem?_eq_getElem c]
  · rw [List.getElem?_eq_none (by simpa using c), List.getElem?_eq_none (by omega)]; rfl
theorem tells_same {κ μ κ' μ' : Type} [DecidableEq κ] [DecidableEq μ] [DecidableEq κ'] [DecidableEq μ'] {a : List κ} {b : List μ} {a' : List κ'} {b' : List μ'} (hl : a.length = b.length) (h1 : SameK a a') (h2 : SameK b b') (h : Tells a b) : Tells a' b' := fun i j hi hj e => by
  have := h1.1
  have := h2.1
  exact (h2.get (by omega) (by omega)).mp (h i j (by omega) (by omega) ((h1.get (by omega) (by omega)).mpr e))
theorem tells_com {r s : List Nat} (hl : r.length = s.length) : Tells r (num (comL r s)) := by
  refine tells_same (comL_length r s).symm (SameK.refl r) (num_same (comL r s)) fun i j hi hj e => ?_
  have hc := comL_length r s
  have := comL_a hl hi hj e
  rw [List.getElem?_eq_getElem (by omega), List.getElem?_eq_getElem (by omega)]
  simp only [List.getD, List.getElem?_eq_getElem (show i < (comL r s).length by omega), List.getElem?_eq_getElem (show j < (comL r s).length by omega)] at this
  exact congrArg _ this
theorem zip_tells {r s : List Nat} (hl : r.length = s.length) : Tells (num (r.zip s)) s := by
  refine tells_same (by simp [hl]) (num_same (r.zip s)) (SameK.refl s) fun i j hi hj e => ?_
  simp at hi hj
  have e1 : (r.zip s)[i]? = some (r[i], s[i]'(by omega)) := List.getElem?_zip_eq_some.mpr ⟨List.getElem?_eq_getElem (by omega), List.getElem?_eq_getElem (by omega)⟩
  have e2 : (r.zip s)[j]? = some (r[j], s[j]'(by omega)) := List.getElem?_zip_eq_some.mpr ⟨List.getElem?_eq_getElem (by omega), List.getElem?_eq_getElem (by omega)⟩
  rw [e1, e2] at e
  have := (Prod.ext_iff.mp (Option.some.inj e)).2
  rw [List.getElem?_eq_getElem (by omega), List.getElem?_eq_getElem (by omega)]
  exact congrArg _ this
theorem tells_const (r : List Nat) (n : Nat) (hl : r.length = n) : Tells r (List.replicate n 0) := fun i j hi hj _ => by
  rw [List.getElem?_replicate, List.getElem?_replicate, if_pos (by omega), if_pos (by omega)]
theorem range_tells (s : List Nat) : Tells (List.range s.length) s := fun i j hi hj e => by
  simp at hi hj
  rw [List.getElem?_range hi, List.getElem?_range hj] at e
  rw [Option.some.inj e]
end Sg

/-! Z: rows of whole numbers; comprehensions by their result; tables of numbers. -/
namespace Z
open PySem PySem.Spec PyProof.Rows L2
theorem seq_of {s rest : TSd} {Φ : Ed} {ρ : En} (M : En → Prop) (hM : ∀ ρ', M ρ' → rest Φ ρ') (h : ∀ N : En → Prop, (∀ ρ', M ρ' → N ρ') → s { Φ with nx := N } ρ) : sSeq s rest Φ ρ := h _ hM
abbrev nI (n : Nat) : D := .int (n : Nat)
abbrev nL (l : List Nat) : List D := l.map nI
theorem rangeD_nL (n : Nat) : rangeD 0 n = nL (List.range n) := by
  unfold rangeD
  apply List.map_congr_left
  intro i _
  rw [Int.zero_add]
theorem atN {α : Type} (l : List α) (i : Nat) : atI l (i : Int) = l[i]? := by
  unfold atI ixN
  rw [if_pos (by omega)]
  by_cases c : (i : Int) < l.length
  · rw [if_pos c]; simp
  · rw [if_neg c, List.getElem?_eq_none (by omega)]; rfl
theorem atI_pos {α : Type} {l : List α} {i : Int} {j : Nat} {x : α} (e : i = (j : Nat)) (h : l[j]? = some x) : atI l i = some x := by rw [e, atN, h]
theorem ixN_nat {n i : Nat} (h : i < n) : ixN n (i : Int) = some i := by
  unfold ixN
  rw [if_pos (by omega), if_pos (by omega)]
  rfl
theorem map_get {α β : Type} {f : α → β} {l : List α} {i : Nat} {y : β} (h : (l.map f)[i]? = some y) : ∃ x, l[i]? = some x ∧ y = f x := by
  rw [List.getElem?_map] at h
  cases e : l[i]? with
  | none => rw [e] at h; cases h
  | some n => rw [e] at h; exact ⟨n, rfl, (Option.some.inj h).symm⟩
theorem get_map {α β : Type} {f : α → β} {l : List α} {i : Nat} {x : α} (h : l[i]? = some x) : (l.map f)[i]? = some (f x) := by rw [List.getElem?_map, h]; rfl
theorem getAt {α : Type} {l : List α} {i : Nat} (h : i < l.length) : l[i]? = some l[i] := List.getElem?_eq_getElem h
theorem get_lt {α : Type} {l : List α} {i : Nat} {x : α} (h : l[i]? = some x) : i < l.length := (List.getElem?_eq_some_iff.mp h).1
theorem take_next {α : Type} {l : List α} {i : Nat} {x : α} (h : l[i]? = some x) : l.take (i + 1) = l.take i ++ [x] := by rw [List.take_add_one, h]; rfl
theorem lk0 {κ α : Type} [BEq κ] [LawfulBEq κ] {f : κ} {v : α} {l : List (κ × α)} : ((f, v) :: l).lookup f = some v := by simp [List.lookup]
theorem lk1 {κ α : Type} [BEq κ] {f g : κ} {v : α} {l : List (κ × α)} (h : (f == g) = false) : ((g, v) :: l).lookup f = l.lookup f := by simp [List.lookup, h]
theorem ex_some {α : Type} {x : α} {Q : α → Prop} : (∃ v, some x = some v ∧ Q v) = Q x := propext ⟨fun ⟨v, e, q⟩ => by cases e; exact q, fun q => ⟨x, rfl, q⟩⟩
theorem at0 {α : Type} {x0 : α} {l : List α} : atI (x0 :: l) 0 = some x0 := by
  unfold atI ixN
  rw [if_pos (by decide), if_pos (by simp only [List.length_cons]; omega)]; rfl
theorem at1 {α : Type} {x0 x1 : α} {l : List α} : atI (x0 :: x1 :: l) 1 = some x1 := by
  unfold atI ixN
  rw [if_pos (by decide), if_pos (by simp only [List.length_cons]; omega)]; rfl
theorem at2 {α : Type} {x0 x1 x2 : α} {l : List α} : atI (x0 :: x1 :: x2 :: l) 2 = some x2 := by
  unfold atI ixN
  rw [if_pos (by decide), if_pos (by simp only [List.length_cons]; omega)]; rfl
theorem at3 {α : Type} {x0 x1 x2 x3 : α} {l : List α} : atI (x0 :: x1 :: x2 :: x3 :: l) 3 = some x3 := by
  unfold atI ixN
  rw [if_pos (by decide), if_pos (by simp only [List.length_cons]; omega)]; rfl
theorem at4 {α : Type} {x0 x1 x2 x3 x4 : α} {l : List α} : atI (x0 :: x1 :: x2 :: x3 :: x4 :: l) 4 = some x4 := by
  unfold atI ixN
  rw [if_pos (by decide), if_pos (by simp only [List.length_cons]; omega)]; rfl
theorem at5 {α : Type} {x0 x1 x2 x3 x4 x5 : α} {l : List α} : atI (x0 :: x1 :: x2 :: x3 :: x4 :: x5 :: l) 5 = some x5 := by
  unfold atI ixN
  rw [if_pos (by decide), if_pos (by simp only [List.length_cons]; omega)]; rfl
theorem at6 {α : Type} {x0 x1 x2 x3 x4 x5 x6 : α} {l : List α} : atI (x0 :: x1 :: x2 :: x3 :: x4 :: x5 :: x6 :: l) 6 = some x6 := by
  unfold atI ixN
  rw [if_pos (by decide), if_pos (by simp only [List.length_cons]; omega)]; rfl
theorem at7 {α : Type} {x0 x1 x2 x3 x4 x5 x6 x7 : α} {l : List α} : atI (x0 :: x1 :: x2 :: x3 :: x4 :: x5 :: x6 :: x7 :: l) 7 = some x7 := by
  unfold atI ixN
  rw [if_pos (by decide), if_pos (by simp only [List.length_cons]; omega)]; rfl
theorem at8 {α : Type} {x0 x1 x2 x3 x4 x5 x6 x7 x8 : α} {l : List α} : atI (x0 :: x1 :: x2 :: x3 :: x4 :: x5 :: x6 :: x7 :: x8 :: l) 8 = some x8 := by
  unfold atI ixN
  rw [if_pos (by decide), if_pos (by simp only [List.length_cons]; omega)]; rfl
theorem at9 {α : Type} {x0 x1 x2 x3 x4 x5 x6 x7 x8 x9 : α} {l : List α} : atI (x0 :: x1 :: x2 :: x3 :: x4 :: x5 :: x6 :: x7 :: x8 :: x9 :: l) 9 = some x9 := by
  unfold atI ixN
  rw [if_pos (by decide), if_pos (by simp only [List.length_cons]; omega)]; rfl
theorem at10 {α : Type} {x0 x1 x2 x3 x4 x5 x6 x7 x8 x9 x10 : α} {l : List α} : atI (x0 :: x1 :: x2 :: x3 :: x4 :: x5 :: x6 :: x7 :: x8 :: x9 :: x10 :: l) 10 = some x10 := by
  unfold atI ixN
  rw [if_pos (by decide), if_pos (by simp only [List.length_cons]; omega)]; rfl
theorem at11 {α : Type} {x0 x1 x2 x3 x4 x5 x6 x7 x8 x9 x10 x11 : α} {l : List α} : atI (x0 :: x1 :: x2 :: x3 :: x4 :: x5 :: x6 :: x7 :: x8 :: x9 :: x10 :: x11 :: l) 11 = some x11 := by
  unfold atI ixN
  rw [if_pos (by decide), if_pos (by simp only [List.length_cons]; omega)]; rfl
/-- an item of a written list -/
theorem at_lit (l : List Int) (p : Int → Prop) (hp : ∀ x ∈ l, p x) {i : Int} (h0 : 0 ≤ i) (h1 : i < l.length) {Q : D → Prop} (h : ∀ x, p x → Q (.int x)) : ∃ d, atI (l.map D.int) i = some d ∧ Q d := by
  obtain ⟨n, rfl⟩ := Int.eq_ofNat_of_zero_le h0
  have hn : n < l.length := by omega
  have e := List.getElem?_eq_getElem hn
  refine ⟨_, by rw [atN]; rw [List.getElem?_map, e]; rfl, h _ (hp _ (List.getElem_mem hn))⟩
theorem rep1 (n : Nat) (w : Int) : (List.replicate n [D.int w]).flatten = (List.replicate n w).map D.int := by
  induction n with
  | zero => rfl
  | succ n ih => rw [List.replicate_succ, List.flatten_cons, ih]; rfl
/-! ### data that may be compared -/
def okT (n : Nat) (d : D) : Prop := dataD d = true ∧ (pyOf d).canLay0 = true ∧ (pyOf d).depth ≤ n
theorem okT.ok {n : Nat} {d : D} (h : okT n d) (k : n ≤ 64) : okD d := ⟨h.1, by
  unfold SeqAt.shaped
  rw [h.2.1, Bool.true_and, decide_eq_true_eq]
  exact Nat.le_trans h.2.2 k⟩
theorem okT_int {n : Nat} (i : Int) : okT n (.int i) := ⟨rfl, by simp [pyOf, PyData.canLay0], by simp [pyOf, PyData.depth]⟩
theorem okT_bl {n : Nat} (i : Bool) : okT n (.bl i) := ⟨rfl, by simp [pyOf, PyData.canLay0], by simp [pyOf, PyData.depth]⟩
theorem okT_non {n : Nat} : okT n .non := ⟨rfl, by simp [pyOf, PyData.canLay0], by simp [pyOf, PyData.depth]⟩
theorem okAll {n : Nat} : ∀ {l : List D}, (∀ d ∈ l, okT n d) → dataAll l = true ∧ PyData.canLayAll0 (pyAll l) = true ∧ PyData.depthAll (pyAll l) ≤ n
  | [], _ => ⟨rfl, by simp [pyAll, PyData.canLayAll0], by simp [pyAll, PyData.depthAll]⟩
  | d :: l, h => by
    obtain ⟨a1, a2, a3⟩ := h d List.mem_cons_self
    obtain ⟨b1, b2, b3⟩ := okAll (l := l) fun x hx => h x (List.mem_cons_of_mem _ hx)
    rw [dataAll, pyAll, PyData.canLayAll0, PyData.depthAll, a1, b1, a2, b2]
    exact ⟨rfl, rfl, Nat.max_le.mpr ⟨a3, b3⟩⟩
theorem okT_lst {n : Nat} {l : List D} (h : ∀ d ∈ l, okT n d) : okT (n + 1) (.lst l) := by
  obtain ⟨a, b, c⟩ := okAll h
  refine ⟨by rw [dataD]; exact a, by rw [pyOf, PyData.canLay0]; exact b, by rw [pyOf, PyData.depth]; exact Nat.succ_le_succ c⟩
theorem okT_tup {n : Nat} {l : List D} (h : ∀ d ∈ l, okT n d) : okT (n + 1) (.tup l) := by
  obtain ⟨a, b, c⟩ := okAll h
  refine ⟨by rw [dataD]; exact a, by rw [pyOf, PyData.canLay0]; exact b, by rw [pyOf, PyData.depth]; exact Nat.succ_le_succ c⟩
theorem okT_ints {n : Nat} (l : List Int) : ∀ d ∈ l.map D.int, okT n d := fun d hd => by
  obtain ⟨i, _, rfl⟩ := List.mem_map.mp hd; exact okT_int i
theorem okT_nats {n : Nat} (l : List Nat) : ∀ d ∈ nL l, okT n d := fun d hd => by
  obtain ⟨i, _, rfl⟩ := List.mem_map.mp hd; exact okT_int _
mutual
theorem eqv_refl : ∀ d : PyData, d.canLay0 = true → PyData.eqv d d = true
  | .none, _ => by simp [PyData.eqv]
  | .bool _, _ => by simp [PyData.eqv]
  | .int _, _ => by simp [PyData.eqv]
  | .str _, _ => by simp [PyData.eqv]
  | .list xs, h => by rw [PyData.eqv]; exact eqvAll_refl xs (by rwa [PyData.canLay0] at h)
  | .tuple xs, h => by rw [PyData.eqv]; exact eqvAll_refl xs (by rwa [PyData.canLay0] at h)
  | .dict _, h => by rw [PyData.canLay0] at h; cases h
theorem eqvAll_refl : ∀ l : List PyData, PyData.canLayAll0 l = true → PyData.eqvAll l l = true
  | [], _ => by simp [PyData.eqvAll]
  | d :: l, h => by
    rw [PyData.canLayAll0, Bool.and_eq_true] at h
    rw [PyData.eqvAll, eqv_refl d h.1, eqvAll_refl l h.2]; rfl
end
theorem eqD_refl {n : Nat} {d : D} (h : okT n d) : eqD d d = true := eqv_refl _ h.2.1
theorem eqvAll_ints : ∀ a b : List Int, PyData.eqvAll (pyAll (a.map D.int)) (pyAll (b.map D.int)) = decide (a = b)
  | [], [] => by simp [pyAll, PyData.eqvAll]
  | [], _ :: _ => by simp [pyAll, PyData.eqvAll]
  | _ :: _, [] => by simp [pyAll, PyData.eqvAll]
  | x :: a, y :: b => by
    rw [List.map_cons, List.map_cons, pyAll, pyAll, PyData.eqvAll, eqvAll_ints a b, pyOf, pyOf, PyData.eqv]
    by_cases c : x = y <;> simp [c]
abbrev iL (l : List Nat) : List Int := l.map Int.ofNat
theorem nL_ints (l : List Nat) : nL l = (iL l).map D.int := by rw [List.map_map]; rfl
theorem iL_inj : ∀ a b : List Nat, iL a = iL b → a = b
  | [], [], _ => rfl
  | [], _ :: _, h => by simp at h
  | _ :: _, [], h => by simp at h
  | x :: a, y :: b, h => by
    obtain ⟨h1, h2⟩ := List.cons.inj (show Int.ofNat x :: iL a = Int.ofNat y :: iL b from h)
    rw [Int.ofNat.inj h1, iL_inj a b h2]
theorem eqvAll_nats (a b : List Nat) : PyData.eqvAll (pyAll (nL a)) (pyAll (nL b)) = decide (a = b) := by
  rw [nL_ints, nL_ints, eqvAll_ints]
  by_cases c : a = b
  · rw [decide_eq_true c, decide_eq_true (by rw [c])]
  · rw [decide_eq_false c, decide_eq_false fun z => c (iL_inj _ _ z)]
theorem eqD_tupI (a b : List Int) : eqD (.tup (a.map D.int)) (.tup (b.map D.int)) = decide (a = b) := by unfold eqD; rw [pyOf, pyOf, PyData.eqv, eqvAll_ints]
theorem eqD_lstI (a b : List Int) : eqD (.lst (a.map D.int)) (.lst (b.map D.int)) = decide (a = b) := by unfold eqD; rw [pyOf, pyOf, PyData.eqv, eqvAll_ints]
theorem eqD_tupN (a b : List Nat) : eqD (.tup (nL a)) (.tup (nL b)) = decide (a = b) := by unfold eqD; rw [pyOf, pyOf, PyData.eqv, eqvAll_nats]
theorem eqD_lstN (a b : List Nat) : eqD (.lst (nL a)) (.lst (nL b)) = decide (a = b) := by unfold eqD; rw [pyOf, pyOf, PyData.eqv, eqvAll_nats]
/-! ### comprehensions -/
section
variable {ti : TAd} {tg : TGd} {tt : TTd} {te : TEd} {vs : List Nat} {ρ : En} {P : List D → Prop} {Xp : Xd}
theorem lc_of (items out : List D) (hl : out.length = items.length) (hz : items.length ≤ sizeLine) (hi : ∀ (P : List D → Prop) Xp, P items → ti ρ P Xp)
    (hs : ∀ (i : Nat) x y, items[i]? = some x → out[i]? = some y → ∀ A : D → Prop, A y → tg x (wipeD ρ vs) fun ρ2 => te ρ2 A NoX) (hP : P out) : fLc ti tg tYes te vs ρ P Xp := by
  refine hi _ _ ⟨fun i acc => acc = out.take i, by simp, fun i x acc hx e => ?_, fun acc e => by rw [e, ← hl, List.take_length]; exact hP⟩
  have hlt := get_lt hx
  have hy := getAt (l := out) (i := i) (by omega)
  have h := hs i x _ hx hy (fun y => acc.length < sizeLine ∧ acc ++ [y] = out.take (i + 1)) ⟨by rw [e, List.length_take]; omega, by rw [e, take_next hy]⟩
  exact h
/-- the comprehension's turns, its items known later -/
def lcB (tg : TGd) (tt : TTd) (te : TEd) (vs : List Nat) (ρ : En) (P : List D → Prop) (items : List D) : Prop := ∃ I : Nat → List D → Prop, I 0 [] ∧
  (∀ (i : Nat) x acc, items[i]? = some x → I i acc → tg x (wipeD ρ vs) fun ρ2 => tt ρ2 (fun b => if b = true then te ρ2 (fun y => acc.length < sizeLine ∧ I (i + 1) (acc ++ [y])) NoX else I (i + 1) acc) NoX) ∧ ∀ acc, I items.length acc → P acc
theorem lc_in (h : ti ρ (lcB tg tt te vs ρ P) Xp) : fLc ti tg tt te vs ρ P Xp := h
theorem lcB_map {α : Type} (l : List α) (g f : α → D) (hz : l.length ≤ sizeLine)
    (hs : ∀ (i : Nat) a, l[i]? = some a → ∀ A : D → Prop, A (f a) → tg (g a) (wipeD ρ vs) fun ρ2 => te ρ2 A NoX) (hP : P (l.map f)) : lcB tg tYes te vs ρ P (l.map g) := by
  refine ⟨fun i acc => acc = (l.take i).map f, by simp, fun i x acc hx e => ?_, fun acc e => ?_⟩
  · obtain ⟨a, ha, rfl⟩ := map_get hx
    have hlt := get_lt ha
    have e' : acc = (l.take i).map f := e
    refine hs i a ha (fun y => acc.length < sizeLine ∧ acc ++ [y] = (l.take (i + 1)).map f) ⟨?_, ?_⟩
    · rw [e', List.length_map, List.length_take]; omega
    · rw [e', take_next ha, List.map_append]; rfl
  · have e' : acc = (l.take (l.map g).length).map f := e
    rw [List.length_map, List.take_length] at e'
    rw [e']; exact hP
/-- over range(n) -/
theorem lc_rng (n : Nat) (f : Nat → D) (hz : n ≤ sizeLine) (hi : ∀ (P : List D → Prop) Xp, P (rangeD 0 n) → ti ρ P Xp)
    (hs : ∀ (i : Nat), i < n → ∀ A : D → Prop, A (f i) → tg (nI i) (wipeD ρ vs) fun ρ2 => te ρ2 A NoX) (hP : P ((List.range n).map f)) : fLc ti tg tYes te vs ρ P Xp := by
  refine lc_of (rangeD 0 n) ((List.range n).map f) (by rw [rangeD_length]; simp) (by rw [rangeD_length]; exact hz) hi (fun i x y hx hy A hA => ?_) hP
  obtain ⟨h1, rfl⟩ := rangeD_get hx
  rw [Int.zero_add]
  obtain ⟨j, hj, rfl⟩ := map_get hy
  rw [List.getElem?_range h1] at hj
  cases hj
  exact hs i h1 A hA
/-- over the items of a list -/
theorem lc_map {α : Type} (l : List α) (g f : α → D) (hz : l.length ≤ sizeLine) (hi : ∀ (P : List D → Prop) Xp, P (l.map g) → ti ρ P Xp)
    (hs : ∀ (i : Nat) a, l[i]? = some a → ∀ A : D → Prop, A (f a) → tg (g a) (wipeD ρ vs) fun ρ2 => te ρ2 A NoX) (hP : P (l.map f)) : fLc ti tg tYes te vs ρ P Xp := by
  refine lc_of (l.map g) (l.map f) (by simp) (by simpa using hz) hi (fun i x y hx hy A hA => ?_) hP
  obtain ⟨a, ha, rfl⟩ := map_get hx
  rw [get_map ha] at hy
  cases hy
  exact hs i a ha A hA
/-- with a test, over range(n) -/
theorem lc_flt (n : Nat) (p : Nat → Bool) (f : Nat → D) (hz : n ≤ sizeLine) (hi : ∀ (P : List D → Prop) Xp, P (rangeD 0 n) → ti ρ P Xp)
    (hs : ∀ (i : Nat), i < n → ∀ (A : D → Prop) (B : Prop), (p i = true → A (f i)) → (p i = false → B) → tg (nI i) (wipeD ρ vs) fun ρ2 => tt ρ2 (fun b => if b = true then te ρ2 A NoX else B) NoX)
    (hP : P (((List.range n).filter p).map f)) : fLc ti tg tt te vs ρ P Xp := by
  refine hi _ _ ⟨fun i acc => acc = ((List.range i).filter p).map f, by simp, fun i x acc hx e => ?_, fun acc e => by rw [rangeD_length] at e; rw [e]; exact hP⟩
  obtain ⟨h1, rfl⟩ := rangeD_get hx
  rw [Int.zero_add]
  have hlen : acc.length < sizeLine := by
    rw [e, List.length_map]
    have := List.length_filter_le p (List.range i)
    rw [List.length_range] at this
    omega
  refine hs i h1 _ _ (fun hp => ⟨hlen, ?_⟩) (fun hp => ?_)
  · show acc ++ [f i] = ((List.range (i + 1)).filter p).map f
    rw [e, List.range_succ, List.filter_append, List.map_append]
    simp [hp]
  · show acc = ((List.range (i + 1)).filter p).map f
    rw [e, List.range_succ, List.filter_append]
    simp [hp]
end
/-! ### tables of numbers by their first places -/
section
variable {κ : Type} [DecidableEq κ]
def tabU (u : List κ) : List (κ × D) := u.zipIdx.map fun p => (p.1, .int (p.2 : Nat))
theorem tabU_length (u : List κ) : (tabU u).length = u.length := by unfold tabU; simp
theorem tabU_snoc (u : List κ) (k : κ) : tabU (u ++ [k]) = tabU u ++ [(k, .int (u.length : Nat))] := by
  unfold tabU
  rw [List.zipIdx_append, List.map_append]
  simp
theorem lkD_append {l m : List (κ × D)} {k : κ} : lkD (l ++ m) k = (lkD l k).or (lkD m k) := by
  unfold lkD
  rw [List.find?_append]
  cases l.find? fun kv => decide (kv.1 = k) <;> rfl
theorem lkD_tabU (u : List κ) (k : κ) (hn : u.Nodup) : lkD (tabU u) k = if k ∈ u then some (.int (u.idxOf k : Nat)) else none := by
  have key : ∀ (u : List κ) (n : Nat), lkD ((u.zipIdx n).map fun p => (p.1, D.int (p.2 : Nat))) k = if k ∈ u then some (.int ((n + u.idxOf k : Nat) : Int)) else none := by
    intro u
    induction u with
    | nil => intro n; rfl
    | cons x u ih =>
      intro n
      rw [List.zipIdx_cons, List.map_cons]
      by_cases c : x = k
      · rw [lkD_pos (by exact c), if_pos (by rw [c]; exact List.mem_cons_self), List.idxOf_cons, show (x == k) = true by simpa using c]; rfl
      · rw [lkD_neg (by exact c), ih, List.idxOf_cons, show (x == k) = false by simpa using c]
        by_cases m : k ∈ u
        · rw [if_pos m, if_pos (List.mem_cons_of_mem _ m)]
          congr 2; show ((n + 1 + List.idxOf k u : Nat) : Int) = ((n + (List.idxOf k u + 1) : Nat) : Int); omega
        · rw [if_neg m, if_neg (fun z => by rcases List.mem_cons.mp z with e | e; exact c e.symm; exact m e)]
  have := key u 0
  rw [Nat.zero_add] at this
  exact this
theorem putKD_new {l : List (κ × D)} {k : κ} {d : D} (h : lkD l k = none) : putKD l k d = l ++ [(k, d)] := by
  unfold putKD
  rw [if_neg]
  intro z
  rw [List.any_eq_true] at z
  obtain ⟨x, hx, e⟩ := z
  unfold lkD at h
  rw [Option.map_eq_none_iff, List.find?_eq_none] at h
  exact h x hx e
theorem sDic_of (K : DKind κ) {Φ : Ed} {i : Nat} {ρ : En} (h : Φ.nx (ρ.set i (.own (K.ow [])))) : sDic i Φ ρ := by
  rcases K.ini with e | e <;> rw [e] at h
  · exact .inl h
  · exact .inr h
end
end Z

/-! Z: lists of lists by places. -/
namespace Z
open PySem PySem.Spec PyProof.Rows L2
section
variable {g p : Addr} {ps : List Addr} {ls : List (List D)} {l l' : List D}
theorem osAt_cons_ne {q : Addr} {o : Os} {T : List (Addr × Os)} (h : q ≠ p) : osAt ((q, o) :: T) p = osAt T p := by
  unfold osAt
  rw [List.find?_cons_of_neg (by simpa using h)]
theorem osAt_cons_eq {o : Os} {T : List (Addr × Os)} : osAt ((p, o) :: T) p = some o := by
  unfold osAt
  rw [List.find?_cons_of_pos (by simp)]; rfl
theorem osAt_root : osAt (nstT g ps ls) g = some (.lst (ps.map .ptr)) := osAt_cons_eq
theorem osAt_zip : ∀ {ps : List Addr} {ls : List (List D)}, ps.Nodup → ∀ {k : Nat}, ps[k]? = some p → ls[k]? = some l → osAt (ps.zip (ls.map Os.lst)) p = some (.lst l)
  | [], ls, _, k, h, _ => by simp at h
  | q :: ps, [], _, k, _, h => by simp at h
  | q :: ps, m :: ls, nd, 0, h, h' => by
    simp at h h'
    subst h; subst h'
    exact osAt_cons_eq
  | q :: ps, m :: ls, nd, k + 1, h, h' => by
    simp only [List.getElem?_cons_succ] at h h'
    have nd' := List.nodup_cons.mp nd
    have : q ≠ p := fun e => nd'.1 (by rw [e]; exact List.mem_of_getElem? h)
    exact (osAt_cons_ne this).trans (osAt_zip nd'.2 h h')
theorem osAt_nst (nd : (g :: ps).Nodup) {k : Nat} (h : ps[k]? = some p) (h' : ls[k]? = some l) : osAt (nstT g ps ls) p = some (.lst l) := by
  have nd' := List.nodup_cons.mp nd
  have : g ≠ p := fun e => nd'.1 (by rw [e]; exact List.mem_of_getElem? h)
  exact (osAt_cons_ne this).trans (osAt_zip nd'.2 h h')
theorem putOs_none {o : Os} : ∀ {T : List (Addr × Os)}, (∀ x ∈ T, x.1 ≠ p) → putOs T p o = T
  | [], _ => rfl
  | x :: T, h => by
    unfold putOs
    rw [List.map_cons, if_neg (h x List.mem_cons_self)]
    exact congrArg _ (putOs_none fun y hy => h y (List.mem_cons_of_mem _ hy))
theorem putOs_zip : ∀ {ps : List Addr} {ls : List (List D)}, ps.Nodup → ∀ {k : Nat}, ps[k]? = some p → putOs (ps.zip (ls.map Os.lst)) p (.lst l') = ps.zip ((ls.set k l').map Os.lst)
  | [], ls, _, k, h => by simp at h
  | q :: ps, [], _, k, h => rfl
  | q :: ps, m :: ls, nd, 0, h => by
    simp at h
    subst h
    have nd' := List.nodup_cons.mp nd
    show (if q = q then (q, Os.lst l') else (q, Os.lst m)) :: putOs (ps.zip (ls.map Os.lst)) q (.lst l') = _
    rw [if_pos rfl, putOs_none fun x hx e => nd'.1 (by rw [← e]; exact (List.of_mem_zip hx).1)]
    rfl
  | q :: ps, m :: ls, nd, k + 1, h => by
    simp only [List.getElem?_cons_succ] at h
    have nd' := List.nodup_cons.mp nd
    have : q ≠ p := fun e => nd'.1 (by rw [e]; exact List.mem_of_getElem? h)
    show (if q = p then (p, Os.lst l') else (q, Os.lst m)) :: putOs (ps.zip (ls.map Os.lst)) p (.lst l') = _
    rw [if_neg this, putOs_zip nd'.2 h]
    rfl
theorem putOs_nst (nd : (g :: ps).Nodup) {k : Nat} (h : ps[k]? = some p) : putOs (nstT g ps ls) p (.lst l') = nstT g ps (ls.set k l') := by
  have nd' := List.nodup_cons.mp nd
  have : g ≠ p := fun e => nd'.1 (by rw [e]; exact List.mem_of_getElem? h)
  show (if g = p then (p, Os.lst l') else (g, Os.lst (ps.map D.ptr))) :: putOs (ps.zip (ls.map Os.lst)) p (.lst l') = _
  rw [if_neg this, putOs_zip nd'.2 h]
  rfl
/-- plain values are as they are -/
def flt : D → Prop
  | .ptr _ => False
  | _ => True
theorem deepD_flt {T : List (Addr × Os)} {n : Nat} {d : D} (h : flt d) : deepD T n d = d := by
  cases d <;> first | exact h.elim | (rw [deepD]; intro p z; cases z)
theorem deepL_flt {T : List (Addr × Os)} {n : Nat} : ∀ {l : List D}, (∀ d ∈ l, flt d) → deepL T n l = l
  | [], _ => by rw [deepL]
  | d :: l, h => by rw [deepL, deepD_flt (h d List.mem_cons_self), deepL_flt fun x hx => h x (List.mem_cons_of_mem _ hx)]
theorem deepD_ptr {T : List (Addr × Os)} {n : Nat} {l : List D} (h : osAt T p = some (.lst l)) : deepD T (n + 1) (.ptr p) = .lst (deepL T n l) := by
  rw [deepD, h]
theorem deepL_get {T : List (Addr × Os)} {n : Nat} : ∀ (l : List D), deepL T n l = l.map (deepD T n)
  | [] => by rw [deepL]; rfl
  | d :: l => by rw [deepL, deepL_get l]; rfl
theorem nst_d (nd : (g :: ps).Nodup) (hl : ps.length = ls.length) (hf : ∀ l ∈ ls, ∀ d ∈ l, flt d) (h0 : 0 < ls.length) : (Ow.nst g (nstT g ps ls)).d = .lst (ls.map .lst) := by
  show deepD (nstT g ps ls) ((nstT g ps ls).length + 1) (.ptr g) = _
  have hn : (nstT g ps ls).length + 1 = ((nstT g ps ls).length - 1 + 1) + 1 := by unfold nstT; simp
  rw [hn, deepD_ptr osAt_root, deepL_get]
  congr 1
  apply List.ext_getElem?
  intro k
  simp only [List.getElem?_map]
  by_cases c : k < ls.length
  · have e1 := getAt (l := ps) (i := k) (by omega)
    have e2 := getAt c
    rw [e1, e2]
    show some (deepD _ _ (.ptr _)) = some (.lst _)
    rw [deepD_ptr (osAt_nst nd e1 e2), deepL_flt fun d hd => hf _ (List.mem_of_getElem? e2) d hd]
  · rw [List.getElem?_eq_none (by omega), List.getElem?_eq_none (by omega)]; rfl
theorem d_lst {l : List D} : (Ow.lst l).d = .lst l := rfl
theorem d_ins {a : Addr} {C : Str} {fs : List (Str × D)} : (Ow.ins a C fs).d = .ins C fs := rfl
theorem d_dk {l : List (Key × D)} : (Ow.dk l).d = .dk l := rfl
theorem d_dt {l : List (List Key × D)} : (Ow.dt l).d = .dt l := rfl
/-- y = [a new list each] -/
theorem lcN_map {α : Type} {ti : TAd} {tg : TGd} {tf : TAd} {vs : List Nat} {i : Nat} {Φ : Ed} {ρ : En} (l : List α) (q : α → D) (f : α → List D) (hz : l.length ≤ sizeLine)
    (hi : ∀ (P : List D → Prop) Xp, P (l.map q) → ti ρ P Xp)
    (hs : ∀ (j : Nat) a, l[j]? = some a → ∀ A : List D → Prop, A (f a) → tg (q a) (wipeD ρ vs) fun ρ2 => tf ρ2 A NoX)
    (h : ∀ (g : Addr) (ps : List Addr), ps.length = l.length → (g :: ps).Nodup → Φ.nx (ρ.set i (.own (.nst g (nstT g ps (l.map f)))))) : sSetLcN ti tg tYes tf vs i Φ ρ := by
  refine hi _ _ ⟨fun k acc => acc = (l.take k).map f, by simp, fun k x acc hx e => ?_, fun acc e g ps hl nd => ?_⟩
  · obtain ⟨a, ha, rfl⟩ := map_get hx
    have hlt := get_lt ha
    refine hs k a ha (fun y => acc.length < sizeLine ∧ acc ++ [y] = (l.take (k + 1)).map f) ⟨?_, ?_⟩
    · have e' : acc = (l.take k).map f := e
      rw [e', List.length_map, List.length_take]; omega
    · have e' : acc = (l.take k).map f := e
      rw [e', take_next ha, List.map_append]; rfl
  · have e' : acc = (l.take (l.map q).length).map f := e
    rw [List.length_map, List.take_length] at e'
    rw [e'] at hl ⊢
    exact h g ps (by simpa using hl) nd
theorem lcN_rng {ti : TAd} {tg : TGd} {tf : TAd} {vs : List Nat} {i : Nat} {Φ : Ed} {ρ : En} (n : Nat) (f : Nat → List D) (hz : n ≤ sizeLine)
    (hi : ∀ (P : List D → Prop) Xp, P (rangeD 0 n) → ti ρ P Xp)
    (hs : ∀ (j : Nat), j < n → ∀ A : List D → Prop, A (f j) → tg (nI j) (wipeD ρ vs) fun ρ2 => tf ρ2 A NoX)
    (h : ∀ (g : Addr) (ps : List Addr), ps.length = n → (g :: ps).Nodup → Φ.nx (ρ.set i (.own (.nst g (nstT g ps ((List.range n).map f)))))) : sSetLcN ti tg tYes tf vs i Φ ρ := by
  refine lcN_map (List.range n) nI f (by simpa using hz) (fun P Xp q => hi P Xp (by rw [rangeD_nL]; exact q)) (fun j a ha A hA => ?_) (fun g ps hl nd => h g ps (by simpa using hl) nd)
  have := List.mem_of_getElem? ha
  exact hs a (List.mem_range.mp this) A hA
end
end Z

/-! Z: loops that number and that gather. -/
namespace Z
open PySem PySem.Spec PyProof.Rows L2 Sg
theorem nL_set (l : List Nat) (i x : Nat) : nL (l.set i x) = (nL l).set i (nI x) := List.map_set
theorem nL_snoc (l : List Nat) (x : Nat) : nL (l ++ [x]) = nL l ++ [nI x] := List.map_append
section
variable {κ : Type} [DecidableEq κ]
abbrev numBody : TSd := sSeq (sIf (tBl (eInO true 1 (eVar 3))) (sPutO 1 (eVar 3) (eLenD 1)) sNext) (sApp 2 (eGetO 1 (eVar 3)))
theorem num_loop (K : DKind κ) (d : D) (l : List κ) (hd : ∀ P : List D → Prop, P (l.map K.key) → itemsD d P) (hz : l.length ≤ sizeLine) {Φ : Ed} {x : Sl}
    (h : ∀ y, Φ.nx [.val d, .own (K.ow (tabU (fst l))), .own (.lst (nL (num l))), y]) : sFor (iSeq (eVar 0)) (gN 3) numBody Φ [.val d, .own (K.ow []), .own (.lst []), x] := by
  refine for_of (l.map K.key) (fun i ρ' => ∃ y, ρ' = [.val d, .own (K.ow (tabU (fst (l.take i)))), .own (.lst (nL (num (l.take i)))), y]) (fun P Xp q => ⟨d, rfl, hd _ q⟩) ⟨x, rfl⟩ ?_ ?_
  · rintro i z ρ' hx ⟨y, rfl⟩
    obtain ⟨k, hk, rfl⟩ := map_get hx
    have hi := get_lt hk
    have hlen : (fst (l.take i)).length < sizeLine := by
      have := fst_length_le (l.take i)
      rw [List.length_take] at this
      omega
    have nd := fst_nd (l.take i)
    refine seq_of (fun ρ' => ρ' = [.val d, .own (K.ow (tabU (fst (l.take (i + 1))))), .own (.lst (nL (num (l.take i)))), .val (K.key k)]) ?_ (fun N hN => ?_)
    · rintro ρ' rfl
      refine ⟨_, rfl, _, rfl, _, rfl, K.get _ _ _ ?_⟩
      rw [lkD_tabU _ _ (fst_nd _), if_pos ((mem_fst _ k).mpr (by rw [take_next hk]; simp))]
      refine ⟨_, rfl, ?_, .val (K.key k), ?_⟩
      · rw [List.length_map, num_length, List.length_take]; omega
      · rw [take_next hk, num_snoc, nL_snoc]; rfl
    · refine ⟨_, rfl, _, rfl, K.get _ _ _ ?_⟩
      rw [lkD_tabU _ _ nd]
      by_cases c : k ∈ fst (l.take i)
      · rw [if_pos c]
        show N _
        apply hN
        rw [take_next hk, fst_snoc, addF, if_pos c]
        rfl
      · rw [if_neg c]
        refine ⟨_, rfl, ⟨_, rfl, K.len _ _ ?_⟩⟩
        refine ⟨_, rfl, K.put _ _ _ _ (by rw [tabU_length]; exact hlen) ?_⟩
        apply hN
        rw [take_next hk, fst_snoc, addF, if_neg c, tabU_snoc, putKD_new (by rw [lkD_tabU _ _ nd, if_neg c]), tabU_length]
        rfl
  · rintro ρ' ⟨y, rfl⟩
    rw [List.length_map, List.take_length]
    exact h y
end
/-! ### the first deal of each mark -/
def tabF (m : List Int) (n : Nat) : List (Int × D) := (fst (m.take n)).map fun k => (k, nI (m.idxOf k))
theorem lkD_map {κ : Type} [DecidableEq κ] (u : List κ) (f : κ → D) (k : κ) : lkD (u.map fun k => (k, f k)) k = if k ∈ u then some (f k) else none := by
  induction u with
  | nil => rfl
  | cons x u ih =>
    rw [List.map_cons]
    by_cases c : x = k
    · subst c; rw [lkD_pos rfl, if_pos List.mem_cons_self]
    · rw [lkD_neg c, ih]
      by_cases m : k ∈ u
      · rw [if_pos m, if_pos (List.mem_cons_of_mem _ m)]
      · rw [if_neg m, if_neg fun z => by rcases List.mem_cons.mp z with e | e; exact c e.symm; exact m e]
theorem lkD_tabF (m : List Int) (n : Nat) (k : Int) : lkD (tabF m n) k = if k ∈ m.take n then some (nI (m.idxOf k)) else none := by
  unfold tabF
  rw [lkD_map]
  simp only [mem_fst]
theorem tabF_len (m : List Int) (n : Nat) : (tabF m n).length ≤ n := by
  unfold tabF
  rw [List.length_map]
  have := fst_length_le (m.take n)
  rw [List.length_take] at this
  omega
theorem tabF_old {m : List Int} {n : Nat} {k : Int} (h : m[n]? = some k) (c : k ∈ m.take n) : tabF m (n + 1) = tabF m n := by
  unfold tabF
  rw [take_next h, fst_snoc, addF, if_pos ((mem_fst _ _).mpr c)]
theorem idx_first {m : List Int} {n : Nat} {k : Int} (h : m[n]? = some k) (c : k ∉ m.take n) : m.idxOf k = n := by
  have hn := get_lt h
  have h1 := fi_le (m := m) hn
  have h2 : fi m n = m.idxOf k := by unfold fi; rw [h]
  have h3 := fi_get (m := m) hn
  rw [h2] at h1 h3
  by_cases e : m.idxOf k = n
  · exact e
  · exfalso
    apply c
    rw [h] at h3
    have : (m.take n)[m.idxOf k]? = some k := by rw [List.getElem?_take_of_lt (by omega)]; exact h3
    exact List.mem_of_getElem? this
theorem tabF_new {m : List Int} {n : Nat} {k : Int} (h : m[n]? = some k) (c : k ∉ m.take n) : tabF m (n + 1) = putKD (tabF m n) k (nI n) := by
  rw [putKD_new (by rw [lkD_tabF, if_neg c])]
  unfold tabF
  rw [take_next h, fst_snoc, addF, if_neg (fun z => c ((mem_fst _ _).mp z)), List.map_append]
  show _ ++ [(k, nI (m.idxOf k))] = _
  rw [idx_first h c]
/-- a row of marks that is read by places -/
def IxI (d : D) (m : List Int) : Prop := ∀ (j : Nat) k (P : D → Prop), m[j]? = some k → P (.int k) → oIx d (nI j) P
theorem ixI_lst (m : List Int) : IxI (.lst (m.map D.int)) m := fun j k P h q => ⟨_, by rw [atN]; exact get_map h, q⟩
theorem ixI_tup (m : List Int) : IxI (.tup (m.map D.int)) m := fun j k P h q => ⟨_, by rw [atN]; exact get_map h, q⟩
section
variable {s a b : Nat} {ρ : En} {m : List Int} {i : Nat} {d : D}
theorem firsts_step {Φ : Ed} (hs : ρ[s]? = some (.own (dkInt.ow (tabF m i)))) (ha : ρ[a]? = some (.val d)) (hb : ρ[b]? = some (.val (nI i))) (hd : IxI d m) (hi : i < m.length) (hz : i < sizeLine)
    (h : Φ.nx (ρ.set s (.own (dkInt.ow (tabF m (i + 1)))))) : sIf (tBl (eInO true s (eOp oIx (eVar a) (eVar b)))) (sPutO s (eOp oIx (eVar a) (eVar b)) (eVar b)) sNext Φ ρ := by
  have hk := getAt hi
  refine ⟨_, hs, d, ha, _, hb, hd i _ _ hk ?_⟩
  refine dkInt.get _ _ _ ?_
  rw [lkD_tabF]
  by_cases c : m[i] ∈ m.take i
  · rw [if_pos c]
    rw [tabF_old hk c] at h
    have e : ρ.set s (.own (dkInt.ow (tabF m i))) = ρ := by
      apply List.ext_getElem?
      intro j
      rw [List.getElem?_set]
      split
      · rename_i e; subst e; rw [hs, if_pos (get_lt hs)]
      · rfl
    rw [e] at h
    exact h
  · rw [if_neg c]
    refine ⟨_, hs, _, hb, d, ha, _, hb, hd i _ _ hk ?_⟩
    refine dkInt.put _ _ _ _ (Nat.lt_of_le_of_lt (tabF_len m i) hz) ?_
    rw [tabF_new hk c] at h
    exact h
theorem firsts_get {P : D → Prop} {Xp : Xd} (hs : ρ[s]? = some (.own (dkInt.ow (tabF m (i + 1))))) (ha : ρ[a]? = some (.val d)) (hb : ρ[b]? = some (.val (nI i))) (hd : IxI d m) (hi : i < m.length)
    (h : P (nI (fi m i))) : eGetO s (eOp oIx (eVar a) (eVar b)) ρ P Xp := by
  have hk := getAt hi
  refine ⟨_, hs, d, ha, _, hb, hd i _ _ hk ?_⟩
  refine dkInt.get _ _ _ ?_
  rw [lkD_tabF, if_pos (by rw [take_next hk]; exact List.mem_append_right _ List.mem_cons_self)]
  refine ⟨_, rfl, ?_⟩
  have e : fi m i = m.idxOf m[i] := by unfold fi; rw [hk]
  rw [e] at h
  exact h
end
/-- a row by an injective renaming -/
theorem sameK_map {κ μ : Type} [DecidableEq κ] [DecidableEq μ] {f : κ → μ} (hf : ∀ a b, f a = f b → a = b) (l : List κ) : SameK l (l.map f) := by
  refine ⟨by simp, fun i j a b a' b' h1 h2 h3 h4 => ?_⟩
  rw [get_map h1] at h3
  rw [get_map h2] at h4
  cases h3; cases h4
  exact ⟨fun e => by rw [e], hf a b⟩
theorem sameK_iL (l : List Nat) : SameK (iL l) l := (sameK_map (fun _ _ => Int.ofNat.inj) l).symm
theorem num_iL (l : List Nat) : num (iL l) = num l := num_eq (sameK_iL l)
end Z

/-! Z: plain facts that many laws want. -/
namespace Z
open PySem PySem.Spec PyProof.Rows L2 Sg
local macro_rules | `(tactic| walk_at "zz") => `(tactic| try simp only [Z.sNext, Z.sSeq, Z.sSet, Z.sSetF, Z.sAsg, Z.sIf, Z.sRet, Z.sRetF, Z.sRetO, Z.sRetN, Z.sDrop, Z.sBrk, Z.sCont, Z.sFrz, Z.sApp, Z.sSetIx, Z.eVar, Z.eC, Z.eOp, Z.eUn, Z.eCh, Z.tBl, Z.tTr, Z.tAnd, Z.tOr, Z.tNot, Z.eAnd, Z.eOr, Z.eNot, Z.eIf, Z.aNil, Z.aCons, Z.eTup, Z.fLst, Z.eF, Z.eCB, Z.fCB, Z.eCall, Z.fCall, Z.gN, Z.gTup, Z.gsCons, Z.gsNil, Z.iSeq, Z.iRng1, Z.iRng2, Z.eIxO, Z.eLenO, Z.startD, Z.wipeD, Z.d_lst, Z.d_ins, Z.d_dk, Z.d_dt, Z.tYes, Z.isBl_bl, Z.caseB_t, Z.caseB_f, Z.truP_bl, Z.truP_int, Z.truP_non, Z.truP_lst, Z.truP_tup, Z.oI_int, Z.oC_int, Z.oNeg_int, Z.oAdd_int, Z.oAdd_str, Z.oAdd_lst, Z.oAdd_tup, Z.oEq_int, Z.oNe_int, Z.oEq_str, Z.oNe_str, Z.oEq_lst, Z.oNe_lst, Z.oEq_tup, Z.oNe_tup, Z.oIn_tup, Z.oIn_lst, Z.oIx_lst, Z.oIx_tup, Z.oIx_scr, Z.oIx_str, Z.cLen_lst, Z.cLen_tup, Z.cLen_scr, Z.cLen_str, Z.cAbs_int, Z.cInt_int, Z.cInt_bl, Z.cMax_2, Z.cMin_2, Z.cMax_l, Z.cMin_l, Z.cTup_lst, Z.cTup_tup, Z.cLst_lst, Z.cLst_tup, Z.cLst_scr, Z.cGcd_int, Z.itemsD_lst, Z.itemsD_tup, Z.itemsD_scr, Z.rng1_int, Z.rng2_int, Z.asTup_tup, Z.oEq_bl, Z.oNe_bl, Z.ixD_int, List.map_cons, List.map_nil, List.length_cons, List.length_nil, List.replicate, List.cons_append, List.nil_append, List.set_cons_zero, List.set_cons_succ, List.getElem?_cons_zero, List.getElem?_cons_succ, Option.some.injEq, Z.Sl.val.injEq, Z.Sl.own.injEq, Z.Ow.lst.injEq, Z.D.int.injEq, exists_eq_left', exists_eq_left, true_and, and_true, if_true, if_false, Bool.false_eq_true, decide_eq_true_eq, Bool.not_true, Bool.not_false, Bool.not_eq_true', decide_eq_false_iff_not, Z.eInO, Z.sPutO, Z.eGetO, Z.eLenD, Z.sFldS, Z.eFldO, Z.eAttr, Z.eMake, Z.eMakeL, Z.eCm, Z.sRaise0, Z.sRaiseI, Z.aStar, Z.fZip, Z.fRep, Z.eRoot, Z.eIxP, Z.eLenP, Z.sAppP, Z.sSetIxP, Z.eMethG, Z.eBinG, Z.eEqG, Z.eBor, Z.tBor, Z.fBor, Z.zipD_tup, Z.cMaxG_2, Z.startI, Z.sTryAs, reduceIte, reduceCtorEq, decide_true, decide_false, not_true_eq_false, not_false_eq_true, Bool.or_true, Bool.true_or, Bool.or_false, Bool.false_or, Bool.and_true, Bool.true_and, Bool.and_false, Bool.false_and, Z.lk0, Z.ex_some, Z.at0, Z.at1, Z.at2, Z.at3, Z.at4, Z.at5, Z.at6, Z.at7, Z.at8, Z.at9, Z.at10, Z.at11, Z.lenO_lst])
theorem atI_map {α β : Type} (f : α → β) (l : List α) (i : Int) : atI (l.map f) i = (atI l i).map f := by
  unfold atI
  rw [List.length_map]
  cases ixN l.length i with
  | none => rfl
  | some j => simp
theorem atI_some {α : Type} {l : List α} {i : Int} (h0 : 0 ≤ i) (h1 : i < l.length) : ∃ x, atI l i = some x ∧ l[i.toNat]? = some x := by
  have h2 : i.toNat < l.length := by omega
  refine ⟨l[i.toNat], ?_, List.getElem?_eq_getElem h2⟩
  unfold atI ixN
  rw [if_pos h0, if_pos h1]
  simp [List.getElem?_eq_getElem h2]
/-- bounds by bits -/
def B (n : Nat) (x : Int) : Prop := x.natAbs < 2 ^ n
theorem B.cmul {n m : Nat} {x y : Int} (h : B n x) (h2 : B m y) (hn : 0 < n) (hm : 0 < m) (k : n + m ≤ 1000000) : CMulW x y := wide_mul h h2 hn hm k
theorem small_mul {x y : Int} (h : B 64 x) (h2 : B 64 y) : CMulW x y := h.cmul h2 (by decide) (by decide) (by decide)
theorem b64 {x : Int} (h : -(2 ^ 63) ≤ x ∧ x < 2 ^ 63) : B 64 x := by unfold B; omega
theorem modpos {a b : Int} (h : 0 < b) : 0 ≤ a.fmod b ∧ a.fmod b < b := by
  rw [Int.fmod_eq_emod_of_nonneg _ (by omega)]
  exact ⟨Int.emod_nonneg _ (by omega), Int.emod_lt_of_pos _ h⟩
theorem divX {a b : Int} (h : 0 < b) {n : Nat} (hb : B n b) (h0 : 0 < n) (h9 : n ≤ 9000) : CDivX a b := ⟨by omega, (wide_div (i := a) h hb h0 h9).2⟩
theorem fdiv_nn {a b : Int} (h : 0 < b) (ha : 0 ≤ a) : 0 ≤ a.fdiv b ∧ a.fdiv b ≤ a := by
  rw [Int.fdiv_eq_ediv_of_nonneg _ (by omega)]
  exact ⟨Int.ediv_nonneg ha (by omega), Int.ediv_le_self _ ha⟩
def Dig (l sizes : List Int) : Prop := l.length = sizes.length ∧ ∀ (i : Nat) x s, l[i]? = some x → sizes[i]? = some s → 0 ≤ x ∧ x < s
theorem dig_cons {l ss : List Int} {s : Int} (h : Dig l (s :: ss)) : ∃ x r, l = x :: r ∧ 0 ≤ x ∧ x < s ∧ Dig r ss := by
  obtain ⟨h1, h2⟩ := h
  cases l with
  | nil => simp at h1
  | cons x r =>
    have := h2 0 x s rfl rfl
    exact ⟨x, r, rfl, this.1, this.2, by simpa using h1, fun i y t a b => h2 (i + 1) y t a b⟩
theorem dig_nil {l : List Int} (h : Dig l []) : l = [] := by
  have := h.1
  cases l with
  | nil => rfl
  | cons x r => simp at this
theorem dig_all {l : List Int} {n : Nat} {w : Int} (h : Dig l (List.replicate n w)) : l.length = n ∧ ∀ x ∈ l, 0 ≤ x ∧ x < w := by
  refine ⟨by rw [h.1]; simp, fun x hx => ?_⟩
  obtain ⟨i, hi⟩ := List.mem_iff_getElem?.mp hx
  have := get_lt hi
  have hl := h.1
  rw [List.length_replicate] at hl
  exact h.2 i x w hi (by rw [List.getElem?_replicate, if_pos (by omega)])
theorem cdiv {a b : Int} (h : 0 < b) (hb : b < 2 ^ 20) : CDivX a b := divX h (n := 20) (by unfold B; omega) (by decide) (by decide)
theorem fd {a b : Int} (h : 0 < b) (ha : 0 ≤ a) : 0 ≤ a.fdiv b ∧ a.fdiv b ≤ a := fdiv_nn h ha
theorem minI (p q : Nat) : (if ((q : Nat) : Int) < (p : Nat) then D.int (q : Nat) else D.int (p : Nat)) = nI (min p q) := by
  split
  · rw [Nat.min_eq_right (by omega)]
  · rw [Nat.min_eq_left (by omega)]
theorem cMin_nat {p q : Nat} {P : D → Prop} (h : P (nI (min p q))) : cMin [nI p, nI q] P := by
  rw [cMin_2]
  have : (if ((q : Nat) : Int) < (p : Nat) then ((q : Nat) : Int) else ((p : Nat) : Int)) = ((min p q : Nat) : Int) := by split <;> omega
  rw [this]; exact h
theorem cMax_nat {p q : Nat} {P : D → Prop} (h : P (nI (max p q))) : cMaxG [nI p, nI q] P := by
  rw [cMaxG_2]
  have : (if ((q : Nat) : Int) > (p : Nat) then ((q : Nat) : Int) else ((p : Nat) : Int)) = ((max p q : Nat) : Int) := by split <;> omega
  rw [this]; exact h
theorem getD_of {l : List Nat} {i x : Nat} (h : l[i]? = some x) : l.getD i 0 = x := by simp [List.getD, h]
theorem joinS_id {lab : List Nat} {f k : Nat} (h : ¬ low lab f k < high lab f k) : joinS lab f k = lab := by
  unfold joinS
  have : high lab f k = low lab f k := by unfold high low at *; omega
  rw [this]
  conv => rhs; rw [← List.map_id lab]
  apply List.map_congr_left
  intro x _
  show (if x = low lab f k then low lab f k else x) = x
  split
  · rename_i e; exact e.symm
  · rfl
def Row (d : D) (ns : List Int) : Prop := d = .lst (ns.map D.int) ∨ d = .tup (ns.map D.int)
theorem max_nat {r : List Nat} {Q : D → Prop} (h0 : 0 < r.length) (h : Q (nI (mx r))) : cMaxG [.lst (nL r)] Q := by
  rw [cMaxG_l]
  refine ⟨iL r, nL_ints r, by simpa using h0, fun m hm hy => ?_⟩
  obtain ⟨a, ha, rfl⟩ := List.mem_map.mp hm
  have : mx r = a := mx_eq ha fun y hy' => by
    have := hy _ (List.mem_map_of_mem hy')
    exact Int.ofNat_le.mp this
  rw [this] at h
  exact h
theorem max_natT {r : List Nat} {Q : D → Prop} (h0 : 0 < r.length) (h : Q (nI (mx r))) : cMaxG [.tup (nL r)] Q := max_nat h0 h
abbrev lL (l : List (List Nat)) : D := .lst (l.map fun g => .lst (nL g))
abbrev tL (l : List (List Nat)) : D := .tup (l.map fun g => .tup (nL g))
theorem selL_len (r : List Nat) (n g : Nat) : (selL r n g).length ≤ n := by
  unfold selL
  have := List.length_filter_le (fun i => r[i]? == some g) (List.range n)
  rw [List.length_range] at this
  exact this
theorem mx_lt {r : List Nat} {N : Nat} (h0 : 0 < N) (h : ∀ x ∈ r, x < N) : mx r < N := by
  rcases (foldl_max r 0).2.2 with e | e
  · have : mx r = 0 := e
    omega
  · exact h _ e
structure SOk (r : List Nat) : Prop where
  pos : 0 < r.length
  len : r.length < sizeLine
  lt : ∀ x ∈ r, x < sizeLine
theorem ok_num {κ : Type} [DecidableEq κ] {l : List κ} (h0 : 0 < l.length) (hz : l.length < sizeLine) : SOk (num l) :=
  ⟨by rw [num_length]; exact h0, by rw [num_length]; exact hz, fun x hx => by
    have := num_lt hx
    have := fst_length_le l
    omega⟩
theorem row_nL (r : List Nat) : Row (.lst (nL r)) (iL r) := .inl (by rw [nL_ints])
theorem row_nT (r : List Nat) : Row (.tup (nL r)) (iL r) := .inr (by rw [nL_ints])
theorem pair_map (r s : List Nat) : ((nL r).zip (nL s)).map Z.pairD = ((iL r).zip (iL s)).map dkPair.key := by
  rw [List.zip_map, List.zip_map, List.map_map, List.map_map]
  rfl
theorem zip_iL (r s : List Nat) : num ((iL r).zip (iL s)) = num (r.zip s) := num_eq (same_zip (sameK_iL r) (sameK_iL s))
theorem com_iL (r s : List Nat) : comL (iL r) (iL s) = comL r s := com_same (sameK_iL r) (sameK_iL s)
section
variable {P : D → Prop} {Xp : Xd} {PL : List D → Prop}
theorem root6 {v0 v1 v3 v4 v5 v7 : Sl} {L lab : List Nat} {k : Nat} {Φ : Ed} (u : UF L lab) (hk : k < lab.length) (h : ∀ L', UF L' lab → Φ.nx [v0, v1, .own (.lst (nL L')), v3, v4, v5, (.val (nI (lab.getD k 0))), v7]) :
    sWhile (tBl (eOp oNe (eIxO 2 (eVar 6)) (eVar 6))) (sSeq (sSetIx 2 (eVar 6) (eIxO 2 (eIxO 2 (eVar 6)))) (sSet (eIxO 2 (eVar 6)) 6)) Φ [v0, v1, .own (.lst (nL L)), v3, v4, v5, (.val (nI k)), v7] := by
  refine while_of (fun n ρ' => ∃ L' , UF L' lab ∧ n < lab.length ∧ lab.getD n 0 = lab.getD k 0 ∧ ρ' = [v0, v1, .own (.lst (nL L')), v3, v4, v5, (.val (nI n)), v7]) k ⟨L, u, hk, rfl, rfl⟩ ?_
  rintro n ρ' ⟨L', u', hn, e, rfl⟩
  have hlen := u'.len
  have e1 := getAt (l := L') (i := n) (by omega)
  have d1 := getD_of e1
  have l1 := u'.le n hn
  walk_at "zz"
  rw [atN, get_map e1]
  walk_at "zz"
  by_cases c : L'[n] = n
  · rw [if_neg (by omega)]
    have hr := u'.rt n hn (by rw [d1]; exact c)
    rw [e] at hr
    have q := h L' u'
    rw [hr] at q
    exact q
  · rw [if_pos (by omega)]
    have e2 := getAt (l := L') (i := L'[n]) (by omega)
    have d2 := getD_of e2
    rw [atN, get_map e2]
    walk_at "zz"
    have u2 := u'.half hn (by rw [d1]; exact c)
    rw [d1, d2] at u2
    refine ⟨_, _, rfl, ixN_nat (by rw [List.length_map]; omega), ?_⟩
    have l2 := u'.le L'[n] (by omega)
    rw [d2] at l2
    refine ⟨nI L'[L'[n]], ?_, L'[L'[n]], ?_, _, u2, ?_, ?_, ?_⟩
    · rw [atN, List.getElem?_set]; simp; omega
    · show L'[L'[n]] < n
      rw [d1] at l1; omega
    · omega
    · rw [← e]
      have h1 := u'.up n hn
      have h2 := u'.up L'[n] (by omega)
      rw [d1] at h1
      rw [d2] at h2
      rw [h2, h1]
    · rw [nL_set]
theorem root7 {v0 v1 v3 v4 v5 v6 : Sl} {L lab : List Nat} {k : Nat} {Φ : Ed} (u : UF L lab) (hk : k < lab.length) (h : ∀ L', UF L' lab → Φ.nx [v0, v1, .own (.lst (nL L')), v3, v4, v5, v6, (.val (nI (lab.getD k 0)))]) :
    sWhile (tBl (eOp oNe (eIxO 2 (eVar 7)) (eVar 7))) (sSeq (sSetIx 2 (eVar 7) (eIxO 2 (eIxO 2 (eVar 7)))) (sSet (eIxO 2 (eVar 7)) 7)) Φ [v0, v1, .own (.lst (nL L)), v3, v4, v5, v6, (.val (nI k))] := by
  refine while_of (fun n ρ' => ∃ L' , UF L' lab ∧ n < lab.length ∧ lab.getD n 0 = lab.getD k 0 ∧ ρ' = [v0, v1, .own (.lst (nL L')), v3, v4, v5, v6, (.val (nI n))]) k ⟨L, u, hk, rfl, rfl⟩ ?_
  rintro n ρ' ⟨L', u', hn, e, rfl⟩
  have hlen := u'.len
  have e1 := getAt (l := L') (i := n) (by omega)
  have d1 := getD_of e1
  have l1 := u'.le n hn
  walk_at "zz"
  rw [atN, get_map e1]
  walk_at "zz"
  by_cases c : L'[n] = n
  · rw [if_neg (by omega)]
    have hr := u'.rt n hn (by rw [d1]; exact c)
    rw [e] at hr
    have q := h L' u'
    rw [hr] at q
    exact q
  · rw [if_pos (by omega)]
    have e2 := getAt (l := L') (i := L'[n]) (by omega)
    have d2 := getD_of e2
    rw [atN, get_map e2]
    walk_at "zz"
    have u2 := u'.half hn (by rw [d1]; exact c)
    rw [d1, d2] at u2
    refine ⟨_, _, rfl, ixN_nat (by rw [List.length_map]; omega), ?_⟩
    have l2 := u'.le L'[n] (by omega)
    rw [d2] at l2
    refine ⟨nI L'[L'[n]], ?_, L'[L'[n]], ?_, _, u2, ?_, ?_, ?_⟩
    · rw [atN, List.getElem?_set]; simp; omega
    · show L'[L'[n]] < n
      rw [d1] at l1; omega
    · omega
    · rw [← e]
      have h1 := u'.up n hn
      have h2 := u'.up L'[n] (by omega)
      rw [d1] at h1
      rw [d2] at h2
      rw [h2, h1]
    · rw [nL_set]
end
theorem Row.l (ns : List Int) : Row (.lst (ns.map D.int)) ns := .inl rfl
theorem Row.t (ns : List Int) : Row (.tup (ns.map D.int)) ns := .inr rfl
theorem getD_eq {l : List Nat} {i j : Nat} (hi : i < l.length) (hj : j < l.length) : l[i]? = l[j]? ↔ l.getD i 0 = l.getD j 0 := by
  simp [List.getD, getAt hi, getAt hj]
theorem abs_and {r s : List Nat} (hl : r.length = s.length) : num (r.zip (num (comL r s))) = num r := by
  rw [num_eq (same_zip (SameK.refl r) (num_same (comL r s)).symm)]
  refine zip_coarse (comL_length r s).symm fun i j hi hj h => ?_
  have hc := comL_length r s
  rw [getD_eq (by omega) (by omega)]
  exact comL_a hl hi hj h
theorem abs_or {r s : List Nat} (hl : r.length = s.length) : num (comL r (num (r.zip s))) = num r := by
  rw [com_same (SameK.refl r) (num_same (r.zip s)).symm]
  refine com_fine (by simp [hl]) fun i j hi hj h => ?_
  simp at hi hj
  have e1 := List.getElem?_zip_eq_some (l₁ := r) (l₂ := s) (i := i) (z := (r[i], s[i]))
  have e2 := List.getElem?_zip_eq_some (l₁ := r) (l₂ := s) (i := j) (z := (r[j], s[j]))
  rw [e1.mpr ⟨getAt (by omega), getAt (by omega)⟩, e2.mpr ⟨getAt (by omega), getAt (by omega)⟩] at h
  rw [getAt (by omega), getAt (by omega)]
  have := Prod.ext_iff.mp (Option.some.inj h)
  exact congrArg _ this.1
theorem self_and (s : List Nat) : num (s.zip s) = num s := zip_coarse rfl fun i j _ _ h => h
theorem self_or (s : List Nat) : num (comL s s) = num s := com_fine rfl fun i j _ _ h => h
theorem swap_and (r s : List Nat) : num (s.zip r) = num (r.zip s) := num_eq (zip_comm s r)
theorem num_map {f : Int → Int} (hf : ∀ a b, f a = f b → a = b) (l : List Int) : num (l.map f) = num l := num_eq (sameK_map hf l).symm
theorem zip_rng {r s : List Nat} (hl : r.length = s.length) : (List.range r.length).map (fun k => D.tup [nI (r.getD k 0), nI (s.getD k 0)]) = ((iL r).zip (iL s)).map dkPair.key := by
  apply List.ext_getElem?
  intro k
  rw [List.getElem?_map, List.getElem?_map]
  by_cases c : k < r.length
  · rw [List.getElem?_range c, List.getElem?_zip_eq_some.mpr ⟨(by rw [List.getElem?_map, getAt c]; rfl : (iL r)[k]? = some (Int.ofNat r[k], Int.ofNat (s[k]'(by omega))).1), (by rw [List.getElem?_map, getAt (by omega)]; rfl)⟩]
    show some (D.tup [nI (r.getD k 0), nI (s.getD k 0)]) = some (D.tup [nI r[k], nI (s[k]'(by omega))])
    rw [getD_of (getAt c), getD_of (getAt (show k < s.length by omega))]
  · rw [List.getElem?_eq_none (by simpa using c), List.getElem?_eq_none (by simp; omega)]; rfl
theorem okl (l : List Nat) : okD (.lst (nL l)) := okT.ok (okT_lst (n := 0) (okT_nats l)) (by decide)
theorem fst_const (n : Nat) : fst (List.replicate (n + 1) (0 : Int)) = [0] := by
  induction n with
  | zero => rfl
  | succ n ih => rw [List.replicate_succ', fst_snoc, ih]; rfl
theorem num_const (n : Nat) : num (List.replicate n (0 : Int)) = List.replicate n 0 := by
  cases n with
  | zero => rfl
  | succ n => unfold num; rw [fst_const, List.map_replicate]; rfl
theorem fst_range (n : Nat) : fst (List.range n) = List.range n := by
  induction n with
  | zero => rfl
  | succ n ih => rw [List.range_succ, fst_snoc, ih, addF, if_neg (by simp)]
theorem num_range (n : Nat) : num (List.range n) = List.range n := by
  unfold num
  rw [fst_range]
  conv => rhs; rw [← List.map_id (List.range n)]
  apply List.map_congr_left
  intro i hi
  have h := List.idxOf_lt_length_of_mem hi
  have e := List.getElem_idxOf h
  rw [List.getElem_range] at e
  exact e
abbrev rowD (l : List Int) : D := .lst (l.map D.int)
def optD : Option (Nat × Nat) → D
  | none => .non
  | some (d, o) => .tup [nI d, nI o]
theorem cast_eq_dec (a b : Nat) : decide (((a : Nat) : Int) = (b : Nat)) = decide (a = b) := by
  by_cases c : a = b
  · rw [decide_eq_true c, decide_eq_true (by rw [c])]
  · rw [decide_eq_false c, decide_eq_false (by omega)]
theorem itemsT (l : List (List Nat)) (P : List D → Prop) (h : P (l.map fun g => D.tup (nL g))) : itemsD (tL l) P := h
/-- two clauses -/
theorem lc2_of {α β : Type} {ti ti1 : TAd} {tg tg1 : TGd} {te : TEd} {vs vs1 : List Nat} {ρ : En} {P : List D → Prop} {Xp : Xd} (la : List α) (ga : α → D) (lb : List β) (gb : β → D) (f : α → β → D) (ρ2 : α → En)
    (hz : la.length * lb.length ≤ sizeLine) (hi : ∀ (P : List D → Prop) Xp, P (la.map ga) → ti ρ P Xp)
    (h1 : ∀ (i : Nat) a, la[i]? = some a → ∀ A : En → Prop, A (ρ2 a) → tg (ga a) (wipeD ρ vs) A)
    (h2 : ∀ (i : Nat) a, la[i]? = some a → ∀ (P : List D → Prop), P (lb.map gb) → ti1 (ρ2 a) P NoX)
    (h3 : ∀ (i j : Nat) a b, la[i]? = some a → lb[j]? = some b → ∀ A : D → Prop, A (f a b) → tg1 (gb b) (wipeD (ρ2 a) vs1) fun ρ3 => te ρ3 A NoX)
    (hP : P (la.flatMap fun a => lb.map (f a))) : fLc2 ti tg tYes ti1 tg1 tYes te vs vs1 ρ P Xp := by
  have len : ∀ l : List α, (l.flatMap fun a => lb.map (f a)).length = l.length * lb.length := fun l => by
    induction l with
    | nil => simp
    | cons x l ih => rw [List.flatMap_cons, List.length_append, List.length_map, ih, List.length_cons, Nat.succ_mul, Nat.add_comm]
  refine hi _ _ ⟨fun i acc => acc = (la.take i).flatMap fun a => lb.map (f a), by simp, fun i x acc hx e => ?_, fun acc e => ?_⟩
  · obtain ⟨a, ha, rfl⟩ := map_get hx
    have hlt := get_lt ha
    have e : acc = (la.take i).flatMap fun a => lb.map (f a) := e
    refine h1 i a ha _ ?_
    show ti1 (ρ2 a) _ NoX
    refine h2 i a ha _ ⟨fun j acc => acc = ((la.take i).flatMap fun a => lb.map (f a)) ++ (lb.take j).map (f a), by rw [e]; simp, fun j y acc1 hy e1 => ?_, fun acc1 e1 => ?_⟩
    · obtain ⟨b, hb, rfl⟩ := map_get hy
      have hlt2 := get_lt hb
      have e1 : acc1 = ((la.take i).flatMap fun a => lb.map (f a)) ++ (lb.take j).map (f a) := e1
      refine h3 i j a b ha hb (fun z => acc1.length < sizeLine ∧ acc1 ++ [z] = ((la.take i).flatMap fun a => lb.map (f a)) ++ (lb.take (j + 1)).map (f a)) ⟨?_, ?_⟩
      · rw [e1, List.length_append, len, List.length_map, List.length_take, List.length_take]
        have : (i + 1) * lb.length ≤ la.length * lb.length := Nat.mul_le_mul_right _ hlt
        rw [Nat.succ_mul] at this
        rw [show min i la.length = i by omega, show min j lb.length = j by omega]
        omega
      · rw [e1, take_next hb, List.map_append, List.append_assoc]; rfl
    · have e1 : acc1 = ((la.take i).flatMap fun a => lb.map (f a)) ++ (lb.take (lb.map gb).length).map (f a) := e1
      rw [List.length_map, List.take_length] at e1
      show acc1 = (la.take (i + 1)).flatMap fun a => lb.map (f a)
      rw [e1, take_next ha, List.flatMap_append]
      simp
  · have e : acc = (la.take (la.map ga).length).flatMap fun a => lb.map (f a) := e
    rw [List.length_map, List.take_length] at e
    rw [e]; exact hP
end Z

/-! The walk of law k01: printed by gen2.py. -/
namespace K01
open PySem PySem.Spec PyProof.Rows L2 Z
def topS (i : Nat) : Stmt := PySem.Challenge.pw_manysights_k01_tells_restricted_crossed.main.body.getD i (.Pass ⟨0, 0, 0, 0⟩)
abbrev st__law_digits : Stmt := topS 21
abbrev st__law_cell : Stmt := topS 20
abbrev st__law_draw_x : Stmt := topS 32
abbrev st__law_marks : Stmt := topS 28
abbrev st_frozen : Stmt := topS 10
abbrev st_numbered : Stmt := topS 12
abbrev st_Sight___init__ : Stmt := inClass (topS 14) 0
abbrev st__law_deals : Stmt := topS 33
abbrev st_crossed : Stmt := topS 17
abbrev st__law_groups : Stmt := topS 29
abbrev st_Sight_cells : Stmt := inClass (topS 14) 3
abbrev st__law_whole : Stmt := topS 19
abbrev st__law_numbers : Stmt := topS 30
abbrev st__law_agrees : Stmt := topS 31
abbrev st_restricted : Stmt := topS 16
abbrev st__law_partb : Stmt := topS 34
abbrev st__law_draw : Stmt := topS 22
abbrev st__law_pair : Stmt := topS 23
abbrev st_SizesDiffer___init__ : Stmt := inClass (topS 4) 0
abbrev st_joined : Stmt := topS 13
abbrev st_Sight___or__ : Stmt := inClass (topS 14) 7
abbrev st_Sight_nothing : Stmt := inClass (topS 14) 1
abbrev st_Sight___and__ : Stmt := inClass (topS 14) 6
abbrev st_Sight_everything : Stmt := inClass (topS 14) 2
abbrev st_Sight_alike : Stmt := inClass (topS 14) 5
abbrev st_unlike_pair : Stmt := topS 8
abbrev st_tells : Stmt := topS 7
abbrev st__law_asks : Stmt := topS 24
abbrev st_Sight___eq__ : Stmt := inClass (topS 14) 8
abbrev st__law_error : Stmt := topS 26
abbrev st__law_differs : Stmt := topS 25
abbrev st__law_parta : Stmt := topS 27
abbrev st_law : Stmt := topS 35
/-- what the top has written -/
structure Txt (K : PySem.W.Frag) (mg : Str → Option Value) where
  c_DealError : Addr
  g_DealError : mg "DealError" = some (.ref c_DealError)
  c_NoDeals : Addr
  g_NoDeals : mg "NoDeals" = some (.ref c_NoDeals)
  c_SizesDiffer : Addr
  g_SizesDiffer : mg "SizesDiffer" = some (.ref c_SizesDiffer)
  c_BadLength : Addr
  g_BadLength : mg "BadLength" = some (.ref c_BadLength)
  c_Sight : Addr
  g_Sight : mg "Sight" = some (.ref c_Sight)
  ck_BadLength : ClsK K c_BadLength
  ck_DealError : ClsK K c_DealError
  ck_NoDeals : ClsK K c_NoDeals
  ck_Sight : ClsK K c_Sight
  ck_SizesDiffer : ClsK K c_SizesDiffer
  cl_Sight : L2.Cls K c_Sight
  ci_Sight : ClsTy K c_Sight
  ce_DealError : ExcC K c_DealError
  ce_NoDeals : ExcC K c_NoDeals
  ce_SizesDiffer : ExcC K c_SizesDiffer
  a__law_digits : Addr
  d__law_digits : FuncData
  F__law_digits : Fun K "_law_digits" "_law_digits" st__law_digits a__law_digits d__law_digits
  b__law_digits : Binds K d__law_digits ["_law_cell_here", "_law_sizes"] []
  g__law_digits : mg "_law_digits" = some (.ref a__law_digits)
  a__law_cell : Addr
  d__law_cell : FuncData
  F__law_cell : Fun K "_law_cell" "_law_cell" st__law_cell a__law_cell d__law_cell
  b__law_cell : Binds K d__law_cell ["_law_script", "_law_k"] []
  g__law_cell : mg "_law_cell" = some (.ref a__law_cell)
  a__law_draw_x : Addr
  d__law_draw_x : FuncData
  F__law_draw_x : Fun K "_law_draw_x" "_law_draw_x" st__law_draw_x a__law_draw_x d__law_draw_x
  b__law_draw_x : Binds K d__law_draw_x ["_law_script"] []
  g__law_draw_x : mg "_law_draw_x" = some (.ref a__law_draw_x)
  a__law_marks : Addr
  d__law_marks : FuncData
  F__law_marks : Fun K "_law_marks" "_law_marks" st__law_marks a__law_marks d__law_marks
  b__law_marks : Binds K d__law_marks ["_law_marks_here"] []
  g__law_marks : mg "_law_marks" = some (.ref a__law_marks)
  a_frozen : Addr
  d_frozen : FuncData
  F_frozen : Fun K "frozen" "frozen" st_frozen a_frozen d_frozen
  b_frozen : Binds K d_frozen ["value"] []
  g_frozen : mg "frozen" = some (.ref a_frozen)
  a_numbered : Addr
  d_numbered : FuncData
  F_numbered : Fun K "numbered" "numbered" st_numbered a_numbered d_numbered
  b_numbered : Binds K d_numbered ["marks"] []
  g_numbered : mg "numbered" = some (.ref a_numbered)
  a_Sight___init__ : Addr
  d_Sight___init__ : FuncData
  F_Sight___init__ : Fun K "__init__" "Sight.__init__" st_Sight___init__ a_Sight___init__ d_Sight___init__
  b_Sight___init__ : Binds K d_Sight___init__ ["self", "marks"] []
  a__law_deals : Addr
  d__law_deals : FuncData
  F__law_deals : Fun K "_law_deals" "_law_deals" st__law_deals a__law_deals d__law_deals
  b__law_deals : Binds K d__law_deals ["_law_script", "_law_size"] []
  g__law_deals : mg "_law_deals" = some (.ref a__law_deals)
  a_crossed : Addr
  d_crossed : FuncData
  F_crossed : Fun K "crossed" "crossed" st_crossed a_crossed d_crossed
  b_crossed : Binds K d_crossed ["one", "two"] []
  g_crossed : mg "crossed" = some (.ref a_crossed)
  a__law_groups : Addr
  d__law_groups : FuncData
  F__law_groups : Fun K "_law_groups" "_law_groups" st__law_groups a__law_groups d__law_groups
  b__law_groups : Binds K d__law_groups ["_law_row"] []
  g__law_groups : mg "_law_groups" = some (.ref a__law_groups)
  a_Sight_cells : Addr
  d_Sight_cells : FuncData
  F_Sight_cells : Fun K "cells" "Sight.cells" st_Sight_cells a_Sight_cells d_Sight_cells
  b_Sight_cells : Binds K d_Sight_cells ["self"] []
  q_Sight_cells : Addr
  pr_Sight_cells : PropOf K c_Sight "cells" q_Sight_cells a_Sight_cells
  a__law_whole : Addr
  d__law_whole : FuncData
  F__law_whole : Fun K "_law_whole" "_law_whole" st__law_whole a__law_whole d__law_whole
  b__law_whole : Binds K d__law_whole ["_law_value"] []
  g__law_whole : mg "_law_whole" = some (.ref a__law_whole)
  a__law_numbers : Addr
  d__law_numbers : FuncData
  F__law_numbers : Fun K "_law_numbers" "_law_numbers" st__law_numbers a__law_numbers d__law_numbers
  b__law_numbers : Binds K d__law_numbers ["_law_actual", "_law_due"] []
  g__law_numbers : mg "_law_numbers" = some (.ref a__law_numbers)
  a__law_agrees : Addr
  d__law_agrees : FuncData
  F__law_agrees : Fun K "_law_agrees" "_law_agrees" st__law_agrees a__law_agrees d__law_agrees
  b__law_agrees : Binds K d__law_agrees ["_law_actual", "_law_row"] []
  g__law_agrees : mg "_law_agrees" = some (.ref a__law_agrees)
  a_restricted : Addr
  d_restricted : FuncData
  F_restricted : Fun K "restricted" "restricted" st_restricted a_restricted d_restricted
  b_restricted : Binds K d_restricted ["sight", "deals"] []
  g_restricted : mg "restricted" = some (.ref a_restricted)
  a__law_partb : Addr
  d__law_partb : FuncData
  F__law_partb : Fun K "_law_partb" "_law_partb" st__law_partb a__law_partb d__law_partb
  b__law_partb : Binds K d__law_partb ["_law_script"] []
  g__law_partb : mg "_law_partb" = some (.ref a__law_partb)
  a__law_draw : Addr
  d__law_draw : FuncData
  F__law_draw : Fun K "_law_draw" "_law_draw" st__law_draw a__law_draw d__law_draw
  b__law_draw : Binds K d__law_draw ["_law_script"] []
  g__law_draw : mg "_law_draw" = some (.ref a__law_draw)
  a__law_pair : Addr
  d__law_pair : FuncData
  F__law_pair : Fun K "_law_pair" "_law_pair" st__law_pair a__law_pair d__law_pair
  b__law_pair : Binds K d__law_pair ["_law_first", "_law_second"] []
  g__law_pair : mg "_law_pair" = some (.ref a__law_pair)
  a_SizesDiffer___init__ : Addr
  d_SizesDiffer___init__ : FuncData
  F_SizesDiffer___init__ : Fun K "__init__" "SizesDiffer.__init__" st_SizesDiffer___init__ a_SizesDiffer___init__ d_SizesDiffer___init__
  b_SizesDiffer___init__ : Binds K d_SizesDiffer___init__ ["self", "one", "two"] []
  a_joined : Addr
  d_joined : FuncData
  F_joined : Fun K "joined" "joined" st_joined a_joined d_joined
  b_joined : Binds K d_joined ["one", "two"] []
  g_joined : mg "joined" = some (.ref a_joined)
  a_Sight___or__ : Addr
  d_Sight___or__ : FuncData
  F_Sight___or__ : Fun K "__or__" "Sight.__or__" st_Sight___or__ a_Sight___or__ d_Sight___or__
  b_Sight___or__ : Binds K d_Sight___or__ ["self", "other"] []
  me_Sight___or__ : Meth K c_Sight "__or__" a_Sight___or__
  a_Sight_nothing : Addr
  d_Sight_nothing : FuncData
  F_Sight_nothing : Fun K "nothing" "Sight.nothing" st_Sight_nothing a_Sight_nothing d_Sight_nothing
  b_Sight_nothing : Binds K d_Sight_nothing ["cls", "size"] []
  q_Sight_nothing : Addr
  cm_Sight_nothing : ClX.CMet K c_Sight (.type "type") "nothing" q_Sight_nothing a_Sight_nothing
  a_Sight___and__ : Addr
  d_Sight___and__ : FuncData
  F_Sight___and__ : Fun K "__and__" "Sight.__and__" st_Sight___and__ a_Sight___and__ d_Sight___and__
  b_Sight___and__ : Binds K d_Sight___and__ ["self", "other"] []
  me_Sight___and__ : Meth K c_Sight "__and__" a_Sight___and__
  a_Sight_everything : Addr
  d_Sight_everything : FuncData
  F_Sight_everything : Fun K "everything" "Sight.everything" st_Sight_everything a_Sight_everything d_Sight_everything
  b_Sight_everything : Binds K d_Sight_everything ["cls", "size"] []
  q_Sight_everything : Addr
  cm_Sight_everything : ClX.CMet K c_Sight (.type "type") "everything" q_Sight_everything a_Sight_everything
  a_Sight_alike : Addr
  d_Sight_alike : FuncData
  F_Sight_alike : Fun K "alike" "Sight.alike" st_Sight_alike a_Sight_alike d_Sight_alike
  b_Sight_alike : Binds K d_Sight_alike ["self", "one", "two"] []
  me_Sight_alike : Meth K c_Sight "alike" a_Sight_alike
  a_unlike_pair : Addr
  d_unlike_pair : FuncData
  F_unlike_pair : Fun K "unlike_pair" "unlike_pair" st_unlike_pair a_unlike_pair d_unlike_pair
  b_unlike_pair : Binds K d_unlike_pair ["one", "two"] []
  g_unlike_pair : mg "unlike_pair" = some (.ref a_unlike_pair)
  a_tells : Addr
  d_tells : FuncData
  F_tells : Fun K "tells" "tells" st_tells a_tells d_tells
  b_tells : Binds K d_tells ["one", "two"] []
  g_tells : mg "tells" = some (.ref a_tells)
  a__law_asks : Addr
  d__law_asks : FuncData
  F__law_asks : Fun K "_law_asks" "_law_asks" st__law_asks a__law_asks d__law_asks
  b__law_asks : Binds K d__law_asks ["_law_one", "_law_two", "_law_due"] []
  g__law_asks : mg "_law_asks" = some (.ref a__law_asks)
  a_Sight___eq__ : Addr
  d_Sight___eq__ : FuncData
  F_Sight___eq__ : Fun K "__eq__" "Sight.__eq__" st_Sight___eq__ a_Sight___eq__ d_Sight___eq__
  b_Sight___eq__ : Binds K d_Sight___eq__ ["self", "other"] []
  me_Sight___eq__ : Meth K c_Sight "__eq__" a_Sight___eq__
  a__law_error : Addr
  d__law_error : FuncData
  F__law_error : Fun K "_law_error" "_law_error" st__law_error a__law_error d__law_error
  b__law_error : Binds K d__law_error ["_law_error_here", "_law_size", "_law_other"] []
  g__law_error : mg "_law_error" = some (.ref a__law_error)
  a__law_differs : Addr
  d__law_differs : FuncData
  F__law_differs : Fun K "_law_differs" "_law_differs" st__law_differs a__law_differs d__law_differs
  b__law_differs : Binds K d__law_differs ["_law_one", "_law_other", "_law_left", "_law_right"] []
  g__law_differs : mg "_law_differs" = some (.ref a__law_differs)
  a__law_parta : Addr
  d__law_parta : FuncData
  F__law_parta : Fun K "_law_parta" "_law_parta" st__law_parta a__law_parta d__law_parta
  b__law_parta : Binds K d__law_parta ["_law_script"] []
  g__law_parta : mg "_law_parta" = some (.ref a__law_parta)
  a_law : Addr
  d_law : FuncData
  F_law : Fun K "law" "law" st_law a_law d_law
  b_law : Binds K d_law ["_law_script"] []
  g_law : mg "law" = some (.ref a_law)
  cr_Sight : ClX.CRead K c_Sight (.type "type")
  sf_Sight : PySem.W.selfFirst K c_Sight = true
  x0_NoDeals : Exc0 K c_NoDeals
  xi_SizesDiffer : OexC K c_SizesDiffer
  xn_SizesDiffer : PySem.W.findIn K (.ref c_SizesDiffer) "__init__" = some (some (.ref a_SizesDiffer___init__))
  xt_SizesDiffer : PySem.W.typeIn K (.ref a_SizesDiffer___init__) = some (.type "function")
  xf_SizesDiffer : ∀ f ∈ (["one", "two"] : List Str), PySem.W.findIn K (.ref c_SizesDiffer) f = some none
  mk_Sight : Mk K c_Sight a_Sight___init__
  na_Sight_marks : NoAttr K c_Sight "marks"
  na_Sight_size : NoAttr K c_Sight "size"
  ne_SizesDiffer_one : PySem.W.findIn K (.ref c_SizesDiffer) "one" = some none
  ne_SizesDiffer_two : PySem.W.findIn K (.ref c_SizesDiffer) "two" = some none
  z_ValueError : mg "ValueError" = none
  z_bool : mg "bool" = none
  z_int : mg "int" = none
  z_isinstance : mg "isinstance" = none
  z_len : mg "len" = none
  z_list : mg "list" = none
  z_max : mg "max" = none
  z_min : mg "min" = none
  z_range : mg "range" = none
  z_tuple : mg "tuple" = none
  z_zip : mg "zip" = none
  sb_NoneType_Sight : PySem.W.subIn K (.type "NoneType") (.ref c_Sight) = some false
  sb_NoneType_SizesDiffer : PySem.W.subIn K (.type "NoneType") (.ref c_SizesDiffer) = some false
  sb_NoneType_NoDeals : PySem.W.subIn K (.type "NoneType") (.ref c_NoDeals) = some false
  sb_NoneType_BadLength : PySem.W.subIn K (.type "NoneType") (.ref c_BadLength) = some false
  sb_bool_Sight : PySem.W.subIn K (.type "bool") (.ref c_Sight) = some false
  sb_bool_SizesDiffer : PySem.W.subIn K (.type "bool") (.ref c_SizesDiffer) = some false
  sb_bool_NoDeals : PySem.W.subIn K (.type "bool") (.ref c_NoDeals) = some false
  sb_bool_BadLength : PySem.W.subIn K (.type "bool") (.ref c_BadLength) = some false
  sb_int_Sight : PySem.W.subIn K (.type "int") (.ref c_Sight) = some false
  sb_int_SizesDiffer : PySem.W.subIn K (.type "int") (.ref c_SizesDiffer) = some false
  sb_int_NoDeals : PySem.W.subIn K (.type "int") (.ref c_NoDeals) = some false
  sb_int_BadLength : PySem.W.subIn K (.type "int") (.ref c_BadLength) = some false
  sb_str_Sight : PySem.W.subIn K (.type "str") (.ref c_Sight) = some false
  sb_str_SizesDiffer : PySem.W.subIn K (.type "str") (.ref c_SizesDiffer) = some false
  sb_str_NoDeals : PySem.W.subIn K (.type "str") (.ref c_NoDeals) = some false
  sb_str_BadLength : PySem.W.subIn K (.type "str") (.ref c_BadLength) = some false
  sb_list_Sight : PySem.W.subIn K (.type "list") (.ref c_Sight) = some false
  sb_list_SizesDiffer : PySem.W.subIn K (.type "list") (.ref c_SizesDiffer) = some false
  sb_list_NoDeals : PySem.W.subIn K (.type "list") (.ref c_NoDeals) = some false
  sb_list_BadLength : PySem.W.subIn K (.type "list") (.ref c_BadLength) = some false
  sb_tuple_Sight : PySem.W.subIn K (.type "tuple") (.ref c_Sight) = some false
  sb_tuple_SizesDiffer : PySem.W.subIn K (.type "tuple") (.ref c_SizesDiffer) = some false
  sb_tuple_NoDeals : PySem.W.subIn K (.type "tuple") (.ref c_NoDeals) = some false
  sb_tuple_BadLength : PySem.W.subIn K (.type "tuple") (.ref c_BadLength) = some false
  sb_Sight_SizesDiffer : PySem.W.subIn K (.ref c_Sight) (.ref c_SizesDiffer) = some false
  sb_Sight_NoDeals : PySem.W.subIn K (.ref c_Sight) (.ref c_NoDeals) = some false
  sb_Sight_BadLength : PySem.W.subIn K (.ref c_Sight) (.ref c_BadLength) = some false
  sb_Sight_list : PySem.W.subIn K (.ref c_Sight) (.type "list") = some false
  sb_Sight_tuple : PySem.W.subIn K (.ref c_Sight) (.type "tuple") = some false
  sb_Sight_int : PySem.W.subIn K (.ref c_Sight) (.type "int") = some false
  sb_Sight_bool : PySem.W.subIn K (.ref c_Sight) (.type "bool") = some false
  sb_Sight_ValueError : PySem.W.subIn K (.ref c_Sight) (.type "ValueError") = some false
  sb_NoDeals_SizesDiffer : PySem.W.subIn K (.ref c_NoDeals) (.ref c_SizesDiffer) = some false
  sb_NoDeals_BadLength : PySem.W.subIn K (.ref c_NoDeals) (.ref c_BadLength) = some false
  sb_NoDeals_Sight : PySem.W.subIn K (.ref c_NoDeals) (.ref c_Sight) = some false
  sb_NoDeals_list : PySem.W.subIn K (.ref c_NoDeals) (.type "list") = some false
  sb_NoDeals_tuple : PySem.W.subIn K (.ref c_NoDeals) (.type "tuple") = some false
  sb_NoDeals_int : PySem.W.subIn K (.ref c_NoDeals) (.type "int") = some false
  sb_NoDeals_bool : PySem.W.subIn K (.ref c_NoDeals) (.type "bool") = some false
  sb_NoDeals_ValueError : PySem.W.subIn K (.ref c_NoDeals) (.type "ValueError") = some true
  sb_SizesDiffer_NoDeals : PySem.W.subIn K (.ref c_SizesDiffer) (.ref c_NoDeals) = some false
  sb_SizesDiffer_BadLength : PySem.W.subIn K (.ref c_SizesDiffer) (.ref c_BadLength) = some false
  sb_SizesDiffer_Sight : PySem.W.subIn K (.ref c_SizesDiffer) (.ref c_Sight) = some false
  sb_SizesDiffer_list : PySem.W.subIn K (.ref c_SizesDiffer) (.type "list") = some false
  sb_SizesDiffer_tuple : PySem.W.subIn K (.ref c_SizesDiffer) (.type "tuple") = some false
  sb_SizesDiffer_int : PySem.W.subIn K (.ref c_SizesDiffer) (.type "int") = some false
  sb_SizesDiffer_bool : PySem.W.subIn K (.ref c_SizesDiffer) (.type "bool") = some false
  sb_SizesDiffer_ValueError : PySem.W.subIn K (.ref c_SizesDiffer) (.type "ValueError") = some true
  sb_NoDeals_DealError : PySem.W.subIn K (.ref c_NoDeals) (.ref c_DealError) = some true
  sb_SizesDiffer_DealError : PySem.W.subIn K (.ref c_SizesDiffer) (.ref c_DealError) = some true
def tabL : TabL := [((.b "NoneType", .c "Sight"), false),
  ((.b "NoneType", .c "SizesDiffer"), false),
  ((.b "NoneType", .c "NoDeals"), false),
  ((.b "NoneType", .c "BadLength"), false),
  ((.b "bool", .c "Sight"), false),
  ((.b "bool", .c "SizesDiffer"), false),
  ((.b "bool", .c "NoDeals"), false),
  ((.b "bool", .c "BadLength"), false),
  ((.b "int", .c "Sight"), false),
  ((.b "int", .c "SizesDiffer"), false),
  ((.b "int", .c "NoDeals"), false),
  ((.b "int", .c "BadLength"), false),
  ((.b "str", .c "Sight"), false),
  ((.b "str", .c "SizesDiffer"), false),
  ((.b "str", .c "NoDeals"), false),
  ((.b "str", .c "BadLength"), false),
  ((.b "list", .c "Sight"), false),
  ((.b "list", .c "SizesDiffer"), false),
  ((.b "list", .c "NoDeals"), false),
  ((.b "list", .c "BadLength"), false),
  ((.b "tuple", .c "Sight"), false),
  ((.b "tuple", .c "SizesDiffer"), false),
  ((.b "tuple", .c "NoDeals"), false),
  ((.b "tuple", .c "BadLength"), false),
  ((.c "Sight", .c "Sight"), true),
  ((.c "Sight", .c "SizesDiffer"), false),
  ((.c "Sight", .c "NoDeals"), false),
  ((.c "Sight", .c "BadLength"), false),
  ((.c "Sight", .b "list"), false),
  ((.c "Sight", .b "tuple"), false),
  ((.c "Sight", .b "int"), false),
  ((.c "Sight", .b "bool"), false),
  ((.c "Sight", .b "ValueError"), false),
  ((.e "NoDeals", .c "SizesDiffer"), false),
  ((.e "NoDeals", .c "NoDeals"), true),
  ((.e "NoDeals", .c "BadLength"), false),
  ((.e "NoDeals", .c "Sight"), false),
  ((.e "NoDeals", .b "list"), false),
  ((.e "NoDeals", .b "tuple"), false),
  ((.e "NoDeals", .b "int"), false),
  ((.e "NoDeals", .b "bool"), false),
  ((.e "NoDeals", .b "ValueError"), true),
  ((.e "SizesDiffer", .c "SizesDiffer"), true),
  ((.e "SizesDiffer", .c "NoDeals"), false),
  ((.e "SizesDiffer", .c "BadLength"), false),
  ((.e "SizesDiffer", .c "Sight"), false),
  ((.e "SizesDiffer", .b "list"), false),
  ((.e "SizesDiffer", .b "tuple"), false),
  ((.e "SizesDiffer", .b "int"), false),
  ((.e "SizesDiffer", .b "bool"), false),
  ((.e "SizesDiffer", .b "ValueError"), true)]
def tab : Tab := tabOf tabL
theorem Txt.tab {K : PySem.W.Frag} {mg : Str → Option Value} (T : Txt K mg) (pn : List (Addr × Obj)) : TabOk ⟨K, mg, pn⟩ tab := by
  refine tabOk_of ?_ ?_ ?_
  · exact (List.forall_mem_cons.mpr ⟨row_bc T.g_Sight T.ck_Sight T.sb_NoneType_Sight,
    (List.forall_mem_cons.mpr ⟨row_bc T.g_SizesDiffer T.ck_SizesDiffer T.sb_NoneType_SizesDiffer,
    (List.forall_mem_cons.mpr ⟨row_bc T.g_NoDeals T.ck_NoDeals T.sb_NoneType_NoDeals,
    (List.forall_mem_cons.mpr ⟨row_bc T.g_BadLength T.ck_BadLength T.sb_NoneType_BadLength,
    (List.forall_mem_cons.mpr ⟨row_bc T.g_Sight T.ck_Sight T.sb_bool_Sight,
    (List.forall_mem_cons.mpr ⟨row_bc T.g_SizesDiffer T.ck_SizesDiffer T.sb_bool_SizesDiffer,
    (List.forall_mem_cons.mpr ⟨row_bc T.g_NoDeals T.ck_NoDeals T.sb_bool_NoDeals,
    (List.forall_mem_cons.mpr ⟨row_bc T.g_BadLength T.ck_BadLength T.sb_bool_BadLength,
    (List.forall_mem_cons.mpr ⟨row_bc T.g_Sight T.ck_Sight T.sb_int_Sight,
    (List.forall_mem_cons.mpr ⟨row_bc T.g_SizesDiffer T.ck_SizesDiffer T.sb_int_SizesDiffer,
    (List.forall_mem_cons.mpr ⟨row_bc T.g_NoDeals T.ck_NoDeals T.sb_int_NoDeals,
    (List.forall_mem_cons.mpr ⟨row_bc T.g_BadLength T.ck_BadLength T.sb_int_BadLength,
    (List.forall_mem_cons.mpr ⟨row_bc T.g_Sight T.ck_Sight T.sb_str_Sight,
    (List.forall_mem_cons.mpr ⟨row_bc T.g_SizesDiffer T.ck_SizesDiffer T.sb_str_SizesDiffer,
    (List.forall_mem_cons.mpr ⟨row_bc T.g_NoDeals T.ck_NoDeals T.sb_str_NoDeals,
    (List.forall_mem_cons.mpr ⟨row_bc T.g_BadLength T.ck_BadLength T.sb_str_BadLength,
    (List.forall_mem_cons.mpr ⟨row_bc T.g_Sight T.ck_Sight T.sb_list_Sight,
    (List.forall_mem_cons.mpr ⟨row_bc T.g_SizesDiffer T.ck_SizesDiffer T.sb_list_SizesDiffer,
    (List.forall_mem_cons.mpr ⟨row_bc T.g_NoDeals T.ck_NoDeals T.sb_list_NoDeals,
    (List.forall_mem_cons.mpr ⟨row_bc T.g_BadLength T.ck_BadLength T.sb_list_BadLength,
    (List.forall_mem_cons.mpr ⟨row_bc T.g_Sight T.ck_Sight T.sb_tuple_Sight,
    (List.forall_mem_cons.mpr ⟨row_bc T.g_SizesDiffer T.ck_SizesDiffer T.sb_tuple_SizesDiffer,
    (List.forall_mem_cons.mpr ⟨row_bc T.g_NoDeals T.ck_NoDeals T.sb_tuple_NoDeals,
    (List.forall_mem_cons.mpr ⟨row_bc T.g_BadLength T.ck_BadLength T.sb_tuple_BadLength,
    (List.forall_mem_cons.mpr ⟨row_cc T.g_Sight T.g_Sight T.ck_Sight T.ck_Sight.s,
    (List.forall_mem_cons.mpr ⟨row_cc T.g_Sight T.g_SizesDiffer T.ck_SizesDiffer T.sb_Sight_SizesDiffer,
    (List.forall_mem_cons.mpr ⟨row_cc T.g_Sight T.g_NoDeals T.ck_NoDeals T.sb_Sight_NoDeals,
    (List.forall_mem_cons.mpr ⟨row_cc T.g_Sight T.g_BadLength T.ck_BadLength T.sb_Sight_BadLength,
    (List.forall_mem_cons.mpr ⟨row_cb T.g_Sight (by decide +kernel) T.sb_Sight_list,
    (List.forall_mem_cons.mpr ⟨row_cb T.g_Sight (by decide +kernel) T.sb_Sight_tuple,
    (List.forall_mem_cons.mpr ⟨row_cb T.g_Sight (by decide +kernel) T.sb_Sight_int,
    (List.forall_mem_cons.mpr ⟨row_cb T.g_Sight (by decide +kernel) T.sb_Sight_bool,
    (List.forall_mem_cons.mpr ⟨row_cb T.g_Sight (by decide +kernel) T.sb_Sight_ValueError,
    (List.forall_mem_cons.mpr ⟨row_ec T.g_NoDeals T.g_SizesDiffer T.ck_SizesDiffer T.sb_NoDeals_SizesDiffer,
    (List.forall_mem_cons.mpr ⟨row_ec T.g_NoDeals T.g_NoDeals T.ck_NoDeals T.ck_NoDeals.s,
    (List.forall_mem_cons.mpr ⟨row_ec T.g_NoDeals T.g_BadLength T.ck_BadLength T.sb_NoDeals_BadLength,
    (List.forall_mem_cons.mpr ⟨row_ec T.g_NoDeals T.g_Sight T.ck_Sight T.sb_NoDeals_Sight,
    (List.forall_mem_cons.mpr ⟨row_eb T.g_NoDeals (by decide +kernel) T.sb_NoDeals_list,
    (List.forall_mem_cons.mpr ⟨row_eb T.g_NoDeals (by decide +kernel) T.sb_NoDeals_tuple,
    (List.forall_mem_cons.mpr ⟨row_eb T.g_NoDeals (by decide +kernel) T.sb_NoDeals_int,
    (List.forall_mem_cons.mpr ⟨row_eb T.g_NoDeals (by decide +kernel) T.sb_NoDeals_bool,
    (List.forall_mem_cons.mpr ⟨row_eb T.g_NoDeals (by decide +kernel) T.sb_NoDeals_ValueError,
    (List.forall_mem_cons.mpr ⟨row_ec T.g_SizesDiffer T.g_SizesDiffer T.ck_SizesDiffer T.ck_SizesDiffer.s,
    (List.forall_mem_cons.mpr ⟨row_ec T.g_SizesDiffer T.g_NoDeals T.ck_NoDeals T.sb_SizesDiffer_NoDeals,
    (List.forall_mem_cons.mpr ⟨row_ec T.g_SizesDiffer T.g_BadLength T.ck_BadLength T.sb_SizesDiffer_BadLength,
    (List.forall_mem_cons.mpr ⟨row_ec T.g_SizesDiffer T.g_Sight T.ck_Sight T.sb_SizesDiffer_Sight,
    (List.forall_mem_cons.mpr ⟨row_eb T.g_SizesDiffer (by decide +kernel) T.sb_SizesDiffer_list,
    (List.forall_mem_cons.mpr ⟨row_eb T.g_SizesDiffer (by decide +kernel) T.sb_SizesDiffer_tuple,
    (List.forall_mem_cons.mpr ⟨row_eb T.g_SizesDiffer (by decide +kernel) T.sb_SizesDiffer_int,
    (List.forall_mem_cons.mpr ⟨row_eb T.g_SizesDiffer (by decide +kernel) T.sb_SizesDiffer_bool,
    (List.forall_mem_cons.mpr ⟨row_eb T.g_SizesDiffer (by decide +kernel) T.sb_SizesDiffer_ValueError,
    (fun _ h => absurd h List.not_mem_nil)⟩)⟩)⟩)⟩)⟩)⟩)⟩)⟩)⟩)⟩)⟩)⟩)⟩)⟩)⟩)⟩)⟩)⟩)⟩)⟩)⟩)⟩)⟩)⟩)⟩)⟩)⟩)⟩)⟩)⟩)⟩)⟩)⟩)⟩)⟩)⟩)⟩)⟩)⟩)⟩)⟩)⟩)⟩)⟩)⟩)⟩)⟩)⟩)⟩)⟩)⟩)
  · intro n u b hm c hc
    simp only [tabL, List.mem_cons, List.not_mem_nil, or_false] at hm
    rcases hm with h | h | h | h | h | h | h | h | h | h | h | h | h | h | h | h | h | h | h | h | h | h | h | h | h | h | h | h | h | h | h | h | h | h | h | h | h | h | h | h | h | h | h | h | h | h | h | h | h | h | h
    all_goals (injection h with h1 _; injection h1 with h2 _; first | (injection h2 with h3; subst h3; have e := T.g_Sight.symm.trans hc; cases e; exact T.ci_Sight) | cases h2)
  · intro n u b hm c hc
    simp only [tabL, List.mem_cons, List.not_mem_nil, or_false] at hm
    rcases hm with h | h | h | h | h | h | h | h | h | h | h | h | h | h | h | h | h | h | h | h | h | h | h | h | h | h | h | h | h | h | h | h | h | h | h | h | h | h | h | h | h | h | h | h | h | h | h | h | h | h | h
    all_goals (injection h with h1 _; injection h1 with h2 _; first | (injection h2 with h3; subst h3; have e := T.g_NoDeals.symm.trans hc; cases e; exact T.ce_NoDeals) | (injection h2 with h3; subst h3; have e := T.g_SizesDiffer.symm.trans hc; cases e; exact T.ce_SizesDiffer) | cases h2)
def exm_DealError : Exm := exmL [("NoDeals", true), ("SizesDiffer", true)]
theorem Txt.exm_DealError {K : PySem.W.Frag} {mg : Str → Option Value} (T : Txt K mg) {pn : List (Addr × Obj)} : ExmOk ⟨K, mg, pn⟩ "DealError" exm_DealError := exmOk_of T.g_DealError T.ce_DealError.hs T.ce_DealError.hd T.ck_DealError.t
  (List.forall_mem_cons.mpr ⟨fun c hc => by have e := T.g_NoDeals.symm.trans hc; cases e; exact T.sb_NoDeals_DealError, (List.forall_mem_cons.mpr ⟨fun c hc => by have e := T.g_SizesDiffer.symm.trans hc; cases e; exact T.sb_SizesDiffer_DealError, (fun _ h => absurd h List.not_mem_nil)⟩)⟩)
def at_marks : AT := fun t => if t = .c "Sight" then some none else none
theorem atok_marks {X : Cx} (T : Txt X.K X.mg) : AtOk X "marks" at_marks where
  c := fun n h => by
    unfold at_marks at h
    split at h
    · rename_i e
      cases e
      exact ⟨⟨T.c_Sight, T.g_Sight, T.cl_Sight, T.na_Sight_marks⟩⟩
    · cases h
  e := fun n h => by
    unfold at_marks at h
    split at h
    · rename_i e
      first | (cases e; done) | (cases h; done) | (cases e; cases h)
    · cases h
  p := fun t sp h => by
    unfold at_marks at h
    repeat (first | (split at h; cases h) | cases h)
  b := fun n => by
    unfold at_marks
    repeat (first | rfl | (split; (rename_i e; cases e)))
def at_one : AT := fun t => if t = .e "SizesDiffer" then some none else none
theorem atok_one {X : Cx} (T : Txt X.K X.mg) : AtOk X "one" at_one where
  c := fun n h => by
    unfold at_one at h
    split at h
    · rename_i e
      first | (cases e; done) | (cases h; done) | (cases e; cases h)
    · cases h
  e := fun n h => by
    unfold at_one at h
    split at h
    · rename_i e
      cases e
      exact ⟨⟨T.c_SizesDiffer, T.g_SizesDiffer, ⟨T.ce_SizesDiffer.hg, T.ce_SizesDiffer.hk, T.ce_SizesDiffer.hs, T.ce_SizesDiffer.hd⟩, T.ne_SizesDiffer_one⟩⟩
    · cases h
  p := fun t sp h => by
    unfold at_one at h
    repeat (first | (split at h; cases h) | cases h)
  b := fun n => by
    unfold at_one
    repeat (first | rfl | (split; (rename_i e; cases e)))
def at_size : AT := fun t => if t = .c "Sight" then some none else none
theorem atok_size {X : Cx} (T : Txt X.K X.mg) : AtOk X "size" at_size where
  c := fun n h => by
    unfold at_size at h
    split at h
    · rename_i e
      cases e
      exact ⟨⟨T.c_Sight, T.g_Sight, T.cl_Sight, T.na_Sight_size⟩⟩
    · cases h
  e := fun n h => by
    unfold at_size at h
    split at h
    · rename_i e
      first | (cases e; done) | (cases h; done) | (cases e; cases h)
    · cases h
  p := fun t sp h => by
    unfold at_size at h
    repeat (first | (split at h; cases h) | cases h)
  b := fun n => by
    unfold at_size
    repeat (first | rfl | (split; (rename_i e; cases e)))
def at_two : AT := fun t => if t = .e "SizesDiffer" then some none else none
theorem atok_two {X : Cx} (T : Txt X.K X.mg) : AtOk X "two" at_two where
  c := fun n h => by
    unfold at_two at h
    split at h
    · rename_i e
      first | (cases e; done) | (cases h; done) | (cases e; cases h)
    · cases h
  e := fun n h => by
    unfold at_two at h
    split at h
    · rename_i e
      cases e
      exact ⟨⟨T.c_SizesDiffer, T.g_SizesDiffer, ⟨T.ce_SizesDiffer.hg, T.ce_SizesDiffer.hk, T.ce_SizesDiffer.hs, T.ce_SizesDiffer.hd⟩, T.ne_SizesDiffer_two⟩⟩
    · cases h
  p := fun t sp h => by
    unfold at_two at h
    repeat (first | (split at h; cases h) | cases h)
  b := fun n => by
    unfold at_two
    repeat (first | rfl | (split; (rename_i e; cases e)))
theorem sc__law_digits : FnScope ["_law_cell_here", "_law_sizes", "_law_row", "_law_rest", "_law_seed", "_law_k", "_law_twice"] ["_law_cell_here", "_law_sizes"] (defScope st__law_digits) := ⟨rfl, rfl, rfl, by decide +kernel, rfl, by decide +kernel, by decide +kernel⟩
def t__law_digits : TSd :=
  (sSeq (sSetF (fLst aNil) 2)
  (sSeq (sSet (eCB cMaxG (aCons (eC (.int 0)) (aCons (eOp oSub (eCB cInt (aCons (eVar 0) aNil)) (eOp oPow (eC (.int 10)) (eC (.int 18)))) aNil))) 3)
  (sSeq (sSet (eOp oMod (eCB cInt (aCons (eVar 0) aNil)) (eC (.int 2147483629))) 4)
  (sSeq (sFor (iRng1 (aCons (eCB cLen (aCons (eVar 1) aNil)) aNil)) (gN 5)
  (sSeq (sSet (eOp oMod (eCB cInt (aCons (eOp oAdd (eOp oAdd (eOp oMul (eVar 4) (eC (.int 48271))) (eOp oMul (eC (.int 974711)) (eVar 5))) (eC (.int 12345))) aNil)) (eC (.int 2147483647))) 4)
  (sIf (tBl (eOp oGt (eVar 3) (eC (.int 0))))
  (sSeq (sApp 2 (eOp oMod (eCB cInt (aCons (eVar 3) aNil)) (eOp oIx (eVar 1) (eVar 5))))
  (sSet (eOp oFdiv (eCB cInt (aCons (eVar 3) aNil)) (eOp oIx (eVar 1) (eVar 5))) 3))
  (sSeq (sSet (eOp oMod (eCB cInt (aCons (eOp oMul (eVar 4) (eOp oAdd (eOp oFdiv (eVar 4) (eC (.int 65537))) (eC (.int 3)))) aNil)) (eC (.int 2147483629))) 6)
  (sApp 2 (eOp oMod (eOp oFdiv (eVar 6) (eC (.int 19))) (eOp oIx (eVar 1) (eVar 5))))))))
  (sRetO 2)))))
@[irreducible] def w__law_digits : Spf := fun ds P Xp => t__law_digits { nx := fun _ => False, rt := fun _ => False, ro := fun o => match o with | .lst l => P l | _ => False, xc := fun C fs _ => Xp C fs } (startD 7 ds)
theorem ok__law_digits {P : Program} {w : World} {K : PySem.W.Frag} {mg : Str → Option Value} {base : Heap} (T : Txt K mg) : FnOk P w K mg base (L2N.CX P w) 1 T.a__law_digits T.d__law_digits ["_law_cell_here", "_law_sizes"] (spF ⟨K, mg, []⟩ 2 w__law_digits) :=
  ok_defF (k := 0) (t := t__law_digits) T.F__law_digits sc__law_digits (fun cdv A outer s H E W hr hW tk =>
    (dss_cons (ds_setF (i := 2) sc__law_digits.nd rfl (.inl rfl) (df_lst da_nil))
    (dss_cons (ds_set (i := 3) sc__law_digits.nd rfl (.inl rfl) (de_callB (cr_maxG rfl hr.units) rfl T.z_max (by decide +kernel) (da_cons de_int (da_cons (de_op or_sub (de_callTy cr_int rfl T.z_int (by decide +kernel) (da_cons (de_name (pv 0)) da_nil)) (de_op or_pow de_int de_int)) da_nil))))
    (dss_cons (ds_set (i := 4) sc__law_digits.nd rfl (.inl rfl) (de_op or_mod (de_callTy cr_int rfl T.z_int (by decide +kernel) (da_cons (de_name (pv 0)) da_nil)) de_int))
    (dss_cons (ds_for (vs := [5]) (passes_of rfl) rfl (di_rng1 rfl T.z_range (da_cons (de_callB cr_len rfl T.z_len (by decide +kernel) (da_cons (de_name (pv 1)) da_nil)) da_nil)) (dg_name (i := 5) sc__law_digits.nd rfl (.inl rfl))
    (dss_cons (ds_set (i := 4) sc__law_digits.nd rfl (.inl rfl) (de_op or_mod (de_callTy cr_int rfl T.z_int (by decide +kernel) (da_cons (de_op or_add (de_op or_add (de_op or_mul (de_name (pv 4)) de_int) (de_op or_mul de_int (de_name (pv 5)))) de_int) da_nil)) de_int))
    (dss_one (ds_if (dt_cmp or_gt (de_name (pv 3)) de_int (nomark _))
    (dss_cons (ds_app (i := 2) (pv 2) (de_op or_mod (de_callTy cr_int rfl T.z_int (by decide +kernel) (da_cons (de_name (pv 3)) da_nil)) (de_ix ir_ix (de_name (pv 1)) (de_name (pv 5)) (fun _ _ => rfl))))
    (dss_one (ds_set (i := 3) sc__law_digits.nd rfl (.inl rfl) (de_op or_fdiv (de_callTy cr_int rfl T.z_int (by decide +kernel) (da_cons (de_name (pv 3)) da_nil)) (de_ix ir_ix (de_name (pv 1)) (de_name (pv 5)) (fun _ _ => rfl))))))
    (dss_cons (ds_set (i := 6) sc__law_digits.nd rfl (.inl rfl) (de_op or_mod (de_callTy cr_int rfl T.z_int (by decide +kernel) (da_cons (de_op or_mul (de_name (pv 4)) (de_op or_add (de_op or_fdiv (de_name (pv 4)) de_int) de_int)) da_nil)) de_int))
    (dss_one (ds_app (i := 2) (pv 2) (de_op or_mod (de_op or_fdiv (de_name (pv 6)) de_int) (de_ix ir_ix (de_name (pv 1)) (de_name (pv 5)) (fun _ _ => rfl))))))))))
    (dss_one (ds_retO (i := 2) (pv 2)))))))) (fun _ _ _ _ h => by unfold w__law_digits at h; exact h)
theorem sc__law_cell : FnScope ["_law_script", "_law_k", "_law_seed", "_law_cell_here"] ["_law_script", "_law_k"] (defScope st__law_cell) := ⟨rfl, rfl, rfl, by decide +kernel, rfl, by decide +kernel, by decide +kernel⟩
def t__law_cell : TSd :=
  (sSeq (sIf (tBl (eOp oLt (eVar 1) (eCB cLen (aCons (eVar 0) aNil))))
  (sRet (eOp oIx (eVar 0) (eVar 1)))
  sNext)
  (sSeq (sSet (eC (.int 17)) 2)
  (sSeq (sFor (iSeq (eVar 0)) (gN 3)
  (sSet (eOp oMod (eCB cInt (aCons (eOp oAdd (eOp oMul (eVar 2) (eC (.int 31))) (eOp oMod (eCB cInt (aCons (eVar 3) aNil)) (eC (.int 1000003)))) aNil)) (eC (.int 1000003))) 2))
  (sRet (eOp oMod (eCB cInt (aCons (eOp oMul (eOp oMul (eOp oAdd (eVar 2) (eC (.int 7))) (eOp oAdd (eVar 1) (eC (.int 3)))) (eC (.int 69621))) aNil)) (eC (.int 2147483647)))))))
@[irreducible] def w__law_cell : Spd := fun ds P Xp => t__law_cell { nx := fun _ => P .non, rt := P, ro := fun o => P o.d, xc := fun C fs _ => Xp C fs } (startD 4 ds)
theorem ok__law_cell {P : Program} {w : World} {K : PySem.W.Frag} {mg : Str → Option Value} {base : Heap} (T : Txt K mg) : FnOk P w K mg base (L2N.CX P w) 1 T.a__law_cell T.d__law_cell ["_law_script", "_law_k"] (spL ⟨K, mg, []⟩ 2 w__law_cell) :=
  ok_def (k := 0) (t := t__law_cell) T.F__law_cell sc__law_cell (fun cdv A outer s H E W hr hW tk =>
    (dss_cons (ds_if (dt_cmp or_lt (de_name (pv 1)) (de_callB cr_len rfl T.z_len (by decide +kernel) (da_cons (de_name (pv 0)) da_nil)) (nomark _))
    (dss_one (ds_ret (de_ix ir_ix (de_name (pv 0)) (de_name (pv 1)) (fun _ _ => rfl))))
    dss_nil)
    (dss_cons (ds_set (i := 2) sc__law_cell.nd rfl (.inl rfl) de_int)
    (dss_cons (ds_for (vs := [3]) (passes_of rfl) rfl (di_seq (de_name (pv 0))) (dg_name (i := 3) sc__law_cell.nd rfl (.inl rfl))
    (dss_one (ds_set (i := 2) sc__law_cell.nd rfl (.inl rfl) (de_op or_mod (de_callTy cr_int rfl T.z_int (by decide +kernel) (da_cons (de_op or_add (de_op or_mul (de_name (pv 2)) de_int) (de_op or_mod (de_callTy cr_int rfl T.z_int (by decide +kernel) (da_cons (de_name (pv 3)) da_nil)) de_int)) da_nil)) de_int))))
    (dss_one (ds_ret (de_op or_mod (de_callTy cr_int rfl T.z_int (by decide +kernel) (da_cons (de_op or_mul (de_op or_mul (de_op or_add (de_name (pv 2)) de_int) (de_op or_add (de_name (pv 1)) de_int)) de_int) da_nil)) de_int))))))) (fun _ _ _ _ h => by unfold w__law_cell at h; exact h)
theorem sc__law_draw_x : FnScope ["_law_script", "_law_shape", "_law_sizes", "_law_rows", "_law_k", "_law_wide"] ["_law_script"] (defScope st__law_draw_x) := ⟨rfl, rfl, rfl, by decide +kernel, rfl, by decide +kernel, by decide +kernel⟩
def t__law_draw_x : TSd :=
  (sSeq (sSet (eF (fCall 2 w__law_digits (aCons (eCall 2 w__law_cell (aCons (eVar 0) (aCons (eC (.int 0)) aNil))) (aCons (eF (fLst (aCons (eC (.int 8)) (aCons (eC (.int 8)) (aCons (eC (.int 12)) (aCons (eC (.int 28)) (aCons (eC (.int 12)) (aCons (eC (.int 28)) (aCons (eC (.int 6)) (aCons (eC (.int 6)) aNil)))))))))) aNil)))) 1)
  (sSeq (sSetF (fLst (aCons (eOp oIx (eF (fLst (aCons (eC (.int 5)) (aCons (eC (.int 4)) (aCons (eC (.int 6)) (aCons (eC (.int 3)) (aCons (eC (.int 7)) (aCons (eC (.int 9)) (aCons (eC (.int 2)) (aCons (eC (.int 8)) (aCons (eC (.int 12)) (aCons (eC (.int 11)) (aCons (eC (.int 10)) (aCons (eC (.int 1)) aNil)))))))))))))) (eOp oIx (eVar 1) (eC (.int 2)))) (aCons (eOp oIx (eF (fLst (aCons (eC (.int 4)) (aCons (eC (.int 3)) (aCons (eC (.int 5)) (aCons (eC (.int 6)) (aCons (eC (.int 2)) (aCons (eC (.int 7)) (aCons (eC (.int 8)) (aCons (eC (.int 10)) (aCons (eC (.int 9)) (aCons (eC (.int 1)) (aCons (eC (.int 12)) (aCons (eC (.int 11)) aNil)))))))))))))) (eOp oIx (eVar 1) (eC (.int 4)))) aNil))) 2)
  (sSeq (sIf (tBl (eOp oEq (eOp oIx (eVar 1) (eC (.int 0))) (eC (.int 7))))
  (sSetIx 2 (eC (.int 0)) (eOp oAdd (eC (.int 13)) (eOp oIx (eVar 1) (eC (.int 3)))))
  sNext)
  (sSeq (sIf (tBl (eOp oEq (eOp oIx (eVar 1) (eC (.int 1))) (eC (.int 7))))
  (sSetIx 2 (eC (.int 1)) (eOp oAdd (eC (.int 13)) (eOp oIx (eVar 1) (eC (.int 5)))))
  sNext)
  (sSeq (sIf (tAnd (tBl (eOp oEq (eOp oIx (eVar 1) (eC (.int 0))) (eC (.int 7)))) (tBl (eOp oEq (eOp oIx (eVar 1) (eC (.int 1))) (eC (.int 7)))))
  (sSet (eOp oIx (eF (fLst (aCons (eF (fLst (aCons (eC (.int 40)) (aCons (eC (.int 50)) aNil)))) (aCons (eF (fLst (aCons (eC (.int 50)) (aCons (eC (.int 40)) aNil)))) (aCons (eF (fLst (aCons (eC (.int 2000)) (aCons (eC (.int 1)) aNil)))) (aCons (eF (fLst (aCons (eC (.int 1)) (aCons (eC (.int 2000)) aNil)))) aNil)))))) (eOp oMod (eCB cInt (aCons (eOp oIx (eVar 1) (eC (.int 6))) aNil)) (eC (.int 4)))) 2)
  sNext)
  (sSeq (sSetF (fLst aNil) 3)
  (sSeq (sFor (iRng1 (aCons (eC (.int 2)) aNil)) (gN 4)
  (sSeq (sFrz 2 (sSet (eOp oIx (eF (fLst (aCons (eC (.int 3)) (aCons (eC (.int 2)) (aCons (eOp oIx (eVar 2) (eVar 4)) (aCons (eOp oAdd (eOp oFdiv (eOp oIx (eVar 2) (eVar 4)) (eC (.int 2))) (eC (.int 1))) (aCons (eC (.int 4)) (aCons (eOp oIx (eVar 2) (eVar 4)) aNil)))))))) (eOp oIx (eVar 1) (eOp oAdd (eC (.int 6)) (eVar 4)))) 5))
  (sApp 3 (eF (fCall 2 w__law_digits (aCons (eCall 2 w__law_cell (aCons (eVar 0) (aCons (eOp oAdd (eC (.int 1)) (eVar 4)) aNil))) (aCons (eF (fRep (fLst (aCons (eVar 5) aNil)) (eOp oIx (eVar 2) (eVar 4)))) aNil)))))))
  (sRetO 3))))))))
@[irreducible] def w__law_draw_x : Spf := fun ds P Xp => t__law_draw_x { nx := fun _ => False, rt := fun _ => False, ro := fun o => match o with | .lst l => P l | _ => False, xc := fun C fs _ => Xp C fs } (startD 6 ds)
theorem ok__law_draw_x {P : Program} {w : World} {K : PySem.W.Frag} {mg : Str → Option Value} {base : Heap} (T : Txt K mg) : FnOk P w K mg base (L2N.CX P w) 2 T.a__law_draw_x T.d__law_draw_x ["_law_script"] (spF ⟨K, mg, []⟩ 1 w__law_draw_x) :=
  ok_defF (k := 1) (t := t__law_draw_x) T.F__law_draw_x sc__law_draw_x (fun cdv A outer s H E W hr hW tk =>
    (dss_cons (ds_set (i := 1) sc__law_draw_x.nd rfl (.inl rfl) (de_f (df_call (ok__law_digits T) (hr.mono (by decide)) rfl T.g__law_digits T.F__law_digits.kp T.b__law_digits tk (da_cons (de_call (ok__law_cell T) (hr.mono (by decide)) rfl T.g__law_cell T.F__law_cell.kp T.b__law_cell tk (da_cons (de_name (pv 0)) (da_cons de_int da_nil))) (da_cons (de_f (df_lst (da_cons de_int (da_cons de_int (da_cons de_int (da_cons de_int (da_cons de_int (da_cons de_int (da_cons de_int (da_cons de_int da_nil)))))))))) da_nil)))))
    (dss_cons (ds_setF (i := 2) sc__law_draw_x.nd rfl (.inl rfl) (df_lst (da_cons (de_ix ir_ix (de_f (df_lst (da_cons de_int (da_cons de_int (da_cons de_int (da_cons de_int (da_cons de_int (da_cons de_int (da_cons de_int (da_cons de_int (da_cons de_int (da_cons de_int (da_cons de_int (da_cons de_int da_nil)))))))))))))) (de_ix ir_ix (de_name (pv 1)) de_int (fun _ _ => rfl)) (fun _ _ => rfl)) (da_cons (de_ix ir_ix (de_f (df_lst (da_cons de_int (da_cons de_int (da_cons de_int (da_cons de_int (da_cons de_int (da_cons de_int (da_cons de_int (da_cons de_int (da_cons de_int (da_cons de_int (da_cons de_int (da_cons de_int da_nil)))))))))))))) (de_ix ir_ix (de_name (pv 1)) de_int (fun _ _ => rfl)) (fun _ _ => rfl)) da_nil))))
    (dss_cons (ds_if (dt_cmp (or_eq hr.units) (de_ix ir_ix (de_name (pv 1)) de_int (fun _ _ => rfl)) de_int (nomark _))
    (dss_one (ds_setIx (i := 2) (pv 2) de_int (de_op or_add de_int (de_ix ir_ix (de_name (pv 1)) de_int (fun _ _ => rfl)))))
    dss_nil)
    (dss_cons (ds_if (dt_cmp (or_eq hr.units) (de_ix ir_ix (de_name (pv 1)) de_int (fun _ _ => rfl)) de_int (nomark _))
    (dss_one (ds_setIx (i := 2) (pv 2) de_int (de_op or_add de_int (de_ix ir_ix (de_name (pv 1)) de_int (fun _ _ => rfl)))))
    dss_nil)
    (dss_cons (ds_if (dt_w (dw_and (dt_cmp (or_eq hr.units) (de_ix ir_ix (de_name (pv 1)) de_int (fun _ _ => rfl)) de_int (nomark _)) (dw_and1 (dt_cmp (or_eq hr.units) (de_ix ir_ix (de_name (pv 1)) de_int (fun _ _ => rfl)) de_int (nomark _)))))
    (dss_one (ds_set (i := 2) sc__law_draw_x.nd rfl (.inl rfl) (de_ix ir_ix (de_f (df_lst (da_cons (de_f (df_lst (da_cons de_int (da_cons de_int da_nil)))) (da_cons (de_f (df_lst (da_cons de_int (da_cons de_int da_nil)))) (da_cons (de_f (df_lst (da_cons de_int (da_cons de_int da_nil)))) (da_cons (de_f (df_lst (da_cons de_int (da_cons de_int da_nil)))) da_nil)))))) (de_op or_mod (de_callTy cr_int rfl T.z_int (by decide +kernel) (da_cons (de_ix ir_ix (de_name (pv 1)) de_int (fun _ _ => rfl)) da_nil)) de_int) (fun _ _ => rfl))))
    dss_nil)
    (dss_cons (ds_setF (i := 3) sc__law_draw_x.nd rfl (.inl rfl) (df_lst da_nil))
    (dss_cons (ds_for (vs := [4]) (passes_of rfl) rfl (di_rng1 rfl T.z_range (da_cons de_int da_nil)) (dg_name (i := 4) sc__law_draw_x.nd rfl (.inl rfl))
    (dss_cons (ds_frz 2 (ds_set (i := 5) sc__law_draw_x.nd rfl (.inl rfl) (de_ix ir_ix (de_f (df_lst (da_cons de_int (da_cons de_int (da_cons (de_ix ir_ix (de_name (pv 2)) (de_name (pv 4)) (fun _ _ => rfl)) (da_cons (de_op or_add (de_op or_fdiv (de_ix ir_ix (de_name (pv 2)) (de_name (pv 4)) (fun _ _ => rfl)) de_int) de_int) (da_cons de_int (da_cons (de_ix ir_ix (de_name (pv 2)) (de_name (pv 4)) (fun _ _ => rfl)) da_nil)))))))) (de_ix ir_ix (de_name (pv 1)) (de_op or_add de_int (de_name (pv 4))) (fun _ _ => rfl)) (fun _ _ => rfl))))
    (dss_one (ds_app (i := 3) (pv 3) (de_f (df_call (ok__law_digits T) (hr.mono (by decide)) rfl T.g__law_digits T.F__law_digits.kp T.b__law_digits tk (da_cons (de_call (ok__law_cell T) (hr.mono (by decide)) rfl T.g__law_cell T.F__law_cell.kp T.b__law_cell tk (da_cons (de_name (pv 0)) (da_cons (de_op or_add de_int (de_name (pv 4))) da_nil))) (da_cons (de_f (df_rep (df_lst (da_cons (de_name (pv 5)) da_nil)) (de_ix ir_ix (de_name (pv 2)) (de_name (pv 4)) (fun _ _ => rfl)))) da_nil))))))))
    (dss_one (ds_retO (i := 3) (pv 3))))))))))) (fun _ _ _ _ h => by unfold w__law_draw_x at h; exact h)
theorem sc__law_marks : FnScope ["_law_marks_here", "_law_numbers_here", "_law_row", "_law_mark"] ["_law_marks_here"] (defScope st__law_marks) := ⟨rfl, rfl, rfl, by decide +kernel, rfl, by decide +kernel, by decide +kernel⟩
def t__law_marks : TSd :=
  (sSeq (sDic 1)
  (sSeq (sSetF (fLst aNil) 2)
  (sSeq (sFor (iSeq (eVar 0)) (gN 3)
  (sSeq (sIf (tBl (eInO true 1 (eVar 3)))
  (sPutO 1 (eVar 3) (eLenD 1))
  sNext)
  (sApp 2 (eGetO 1 (eVar 3)))))
  (sRetO 2))))
@[irreducible] def w__law_marks : Spf := fun ds P Xp => t__law_marks { nx := fun _ => False, rt := fun _ => False, ro := fun o => match o with | .lst l => P l | _ => False, xc := fun C fs _ => Xp C fs } (startD 4 ds)
theorem ok__law_marks {P : Program} {w : World} {K : PySem.W.Frag} {mg : Str → Option Value} {base : Heap} (T : Txt K mg) : FnOk P w K mg base (L2N.CX P w) 1 T.a__law_marks T.d__law_marks ["_law_marks_here"] (spF ⟨K, mg, []⟩ 1 w__law_marks) :=
  ok_defF (k := 0) (t := t__law_marks) T.F__law_marks sc__law_marks (fun cdv A outer s H E W hr hW tk =>
    (dss_cons (ds_dic (i := 1) sc__law_marks.nd rfl (.inl rfl))
    (dss_cons (ds_setF (i := 2) sc__law_marks.nd rfl (.inl rfl) (df_lst da_nil))
    (dss_cons (ds_for (vs := [3]) (passes_of rfl) rfl (di_seq (de_name (pv 0))) (dg_name (i := 3) sc__law_marks.nd rfl (.inl rfl))
    (dss_cons (ds_if (dt_notInO (i := 1) hr.units (de_name (pv 3)) (pv 1))
    (dss_one (ds_putO (i := 1) hr.units (pv 1) (de_name (pv 3)) (de_lenD (i := 1) (pv 1) rfl T.z_len)))
    dss_nil)
    (dss_one (ds_app (i := 2) (pv 2) (de_getO (i := 1) hr.units (pv 1) (de_name (pv 3)) (fun _ _ => rfl))))))
    (dss_one (ds_retO (i := 2) (pv 2))))))) (fun _ _ _ _ h => by unfold w__law_marks at h; exact h)
theorem sc_frozen : FnScope ["value", "item"] ["value"] (defScope st_frozen) := ⟨rfl, rfl, rfl, by decide +kernel, rfl, by decide +kernel, by decide +kernel⟩
def t_frozen (w : Spd) : TSd :=
  (sSeq (sIf (tTr (eCB (cIsiG tab) (aCons (eVar 0) (aCons (eTup (aCons (eC (.ty "list")) (aCons (eC (.ty "tuple")) aNil))) aNil))))
  (sRet (eCB cTup (aCons (eF (fLc (iSeq (eVar 0)) (gN 1) tYes (eCall 1 w (aCons (eVar 1) aNil)) [1])) aNil)))
  sNext)
  (sRet (eVar 0)))
def w_frozen : Nat → Spd
  | 0 => fun _ _ _ => False
  | d + 1 => fun ds P Xp => t_frozen (w_frozen d) { nx := fun _ => P .non, rt := P, ro := fun o => P o.d, xc := fun C fs _ => Xp C fs } (startD 2 ds)
theorem ok_frozen {P : Program} {w : World} {K : PySem.W.Frag} {mg : Str → Option Value} {base : Heap} (T : Txt K mg) : ∀ d : Nat, FnOk P w K mg base (L2N.CX P w) (0 + d) T.a_frozen T.d_frozen ["value"] (spL ⟨K, mg, []⟩ 1 (w_frozen d))
  | 0 => ok_false
  | d + 1 => ok_def (k := 0 + d) (t := t_frozen (w_frozen d)) T.F_frozen sc_frozen (fun cdv A outer s H E W hr hW tk =>
    (dss_cons (ds_if (dt_tr (de_callB (cr_isiG (T.tab _)) rfl T.z_isinstance (by decide +kernel) (da_cons (de_name (pv 0)) (da_cons (de_tup (da_cons (de_ty rfl T.z_list (by decide +kernel)) (da_cons (de_ty rfl T.z_tuple (by decide +kernel)) da_nil))) da_nil))))
    (dss_one (ds_ret (de_callTy cr_tup rfl T.z_tuple (by decide +kernel) (da_cons (de_f (df_lc (own := [("item", 1)]) rfl sc_frozen.nd (di_seq (de_name (pv 0))) (blkOk_by (N := ["value", "item"]) (sc := defScope st_frozen) (by decide +kernel)) (fun _ _ _ _ _ => (dg_name (i := 1) sc_frozen.nd rfl (.inl rfl))) (fun _ _ _ _ _ => dts_nil) (fun _ _ _ _ _ => (de_call (ok_frozen T d) (hr.mono (by omega)) rfl T.g_frozen T.F_frozen.kp T.b_frozen takesN0 (da_cons (de_name (pv 1)) da_nil))))) da_nil))))
    dss_nil)
    (dss_one (ds_ret (de_name (pv 0)))))) (fun _ _ _ _ h => h)
theorem sc_numbered : FnScope ["marks", "numbers", "result", "mark"] ["marks"] (defScope st_numbered) := ⟨rfl, rfl, rfl, by decide +kernel, rfl, by decide +kernel, by decide +kernel⟩
def t_numbered : TSd :=
  (sSeq (sDic 1)
  (sSeq (sSetF (fLst aNil) 2)
  (sSeq (sFor (iSeq (eVar 0)) (gN 3)
  (sSeq (sIf (tBl (eInO true 1 (eVar 3)))
  (sPutO 1 (eVar 3) (eLenD 1))
  sNext)
  (sApp 2 (eGetO 1 (eVar 3)))))
  (sFrz 2 (sRet (eCB cTup (aCons (eVar 2) aNil)))))))
@[irreducible] def w_numbered : Spd := fun ds P Xp => t_numbered { nx := fun _ => P .non, rt := P, ro := fun o => P o.d, xc := fun C fs _ => Xp C fs } (startD 4 ds)
theorem ok_numbered {P : Program} {w : World} {K : PySem.W.Frag} {mg : Str → Option Value} {base : Heap} (T : Txt K mg) : FnOk P w K mg base (L2N.CX P w) 1 T.a_numbered T.d_numbered ["marks"] (spL ⟨K, mg, []⟩ 1 w_numbered) :=
  ok_def (k := 0) (t := t_numbered) T.F_numbered sc_numbered (fun cdv A outer s H E W hr hW tk =>
    (dss_cons (ds_dic (i := 1) sc_numbered.nd rfl (.inl rfl))
    (dss_cons (ds_setF (i := 2) sc_numbered.nd rfl (.inl rfl) (df_lst da_nil))
    (dss_cons (ds_for (vs := [3]) (passes_of rfl) rfl (di_seq (de_name (pv 0))) (dg_name (i := 3) sc_numbered.nd rfl (.inl rfl))
    (dss_cons (ds_if (dt_notInO (i := 1) hr.units (de_name (pv 3)) (pv 1))
    (dss_one (ds_putO (i := 1) hr.units (pv 1) (de_name (pv 3)) (de_lenD (i := 1) (pv 1) rfl T.z_len)))
    dss_nil)
    (dss_one (ds_app (i := 2) (pv 2) (de_getO (i := 1) hr.units (pv 1) (de_name (pv 3)) (fun _ _ => rfl))))))
    (dss_one (ds_frz 2 (ds_ret (de_callTy cr_tup rfl T.z_tuple (by decide +kernel) (da_cons (de_name (pv 2)) da_nil))))))))) (fun _ _ _ _ h => by unfold w_numbered at h; exact h)
theorem sc_Sight___init__ : FnScope ["self", "marks", "given"] ["self", "marks"] (defScope st_Sight___init__) := ⟨rfl, rfl, rfl, by decide +kernel, rfl, by decide +kernel, by decide +kernel⟩
def t_Sight___init__ : TSd :=
  (sSeq (sSet (eCall 1 (w_frozen 3) (aCons (eVar 1) aNil)) 2)
  (sSeq (sIf (tBl (eOp oEq (eCB cLen (aCons (eVar 2) aNil)) (eC (.int 0))))
  (sRaise0 "NoDeals")
  sNext)
  (sSeq (sFldS "Sight" 0 "size" (eCB cLen (aCons (eVar 2) aNil)))
  (sFldS "Sight" 0 "marks" (eCall 1 w_numbered (aCons (eVar 2) aNil))))))
@[irreducible] def w_Sight___init__ : Spi := fun ds P Xp => ∀ a, t_Sight___init__ { nx := fun ρ => ∃ fs, ρ[0]? = some (.own (.ins a "Sight" fs)) ∧ P fs, rt := fun _ => False, xc := fun C fs _ => Xp C fs } (startI 3 a "Sight" ds)
theorem ok_Sight___init__ {P : Program} {w : World} {K : PySem.W.Frag} {mg : Str → Option Value} {base : Heap} (T : Txt K mg) : FnOk P w K mg base (L2N.CX P w) 4 T.a_Sight___init__ T.d_Sight___init__ ["self", "marks"] (spI ⟨K, mg, []⟩ "Sight" 2 w_Sight___init__) :=
  ok_init (k := 3) (t := t_Sight___init__) T.F_Sight___init__ sc_Sight___init__ (by decide) (fun cdv A outer s H E W hr hW tk =>
    (dss_cons (ds_set (i := 2) sc_Sight___init__.nd rfl (.inl rfl) (de_call (ok_frozen T 3) (hr.mono (by decide)) rfl T.g_frozen T.F_frozen.kp T.b_frozen tk (da_cons (de_name (pv 1)) da_nil)))
    (dss_cons (ds_if (dt_cmp (or_eq hr.units) (de_callB cr_len rfl T.z_len (by decide +kernel) (da_cons (de_name (pv 2)) da_nil)) de_int (nomark _))
    (dss_one (ds_raise0 rfl tk T.x0_NoDeals T.g_NoDeals rfl))
    dss_nil)
    (dss_cons (ds_fldS (i := 0) (pv 0) (de_callB cr_len rfl T.z_len (by decide +kernel) (da_cons (de_name (pv 2)) da_nil)) ⟨T.g_Sight, T.cl_Sight⟩ T.na_Sight_size)
    (dss_one (ds_fldS (i := 0) (pv 0) (de_call (ok_numbered T) (hr.mono (by decide)) rfl T.g_numbered T.F_numbered.kp T.b_numbered tk (da_cons (de_name (pv 2)) da_nil)) ⟨T.g_Sight, T.cl_Sight⟩ T.na_Sight_marks)))))) (fun a _ _ _ _ h => by unfold w_Sight___init__ at h; exact h a)
theorem sc__law_deals : FnScope ["_law_script", "_law_size", "_law_turns", "_law_order", "_law_k"] ["_law_script", "_law_size"] (defScope st__law_deals) := ⟨rfl, rfl, rfl, by decide +kernel, rfl, by decide +kernel, by decide +kernel⟩
def t__law_deals : TSd :=
  (sSeq (sSet (eF (fCall 2 w__law_digits (aCons (eCall 2 w__law_cell (aCons (eVar 0) (aCons (eC (.int 3)) aNil))) (aCons (eOp oAdd (eF (fLst (aCons (eVar 1) aNil))) (eF (fLc (iRng1 (aCons (eVar 1) aNil)) (gN 4) tYes (eOp oAdd (eVar 4) (eC (.int 1))) [4]))) aNil)))) 2)
  (sSeq (sSetF (fLst aNil) 3)
  (sSeq (sFor (iRng1 (aCons (eVar 1) aNil)) (gN 4)
  (sIns 3 (eOp oIx (eVar 2) (eOp oAdd (eVar 4) (eC (.int 1)))) (eVar 4)))
  (sFrz 3 (sRet (eSl (eVar 3) pNo (pSome (eOp oAdd (eOp oIx (eVar 2) (eC (.int 0))) (eC (.int 1))))))))))
@[irreducible] def w__law_deals : Spd := fun ds P Xp => t__law_deals { nx := fun _ => P .non, rt := P, ro := fun o => P o.d, xc := fun C fs _ => Xp C fs } (startD 5 ds)
theorem ok__law_deals {P : Program} {w : World} {K : PySem.W.Frag} {mg : Str → Option Value} {base : Heap} (T : Txt K mg) : FnOk P w K mg base (L2N.CX P w) 2 T.a__law_deals T.d__law_deals ["_law_script", "_law_size"] (spL ⟨K, mg, []⟩ 2 w__law_deals) :=
  ok_def (k := 1) (t := t__law_deals) T.F__law_deals sc__law_deals (fun cdv A outer s H E W hr hW tk =>
    (dss_cons (ds_set (i := 2) sc__law_deals.nd rfl (.inl rfl) (de_f (df_call (ok__law_digits T) (hr.mono (by decide)) rfl T.g__law_digits T.F__law_digits.kp T.b__law_digits tk (da_cons (de_call (ok__law_cell T) (hr.mono (by decide)) rfl T.g__law_cell T.F__law_cell.kp T.b__law_cell tk (da_cons (de_name (pv 0)) (da_cons de_int da_nil))) (da_cons (de_op or_add (de_f (df_lst (da_cons (de_name (pv 1)) da_nil))) (de_f (df_lc (own := [("_law_k", 4)]) rfl sc__law_deals.nd (di_rng1 rfl T.z_range (da_cons (de_name (pv 1)) da_nil)) (blkOk_by (N := ["_law_script", "_law_size", "_law_turns", "_law_order", "_law_k"]) (sc := defScope st__law_deals) (by decide +kernel)) (fun _ _ _ _ _ => (dg_name (i := 4) sc__law_deals.nd rfl (.inl rfl))) (fun _ _ _ _ _ => dts_nil) (fun _ _ _ _ _ => (de_op or_add (de_name (pv 4)) de_int))))) da_nil)))))
    (dss_cons (ds_setF (i := 3) sc__law_deals.nd rfl (.inl rfl) (df_lst da_nil))
    (dss_cons (ds_for (vs := [4]) (passes_of rfl) rfl (di_rng1 rfl T.z_range (da_cons (de_name (pv 1)) da_nil)) (dg_name (i := 4) sc__law_deals.nd rfl (.inl rfl))
    (dss_one (ds_ins (i := 3) (pv 3) (de_ix ir_ix (de_name (pv 2)) (de_op or_add (de_name (pv 4)) de_int) (fun _ _ => rfl)) (de_name (pv 4)))))
    (dss_one (ds_frz 3 (ds_ret (de_slice (de_name (pv 3)) do_none (do_some (de_op or_add (de_ix ir_ix (de_name (pv 2)) de_int (fun _ _ => rfl)) de_int)))))))))) (fun _ _ _ _ h => by unfold w__law_deals at h; exact h)
theorem sc_crossed : FnScope ["one", "two", "mark", "other"] ["one", "two"] (defScope st_crossed) := ⟨rfl, rfl, rfl, by decide +kernel, rfl, by decide +kernel, by decide +kernel⟩
def t_crossed : TSd :=
  (sRet (eMake "Sight" 2 w_Sight___init__ (aCons (eF (fLc2 (iSeq (eAttr at_marks "marks" (eVar 0))) (gN 2) tYes (iSeq (eAttr at_marks "marks" (eVar 1))) (gN 3) tYes (eOp oAdd (eOp oMul (eVar 2) (eAttr at_size "size" (eVar 1))) (eVar 3)) [2, 3] [3])) aNil)))
@[irreducible] def w_crossed : Spd := fun ds P Xp => t_crossed { nx := fun _ => P .non, rt := P, ro := fun o => P o.d, xc := fun C fs _ => Xp C fs } (startD 4 ds)
theorem ok_crossed {P : Program} {w : World} {K : PySem.W.Frag} {mg : Str → Option Value} {base : Heap} (T : Txt K mg) : FnOk P w K mg base (L2N.CX P w) 6 T.a_crossed T.d_crossed ["one", "two"] (spL ⟨K, mg, []⟩ 2 w_crossed) :=
  ok_def (k := 5) (t := t_crossed) T.F_crossed sc_crossed (fun cdv A outer s H E W hr hW tk =>
    (dss_one (ds_ret (de_make T.mk_Sight (ok_Sight___init__ T) (hr.mono (by decide)) rfl T.g_Sight T.b_Sight___init__ tk (da_cons (de_f (df_lc2 (own := [("mark", 2), ("other", 3)]) (vs1 := [3]) rfl sc_crossed.nd (di_seq (de_attr (de_name (pv 0)) (atok_marks T))) (blkOk_by (N := ["one", "two", "mark", "other"]) (sc := defScope st_crossed) (by decide +kernel)) (by decide) (fun _ _ _ _ _ => (dg_name (i := 2) sc_crossed.nd rfl (.inl rfl))) (fun _ _ _ _ _ => dts_nil) (fun _ _ _ _ _ => (di_seq (de_attr (de_name (pv 1)) (atok_marks T)))) (fun _ _ _ _ _ => (dg_name (i := 3) sc_crossed.nd rfl (.inl rfl))) (fun _ _ _ _ _ => dts_nil) (fun _ _ _ _ _ => (de_op or_add (de_op or_mul (de_name (pv 2)) (de_attr (de_name (pv 1)) (atok_size T))) (de_name (pv 3)))) gok_name)) da_nil))))) (fun _ _ _ _ h => by unfold w_crossed at h; exact h)
theorem sc__law_groups : FnScope ["_law_row", "_law_groups_here", "_law_k", "_law_group"] ["_law_row"] (defScope st__law_groups) := ⟨rfl, rfl, rfl, by decide +kernel, rfl, by decide +kernel, by decide +kernel⟩
def t__law_groups : TSd :=
  (sSeq (sSetLcN (iRng1 (aCons (eOp oAdd (eCB cMaxG (aCons (eVar 0) aNil)) (eC (.int 1))) aNil)) (gN 2) tYes (fLst aNil) [2] 1)
  (sSeq (sFor (iRng1 (aCons (eCB cLen (aCons (eVar 0) aNil)) aNil)) (gN 2)
  (sSeq (sSet (eIxP 1 (eRoot 1) (eOp oIx (eVar 0) (eVar 2))) 3)
  (sAppP 1 (eVar 3) (eVar 2))))
  (sRetO 1)))
@[irreducible] def w__law_groups : Spd := fun ds P Xp => t__law_groups { nx := fun _ => P .non, rt := P, ro := fun o => P o.d, xc := fun C fs _ => Xp C fs } (startD 4 ds)
theorem ok__law_groups {P : Program} {w : World} {K : PySem.W.Frag} {mg : Str → Option Value} {base : Heap} (T : Txt K mg) : FnOk P w K mg base (L2N.CX P w) 1 T.a__law_groups T.d__law_groups ["_law_row"] (spL ⟨K, mg, []⟩ 1 w__law_groups) :=
  ok_def (k := 0) (t := t__law_groups) T.F__law_groups sc__law_groups (fun cdv A outer s H E W hr hW tk =>
    (dss_cons (ds_setLcN (i := 1) (own := [("_law_k", 2)]) rfl sc__law_groups.nd rfl rfl (sw_true rfl rfl rfl (by decide +kernel)) (di_rng1 rfl T.z_range (da_cons (de_op or_add (de_callB (cr_maxG rfl hr.units) rfl T.z_max (by decide +kernel) (da_cons (de_name (pv 0)) da_nil)) de_int) da_nil)) (blkOk_by (N := ["_law_row", "_law_groups_here", "_law_k", "_law_group"]) (sc := defScope st__law_groups) (by decide +kernel)) (fun _ _ _ _ _ => (dg_name (i := 2) sc__law_groups.nd rfl (.inl rfl))) (fun _ _ _ _ _ => dts_nil) (fun _ _ _ _ _ => (df_lst da_nil)))
    (dss_cons (ds_for (vs := [2]) (passes_of rfl) rfl (di_rng1 rfl T.z_range (da_cons (de_callB cr_len rfl T.z_len (by decide +kernel) (da_cons (de_name (pv 0)) da_nil)) da_nil)) (dg_name (i := 2) sc__law_groups.nd rfl (.inl rfl))
    (dss_cons (ds_set (i := 3) sc__law_groups.nd rfl (.inl rfl) (de_ixP 1 (de_root (pv 1)) (de_ix ir_ix (de_name (pv 0)) (de_name (pv 2)) (fun _ _ => rfl)) (fun _ _ => rfl)))
    (dss_one (ds_appP 1 (de_name (pv 3)) (de_name (pv 2))))))
    (dss_one (ds_retO (i := 1) (pv 1)))))) (fun _ _ _ _ h => by unfold w__law_groups at h; exact h)
theorem sc_Sight_cells : FnScope ["self", "rows", "deal", "mark", "_"] ["self"] (defScope st_Sight_cells) := ⟨rfl, rfl, rfl, by decide +kernel, rfl, by decide +kernel, by decide +kernel⟩
def t_Sight_cells : TSd :=
  (sSeq (sSetF (fLc (iRng1 (aCons (eOp oAdd (eCB cMaxG (aCons (eAttr at_marks "marks" (eVar 0)) aNil)) (eC (.int 1))) aNil)) (gN 4) tYes (eTup aNil) [4]) 1)
  (sSeq (sFor (iRng1 (aCons (eAttr at_size "size" (eVar 0)) aNil)) (gN 2)
  (sSeq (sSet (eOp oIx (eAttr at_marks "marks" (eVar 0)) (eVar 2)) 3)
  (sSetIx 1 (eVar 3) (eTup (aStar (eIxO 1 (eVar 3)) (aCons (eVar 2) aNil))))))
  (sFrz 1 (sRet (eCB cTup (aCons (eVar 1) aNil))))))
@[irreducible] def w_Sight_cells : Spd := fun ds P Xp => t_Sight_cells { nx := fun _ => P .non, rt := P, ro := fun o => P o.d, xc := fun C fs _ => Xp C fs } (startD 5 ds)
theorem ok_Sight_cells {P : Program} {w : World} {K : PySem.W.Frag} {mg : Str → Option Value} {base : Heap} (T : Txt K mg) : FnOk P w K mg base (L2N.CX P w) 1 T.a_Sight_cells T.d_Sight_cells ["self"] (spL ⟨K, mg, []⟩ 1 w_Sight_cells) :=
  ok_def (k := 0) (t := t_Sight_cells) T.F_Sight_cells sc_Sight_cells (fun cdv A outer s H E W hr hW tk =>
    (dss_cons (ds_setLc (i := 1) (own := [("_", 4)]) rfl sc_Sight_cells.nd rfl rfl (sw_true rfl rfl rfl (by decide +kernel)) (di_rng1 rfl T.z_range (da_cons (de_op or_add (de_callB (cr_maxG rfl hr.units) rfl T.z_max (by decide +kernel) (da_cons (de_attr (de_name (pv 0)) (atok_marks T)) da_nil)) de_int) da_nil)) (blkOk_by (N := ["self", "rows", "deal", "mark", "_"]) (sc := defScope st_Sight_cells) (by decide +kernel)) (fun _ _ _ _ _ => (dg_name (i := 4) sc_Sight_cells.nd rfl (.inl rfl))) (fun _ _ _ _ _ => dts_nil) (fun _ _ _ _ _ => (de_tup da_nil)))
    (dss_cons (ds_for (vs := [2]) (passes_of rfl) rfl (di_rng1 rfl T.z_range (da_cons (de_attr (de_name (pv 0)) (atok_size T)) da_nil)) (dg_name (i := 2) sc_Sight_cells.nd rfl (.inl rfl))
    (dss_cons (ds_set (i := 3) sc_Sight_cells.nd rfl (.inl rfl) (de_ix ir_ix (de_attr (de_name (pv 0)) (atok_marks T)) (de_name (pv 2)) (fun _ _ => rfl)))
    (dss_one (ds_setIx (i := 1) (pv 1) (de_name (pv 3)) (de_tup (da_star (de_ixO (i := 1) (pv 1) (de_name (pv 3)) (fun _ _ => rfl)) (da_cons (de_name (pv 2)) da_nil)))))))
    (dss_one (ds_frz 1 (ds_ret (de_callTy cr_tup rfl T.z_tuple (by decide +kernel) (da_cons (de_name (pv 1)) da_nil)))))))) (fun _ _ _ _ h => by unfold w_Sight_cells at h; exact h)
def at_cells : AT := fun t => if t = .c "Sight" then some (some w_Sight_cells) else none
theorem atok_cells {X : Cx} (T : Txt X.K X.mg) (hr : Room 2 X.A) (hg : gd X = ⟨X.K, X.mg, []⟩ := by rfl) : AtOk X "cells" at_cells where
  c := fun n h => by
    unfold at_cells at h
    split at h
    · rename_i e
      first | (cases e; done) | (cases h; done) | (cases e; cases h)
    · cases h
  e := fun n h => by
    unfold at_cells at h
    split at h
    · rename_i e
      first | (cases e; done) | (cases h; done) | (cases e; cases h)
    · cases h
  p := fun t sp h => by
    unfold at_cells at h
    split at h
    · rename_i e
      cases e
      cases h
      exact ⟨_, rfl, ⟨⟨T.c_Sight, T.q_Sight_cells, T.a_Sight_cells, T.d_Sight_cells, ["self"], 1, T.g_Sight, T.cl_Sight, T.pr_Sight_cells, by rw [hg]; exact ok_Sight_cells T, hr.mono (by decide), T.b_Sight_cells⟩⟩⟩
    · cases h
  b := fun n => by
    unfold at_cells
    repeat (first | rfl | (split; (rename_i e; cases e)))
theorem sc__law_whole : FnScope ["_law_value"] ["_law_value"] (defScope st__law_whole) := ⟨rfl, rfl, rfl, by decide +kernel, rfl, by decide +kernel, by decide +kernel⟩
def t__law_whole : TSd :=
  (sRet (eAnd (eCB (cIsiG tab) (aCons (eVar 0) (aCons (eC (.ty "int")) aNil))) (eNot (eCB (cIsiG tab) (aCons (eVar 0) (aCons (eC (.ty "bool")) aNil))))))
@[irreducible] def w__law_whole : Spd := fun ds P Xp => t__law_whole { nx := fun _ => P .non, rt := P, ro := fun o => P o.d, xc := fun C fs _ => Xp C fs } (startD 1 ds)
theorem ok__law_whole {P : Program} {w : World} {K : PySem.W.Frag} {mg : Str → Option Value} {base : Heap} (T : Txt K mg) : FnOk P w K mg base (L2N.CX P w) 1 T.a__law_whole T.d__law_whole ["_law_value"] (spL ⟨K, mg, []⟩ 1 w__law_whole) :=
  ok_def (k := 0) (t := t__law_whole) T.F__law_whole sc__law_whole (fun cdv A outer s H E W hr hW tk =>
    (dss_one (ds_ret (de_and (de_callB (cr_isiG (T.tab _)) rfl T.z_isinstance (by decide +kernel) (da_cons (de_name (pv 0)) (da_cons (de_ty rfl T.z_int (by decide +kernel)) da_nil))) (de_one (de_not (de_callB (cr_isiG (T.tab _)) rfl T.z_isinstance (by decide +kernel) (da_cons (de_name (pv 0)) (da_cons (de_ty rfl T.z_bool (by decide +kernel)) da_nil))))))))) (fun _ _ _ _ h => by unfold w__law_whole at h; exact h)
theorem okh__law_whole {P : Program} {w : World} {K : PySem.W.Frag} {mg : Str → Option Value} {base : Heap} (T : Txt K mg) : FnHp P w K mg base (L2N.CX P w) 1 T.a__law_whole T.d__law_whole ["_law_value"] (spLp K mg 1 w__law_whole) :=
  ok_defHp (k := 0) (t := t__law_whole) T.F__law_whole sc__law_whole (fun cdv A outer s H E W p hot hr hW tk =>
    (dss_one (ds_ret (de_and (de_callB (cr_isiG (T.tab _)) rfl T.z_isinstance (by decide +kernel) (da_cons (de_name (pv 0)) (da_cons (de_ty rfl T.z_int (by decide +kernel)) da_nil))) (de_one (de_not (de_callB (cr_isiG (T.tab _)) rfl T.z_isinstance (by decide +kernel) (da_cons (de_name (pv 0)) (da_cons (de_ty rfl T.z_bool (by decide +kernel)) da_nil))))))))) (fun _ _ _ _ h => by unfold w__law_whole at h; exact h)
theorem sc__law_numbers : FnScope ["_law_actual", "_law_due", "_law_k"] ["_law_actual", "_law_due"] (defScope st__law_numbers) := ⟨rfl, rfl, rfl, by decide +kernel, rfl, by decide +kernel, by decide +kernel⟩
def t__law_numbers : TSd :=
  (sSeq (sIf (tOr (tNot (tTr (eCB (cIsiG tab) (aCons (eVar 0) (aCons (eC (.ty "tuple")) aNil))))) (tBl (eOp oNe (eCB cLen (aCons (eVar 0) aNil)) (eCB cLen (aCons (eVar 1) aNil)))))
  (sRet (eC (.bl false)))
  sNext)
  (sSeq (sFor (iRng1 (aCons (eCB cLen (aCons (eVar 1) aNil)) aNil)) (gN 2)
  (sIf (tOr (tNot (tTr (eCall 1 w__law_whole (aCons (eOp oIx (eVar 0) (eVar 2)) aNil)))) (tBl (eOp oNe (eOp oIx (eVar 0) (eVar 2)) (eOp oIx (eVar 1) (eVar 2)))))
  (sRet (eC (.bl false)))
  sNext))
  (sRet (eC (.bl true)))))
@[irreducible] def w__law_numbers : Spd := fun ds P Xp => t__law_numbers { nx := fun _ => P .non, rt := P, ro := fun o => P o.d, xc := fun C fs _ => Xp C fs } (startD 3 ds)
theorem ok__law_numbers {P : Program} {w : World} {K : PySem.W.Frag} {mg : Str → Option Value} {base : Heap} (T : Txt K mg) : FnOk P w K mg base (L2N.CX P w) 2 T.a__law_numbers T.d__law_numbers ["_law_actual", "_law_due"] (spL ⟨K, mg, []⟩ 2 w__law_numbers) :=
  ok_def (k := 1) (t := t__law_numbers) T.F__law_numbers sc__law_numbers (fun cdv A outer s H E W hr hW tk =>
    (dss_cons (ds_if (dt_w (dw_or (dt_not (dt_tr (de_callB (cr_isiG (T.tab _)) rfl T.z_isinstance (by decide +kernel) (da_cons (de_name (pv 0)) (da_cons (de_ty rfl T.z_tuple (by decide +kernel)) da_nil))))) (dw_or1 (dt_cmp (or_ne hr.units) (de_callB cr_len rfl T.z_len (by decide +kernel) (da_cons (de_name (pv 0)) da_nil)) (de_callB cr_len rfl T.z_len (by decide +kernel) (da_cons (de_name (pv 1)) da_nil)) (nomark _)))))
    (dss_one (ds_ret de_bl))
    dss_nil)
    (dss_cons (ds_for (vs := [2]) (passes_of rfl) rfl (di_rng1 rfl T.z_range (da_cons (de_callB cr_len rfl T.z_len (by decide +kernel) (da_cons (de_name (pv 1)) da_nil)) da_nil)) (dg_name (i := 2) sc__law_numbers.nd rfl (.inl rfl))
    (dss_one (ds_if (dt_w (dw_or (dt_not (dt_tr (de_call (ok__law_whole T) (hr.mono (by decide)) rfl T.g__law_whole T.F__law_whole.kp T.b__law_whole tk (da_cons (de_ix ir_ix (de_name (pv 0)) (de_name (pv 2)) (fun _ _ => rfl)) da_nil)))) (dw_or1 (dt_cmp (or_ne hr.units) (de_ix ir_ix (de_name (pv 0)) (de_name (pv 2)) (fun _ _ => rfl)) (de_ix ir_ix (de_name (pv 1)) (de_name (pv 2)) (fun _ _ => rfl)) (nomark _)))))
    (dss_one (ds_ret de_bl))
    dss_nil)))
    (dss_one (ds_ret de_bl))))) (fun _ _ _ _ h => by unfold w__law_numbers at h; exact h)
theorem sc__law_agrees : FnScope ["_law_actual", "_law_row", "_law_groups_here", "_law_parts", "_law_k"] ["_law_actual", "_law_row"] (defScope st__law_agrees) := ⟨rfl, rfl, rfl, by decide +kernel, rfl, by decide +kernel, by decide +kernel⟩
def t__law_agrees : TSd :=
  (sSeq (sIf (tOr (tNot (tTr (eCB (cIsiG tab) (aCons (eVar 0) (aCons (eC (.gl "Sight")) aNil))))) (tOr (tNot (tTr (eCall 1 w__law_whole (aCons (eAttr at_size "size" (eVar 0)) aNil)))) (tBl (eOp oNe (eAttr at_size "size" (eVar 0)) (eCB cLen (aCons (eVar 1) aNil))))))
  (sRet (eC (.bl false)))
  sNext)
  (sSeq (sSet (eCall 1 w__law_groups (aCons (eVar 1) aNil)) 2)
  (sSeq (sSet (eAttr at_cells "cells" (eVar 0)) 3)
  (sSeq (sIf (tOr (tNot (tTr (eCall 2 w__law_numbers (aCons (eAttr at_marks "marks" (eVar 0)) (aCons (eVar 1) aNil))))) (tOr (tNot (tTr (eCB (cIsiG tab) (aCons (eVar 3) (aCons (eC (.ty "tuple")) aNil))))) (tBl (eOp oNe (eCB cLen (aCons (eVar 3) aNil)) (eCB cLen (aCons (eVar 2) aNil))))))
  (sRet (eC (.bl false)))
  sNext)
  (sSeq (sFor (iRng1 (aCons (eCB cLen (aCons (eVar 2) aNil)) aNil)) (gN 4)
  (sIf (tNot (tTr (eCall 2 w__law_numbers (aCons (eOp oIx (eVar 3) (eVar 4)) (aCons (eOp oIx (eVar 2) (eVar 4)) aNil)))))
  (sRet (eC (.bl false)))
  sNext))
  (sRet (eC (.bl true))))))))
@[irreducible] def w__law_agrees : Spd := fun ds P Xp => t__law_agrees { nx := fun _ => P .non, rt := P, ro := fun o => P o.d, xc := fun C fs _ => Xp C fs } (startD 5 ds)
theorem ok__law_agrees {P : Program} {w : World} {K : PySem.W.Frag} {mg : Str → Option Value} {base : Heap} (T : Txt K mg) : FnOk P w K mg base (L2N.CX P w) 3 T.a__law_agrees T.d__law_agrees ["_law_actual", "_law_row"] (spL ⟨K, mg, []⟩ 2 w__law_agrees) :=
  ok_def (k := 2) (t := t__law_agrees) T.F__law_agrees sc__law_agrees (fun cdv A outer s H E W hr hW tk =>
    (dss_cons (ds_if (dt_w (dw_or (dt_not (dt_tr (de_callB (cr_isiG (T.tab _)) rfl T.z_isinstance (by decide +kernel) (da_cons (de_name (pv 0)) (da_cons (de_gl rfl T.g_Sight) da_nil))))) (dw_or (dt_not (dt_tr (de_call (ok__law_whole T) (hr.mono (by decide)) rfl T.g__law_whole T.F__law_whole.kp T.b__law_whole tk (da_cons (de_attr (de_name (pv 0)) (atok_size T)) da_nil)))) (dw_or1 (dt_cmp (or_ne hr.units) (de_attr (de_name (pv 0)) (atok_size T)) (de_callB cr_len rfl T.z_len (by decide +kernel) (da_cons (de_name (pv 1)) da_nil)) (nomark _))))))
    (dss_one (ds_ret de_bl))
    dss_nil)
    (dss_cons (ds_set (i := 2) sc__law_agrees.nd rfl (.inl rfl) (de_call (ok__law_groups T) (hr.mono (by decide)) rfl T.g__law_groups T.F__law_groups.kp T.b__law_groups tk (da_cons (de_name (pv 1)) da_nil)))
    (dss_cons (ds_set (i := 3) sc__law_agrees.nd rfl (.inl rfl) (de_attr (de_name (pv 0)) (atok_cells T (hr.mono (by decide)))))
    (dss_cons (ds_if (dt_w (dw_or (dt_not (dt_tr (de_call (ok__law_numbers T) (hr.mono (by decide)) rfl T.g__law_numbers T.F__law_numbers.kp T.b__law_numbers tk (da_cons (de_attr (de_name (pv 0)) (atok_marks T)) (da_cons (de_name (pv 1)) da_nil))))) (dw_or (dt_not (dt_tr (de_callB (cr_isiG (T.tab _)) rfl T.z_isinstance (by decide +kernel) (da_cons (de_name (pv 3)) (da_cons (de_ty rfl T.z_tuple (by decide +kernel)) da_nil))))) (dw_or1 (dt_cmp (or_ne hr.units) (de_callB cr_len rfl T.z_len (by decide +kernel) (da_cons (de_name (pv 3)) da_nil)) (de_callB cr_len rfl T.z_len (by decide +kernel) (da_cons (de_name (pv 2)) da_nil)) (nomark _))))))
    (dss_one (ds_ret de_bl))
    dss_nil)
    (dss_cons (ds_for (vs := [4]) (passes_of rfl) rfl (di_rng1 rfl T.z_range (da_cons (de_callB cr_len rfl T.z_len (by decide +kernel) (da_cons (de_name (pv 2)) da_nil)) da_nil)) (dg_name (i := 4) sc__law_agrees.nd rfl (.inl rfl))
    (dss_one (ds_if (dt_not (dt_tr (de_call (ok__law_numbers T) (hr.mono (by decide)) rfl T.g__law_numbers T.F__law_numbers.kp T.b__law_numbers tk (da_cons (de_ix ir_ix (de_name (pv 3)) (de_name (pv 4)) (fun _ _ => rfl)) (da_cons (de_ix ir_ix (de_name (pv 2)) (de_name (pv 4)) (fun _ _ => rfl)) da_nil)))))
    (dss_one (ds_ret de_bl))
    dss_nil)))
    (dss_one (ds_ret de_bl)))))))) (fun _ _ _ _ h => by unfold w__law_agrees at h; exact h)
theorem sc_restricted : FnScope ["sight", "deals", "deal"] ["sight", "deals"] (defScope st_restricted) := ⟨rfl, rfl, rfl, by decide +kernel, rfl, by decide +kernel, by decide +kernel⟩
def t_restricted : TSd :=
  (sRet (eMake "Sight" 2 w_Sight___init__ (aCons (eF (fLc (iSeq (eVar 1)) (gN 2) tYes (eOp oIx (eAttr at_marks "marks" (eVar 0)) (eVar 2)) [2])) aNil)))
@[irreducible] def w_restricted : Spd := fun ds P Xp => t_restricted { nx := fun _ => P .non, rt := P, ro := fun o => P o.d, xc := fun C fs _ => Xp C fs } (startD 3 ds)
theorem ok_restricted {P : Program} {w : World} {K : PySem.W.Frag} {mg : Str → Option Value} {base : Heap} (T : Txt K mg) : FnOk P w K mg base (L2N.CX P w) 6 T.a_restricted T.d_restricted ["sight", "deals"] (spL ⟨K, mg, []⟩ 2 w_restricted) :=
  ok_def (k := 5) (t := t_restricted) T.F_restricted sc_restricted (fun cdv A outer s H E W hr hW tk =>
    (dss_one (ds_ret (de_make T.mk_Sight (ok_Sight___init__ T) (hr.mono (by decide)) rfl T.g_Sight T.b_Sight___init__ tk (da_cons (de_f (df_lc (own := [("deal", 2)]) rfl sc_restricted.nd (di_seq (de_name (pv 1))) (blkOk_by (N := ["sight", "deals", "deal"]) (sc := defScope st_restricted) (by decide +kernel)) (fun _ _ _ _ _ => (dg_name (i := 2) sc_restricted.nd rfl (.inl rfl))) (fun _ _ _ _ _ => dts_nil) (fun _ _ _ _ _ => (de_ix ir_ix (de_attr (de_name (pv 0)) (atok_marks T)) (de_name (pv 2)) (fun _ _ => rfl))))) da_nil))))) (fun _ _ _ _ h => by unfold w_restricted at h; exact h)
theorem sc__law_partb : FnScope ["_law_script", "_law_rows", "_law_first", "_law_second", "_law_low", "_law_one", "_law_two", "_law_deals_here", "_law_given", "_law_due", "_law_pairs", "_law_turned", "_law_mark", "_law_both", "_law_j", "_law_i", "_law_deal", "_law_other", "_law_k"] ["_law_script"] (defScope st__law_partb) := ⟨rfl, rfl, rfl, by decide +kernel, rfl, by decide +kernel, by decide +kernel⟩
def t__law_partb : TSd :=
  (sSeq (sSet (eF (fCall 1 w__law_draw_x (aCons (eVar 0) aNil))) 1)
  (sSeq (sSet (eF (fCall 1 w__law_marks (aCons (eOp oIx (eVar 1) (eC (.int 0))) aNil))) 2)
  (sSeq (sSet (eF (fCall 1 w__law_marks (aCons (eOp oIx (eVar 1) (eC (.int 1))) aNil))) 3)
  (sSeq (sSet (eCall 2 w__law_cell (aCons (eVar 0) (aCons (eC (.int 6)) aNil))) 4)
  (sSeq (sSet (eMake "Sight" 2 w_Sight___init__ (aCons (eF (fLc (iSeq (eOp oIx (eVar 1) (eC (.int 0)))) (gN 12) tYes (eOp oAdd (eVar 4) (eVar 12)) [12])) aNil)) 5)
  (sSeq (sSet (eMake "Sight" 2 w_Sight___init__ (aCons (eCB cTup (aCons (eF (fLc (iSeq (eOp oIx (eVar 1) (eC (.int 1)))) (gN 12) tYes (eOp oSub (eVar 12) (eVar 4)) [12])) aNil)) aNil)) 6)
  (sSeq (sSet (eCall 2 w__law_deals (aCons (eVar 0) (aCons (eCB cLen (aCons (eVar 2) aNil)) aNil))) 7)
  (sSeq (sSet (eF (fCB cLst (aCons (eVar 7) aNil))) 8)
  (sSeq (sSet (eF (fCall 1 w__law_marks (aCons (eF (fLc (iSeq (eVar 7)) (gN 16) tYes (eOp oIx (eVar 2) (eVar 16)) [16])) aNil))) 9)
  (sSeq (sIf (tOr (tNot (tTr (eCall 2 w__law_agrees (aCons (eCall 2 w_restricted (aCons (eVar 5) (aCons (eVar 8) aNil))) (aCons (eVar 9) aNil))))) (tNot (tTr (eCall 2 w__law_agrees (aCons (eCall 2 w_restricted (aCons (eVar 5) (aCons (eCB cTup (aCons (eVar 7) aNil)) aNil))) (aCons (eVar 9) aNil))))))
  (sRet (eC (.bl false)))
  sNext)
  (sSeq (sSet (eF (fLst aNil)) 10)
  (sSeq (sSet (eF (fLst aNil)) 11)
  (sSeq (sFor (iSeq (eVar 2)) (gN 12)
  (sSet (eOp oAdd (eVar 10) (eF (fLc (iSeq (eVar 3)) (gN 17) tYes (eTup (aCons (eVar 12) (aCons (eVar 17) aNil))) [17]))) 10))
  (sSeq (sFor (iSeq (eVar 3)) (gN 12)
  (sSet (eOp oAdd (eVar 11) (eF (fLc (iSeq (eVar 2)) (gN 17) tYes (eTup (aCons (eVar 12) (aCons (eVar 17) aNil))) [17]))) 11))
  (sSeq (sSet (eCall 2 w_crossed (aCons (eVar 5) (aCons (eVar 6) aNil))) 13)
  (sSeq (sIf (tOr (tNot (tTr (eCall 2 w__law_agrees (aCons (eVar 13) (aCons (eF (fCall 1 w__law_marks (aCons (eVar 10) aNil))) aNil))))) (tNot (tTr (eCall 2 w__law_agrees (aCons (eCall 2 w_crossed (aCons (eVar 6) (aCons (eVar 5) aNil))) (aCons (eF (fCall 1 w__law_marks (aCons (eVar 11) aNil))) aNil))))))
  (sRet (eC (.bl false)))
  sNext)
  (sSeq (sSet (eOp oMod (eCB cInt (aCons (eCall 2 w__law_cell (aCons (eVar 0) (aCons (eC (.int 4)) aNil))) aNil)) (eCB cLen (aCons (eVar 3) aNil))) 14)
  (sSeq (sSet (eOp oMod (eCB cInt (aCons (eCall 2 w__law_cell (aCons (eVar 0) (aCons (eC (.int 5)) aNil))) aNil)) (eCB cLen (aCons (eVar 2) aNil))) 15)
  (sSeq (sIf (tNot (tTr (eCall 2 w__law_agrees (aCons (eCall 2 w_restricted (aCons (eVar 13) (aCons (eF (fLc (iRng1 (aCons (eCB cLen (aCons (eVar 2) aNil)) aNil)) (gN 18) tYes (eOp oAdd (eOp oMul (eVar 18) (eCB cLen (aCons (eVar 3) aNil))) (eVar 14)) [18])) aNil))) (aCons (eVar 2) aNil)))))
  (sRet (eC (.bl false)))
  sNext)
  (sSeq (sIf (tNot (tTr (eCall 2 w__law_agrees (aCons (eCall 2 w_restricted (aCons (eVar 13) (aCons (eF (fLc (iRng1 (aCons (eCB cLen (aCons (eVar 3) aNil)) aNil)) (gN 18) tYes (eOp oAdd (eOp oMul (eVar 15) (eCB cLen (aCons (eVar 3) aNil))) (eVar 18)) [18])) aNil))) (aCons (eVar 3) aNil)))))
  (sRet (eC (.bl false)))
  sNext)
  (sSeq (sIf (tOr (tNot (tTr (eCall 2 w__law_agrees (aCons (eCall 2 w_restricted (aCons (eVar 5) (aCons (eF (fLc (iRng1 (aCons (eCB cLen (aCons (eVar 2) aNil)) aNil)) (gN 18) tYes (eVar 18) [18])) aNil))) (aCons (eVar 2) aNil))))) (tBl (eOp oNe (eVar 8) (eVar 7))))
  (sRet (eC (.bl false)))
  sNext)
  (sSeq (sIf (tOr (tNot (tTr (eCall 2 w__law_agrees (aCons (eCall 2 w_restricted (aCons (eVar 5) (aCons (eVar 8) aNil))) (aCons (eVar 9) aNil))))) (tNot (tTr (eCall 2 w__law_agrees (aCons (eVar 13) (aCons (eF (fCall 1 w__law_marks (aCons (eVar 10) aNil))) aNil))))))
  (sRet (eC (.bl false)))
  sNext)
  (sRet (eAnd (eCall 2 w__law_agrees (aCons (eVar 5) (aCons (eVar 2) aNil))) (eCall 2 w__law_agrees (aCons (eVar 6) (aCons (eVar 3) aNil)))))))))))))))))))))))))))
@[irreducible] def w__law_partb : Spd := fun ds P Xp => t__law_partb { nx := fun _ => P .non, rt := P, ro := fun o => P o.d, xc := fun C fs _ => Xp C fs } (startD 19 ds)
theorem ok__law_partb {P : Program} {w : World} {K : PySem.W.Frag} {mg : Str → Option Value} {base : Heap} (T : Txt K mg) : FnOk P w K mg base (L2N.CX P w) 7 T.a__law_partb T.d__law_partb ["_law_script"] (spL ⟨K, mg, []⟩ 1 w__law_partb) :=
  ok_def (k := 6) (t := t__law_partb) T.F__law_partb sc__law_partb (fun cdv A outer s H E W hr hW tk =>
    (dss_cons (ds_set (i := 1) sc__law_partb.nd rfl (.inl rfl) (de_f (df_call (ok__law_draw_x T) (hr.mono (by decide)) rfl T.g__law_draw_x T.F__law_draw_x.kp T.b__law_draw_x tk (da_cons (de_name (pv 0)) da_nil))))
    (dss_cons (ds_set (i := 2) sc__law_partb.nd rfl (.inr rfl) (de_f (df_call (ok__law_marks T) (hr.mono (by decide)) rfl T.g__law_marks T.F__law_marks.kp T.b__law_marks tk (da_cons (de_ix ir_ix (de_name (pv 1)) de_int (fun _ _ => rfl)) da_nil))))
    (dss_cons (ds_set (i := 3) sc__law_partb.nd rfl (.inr rfl) (de_f (df_call (ok__law_marks T) (hr.mono (by decide)) rfl T.g__law_marks T.F__law_marks.kp T.b__law_marks tk (da_cons (de_ix ir_ix (de_name (pv 1)) de_int (fun _ _ => rfl)) da_nil))))
    (dss_cons (ds_set (i := 4) sc__law_partb.nd rfl (.inr rfl) (de_call (ok__law_cell T) (hr.mono (by decide)) rfl T.g__law_cell T.F__law_cell.kp T.b__law_cell tk (da_cons (de_name (pv 0)) (da_cons de_int da_nil))))
    (dss_cons (ds_set (i := 5) sc__law_partb.nd rfl (.inl rfl) (de_make T.mk_Sight (ok_Sight___init__ T) (hr.mono (by decide)) rfl T.g_Sight T.b_Sight___init__ tk (da_cons (de_f (df_lc (own := [("_law_mark", 12)]) rfl sc__law_partb.nd (di_seq (de_ix ir_ix (de_name (pv 1)) de_int (fun _ _ => rfl))) (blkOk_by (N := ["_law_script", "_law_rows", "_law_first", "_law_second", "_law_low", "_law_one", "_law_two", "_law_deals_here", "_law_given", "_law_due", "_law_pairs", "_law_turned", "_law_mark", "_law_both", "_law_j", "_law_i", "_law_deal", "_law_other", "_law_k"]) (sc := defScope st__law_partb) (by decide +kernel)) (fun _ _ _ _ _ => (dg_name (i := 12) sc__law_partb.nd rfl (.inl rfl))) (fun _ _ _ _ _ => dts_nil) (fun _ _ _ _ _ => (de_op or_add (de_name (pv 4)) (de_name (pv 12)))))) da_nil)))
    (dss_cons (ds_set (i := 6) sc__law_partb.nd rfl (.inl rfl) (de_make T.mk_Sight (ok_Sight___init__ T) (hr.mono (by decide)) rfl T.g_Sight T.b_Sight___init__ tk (da_cons (de_callTy cr_tup rfl T.z_tuple (by decide +kernel) (da_cons (de_f (df_lc (own := [("_law_mark", 12)]) rfl sc__law_partb.nd (di_seq (de_ix ir_ix (de_name (pv 1)) de_int (fun _ _ => rfl))) (blkOk_by (N := ["_law_script", "_law_rows", "_law_first", "_law_second", "_law_low", "_law_one", "_law_two", "_law_deals_here", "_law_given", "_law_due", "_law_pairs", "_law_turned", "_law_mark", "_law_both", "_law_j", "_law_i", "_law_deal", "_law_other", "_law_k"]) (sc := defScope st__law_partb) (by decide +kernel)) (fun _ _ _ _ _ => (dg_name (i := 12) sc__law_partb.nd rfl (.inl rfl))) (fun _ _ _ _ _ => dts_nil) (fun _ _ _ _ _ => (de_op or_sub (de_name (pv 12)) (de_name (pv 4)))))) da_nil)) da_nil)))
    (dss_cons (ds_set (i := 7) sc__law_partb.nd rfl (.inl rfl) (de_call (ok__law_deals T) (hr.mono (by decide)) rfl T.g__law_deals T.F__law_deals.kp T.b__law_deals tk (da_cons (de_name (pv 0)) (da_cons (de_callB cr_len rfl T.z_len (by decide +kernel) (da_cons (de_name (pv 2)) da_nil)) da_nil))))
    (dss_cons (ds_set (i := 8) sc__law_partb.nd rfl (.inl rfl) (de_f (df_callTy cr_lst rfl T.z_list (by decide +kernel) (da_cons (de_name (pv 7)) da_nil))))
    (dss_cons (ds_set (i := 9) sc__law_partb.nd rfl (.inl rfl) (de_f (df_call (ok__law_marks T) (hr.mono (by decide)) rfl T.g__law_marks T.F__law_marks.kp T.b__law_marks tk (da_cons (de_f (df_lc (own := [("_law_deal", 16)]) rfl sc__law_partb.nd (di_seq (de_name (pv 7))) (blkOk_by (N := ["_law_script", "_law_rows", "_law_first", "_law_second", "_law_low", "_law_one", "_law_two", "_law_deals_here", "_law_given", "_law_due", "_law_pairs", "_law_turned", "_law_mark", "_law_both", "_law_j", "_law_i", "_law_deal", "_law_other", "_law_k"]) (sc := defScope st__law_partb) (by decide +kernel)) (fun _ _ _ _ _ => (dg_name (i := 16) sc__law_partb.nd rfl (.inl rfl))) (fun _ _ _ _ _ => dts_nil) (fun _ _ _ _ _ => (de_ix ir_ix (de_name (pv 2)) (de_name (pv 16)) (fun _ _ => rfl))))) da_nil))))
    (dss_cons (ds_if (dt_w (dw_or (dt_not (dt_tr (de_call (ok__law_agrees T) (hr.mono (by decide)) rfl T.g__law_agrees T.F__law_agrees.kp T.b__law_agrees tk (da_cons (de_call (ok_restricted T) (hr.mono (by decide)) rfl T.g_restricted T.F_restricted.kp T.b_restricted tk (da_cons (de_name (pv 5)) (da_cons (de_name (pv 8)) da_nil))) (da_cons (de_name (pv 9)) da_nil))))) (dw_or1 (dt_not (dt_tr (de_call (ok__law_agrees T) (hr.mono (by decide)) rfl T.g__law_agrees T.F__law_agrees.kp T.b__law_agrees tk (da_cons (de_call (ok_restricted T) (hr.mono (by decide)) rfl T.g_restricted T.F_restricted.kp T.b_restricted tk (da_cons (de_name (pv 5)) (da_cons (de_callTy cr_tup rfl T.z_tuple (by decide +kernel) (da_cons (de_name (pv 7)) da_nil)) da_nil))) (da_cons (de_name (pv 9)) da_nil))))))))
    (dss_one (ds_ret de_bl))
    dss_nil)
    (dss_cons (ds_set (i := 10) sc__law_partb.nd rfl (.inl rfl) (de_f (df_lst da_nil)))
    (dss_cons (ds_set (i := 11) sc__law_partb.nd rfl (.inl rfl) (de_f (df_lst da_nil)))
    (dss_cons (ds_for (vs := [12]) (passes_of rfl) rfl (di_seq (de_name (pv 2))) (dg_name (i := 12) sc__law_partb.nd rfl (.inr rfl))
    (dss_one (ds_set (i := 10) sc__law_partb.nd rfl (.inl rfl) (de_op or_add (de_name (pv 10)) (de_f (df_lc (own := [("_law_other", 17)]) rfl sc__law_partb.nd (di_seq (de_name (pv 3))) (blkOk_by (N := ["_law_script", "_law_rows", "_law_first", "_law_second", "_law_low", "_law_one", "_law_two", "_law_deals_here", "_law_given", "_law_due", "_law_pairs", "_law_turned", "_law_mark", "_law_both", "_law_j", "_law_i", "_law_deal", "_law_other", "_law_k"]) (sc := defScope st__law_partb) (by decide +kernel)) (fun _ _ _ _ _ => (dg_name (i := 17) sc__law_partb.nd rfl (.inl rfl))) (fun _ _ _ _ _ => dts_nil) (fun _ _ _ _ _ => (de_tup (da_cons (de_name (pv 12)) (da_cons (de_name (pv 17)) da_nil))))))))))
    (dss_cons (ds_for (vs := [12]) (passes_of rfl) rfl (di_seq (de_name (pv 3))) (dg_name (i := 12) sc__law_partb.nd rfl (.inr rfl))
    (dss_one (ds_set (i := 11) sc__law_partb.nd rfl (.inl rfl) (de_op or_add (de_name (pv 11)) (de_f (df_lc (own := [("_law_other", 17)]) rfl sc__law_partb.nd (di_seq (de_name (pv 2))) (blkOk_by (N := ["_law_script", "_law_rows", "_law_first", "_law_second", "_law_low", "_law_one", "_law_two", "_law_deals_here", "_law_given", "_law_due", "_law_pairs", "_law_turned", "_law_mark", "_law_both", "_law_j", "_law_i", "_law_deal", "_law_other", "_law_k"]) (sc := defScope st__law_partb) (by decide +kernel)) (fun _ _ _ _ _ => (dg_name (i := 17) sc__law_partb.nd rfl (.inl rfl))) (fun _ _ _ _ _ => dts_nil) (fun _ _ _ _ _ => (de_tup (da_cons (de_name (pv 12)) (da_cons (de_name (pv 17)) da_nil))))))))))
    (dss_cons (ds_set (i := 13) sc__law_partb.nd rfl (.inl rfl) (de_call (ok_crossed T) (hr.mono (by decide)) rfl T.g_crossed T.F_crossed.kp T.b_crossed tk (da_cons (de_name (pv 5)) (da_cons (de_name (pv 6)) da_nil))))
    (dss_cons (ds_if (dt_w (dw_or (dt_not (dt_tr (de_call (ok__law_agrees T) (hr.mono (by decide)) rfl T.g__law_agrees T.F__law_agrees.kp T.b__law_agrees tk (da_cons (de_name (pv 13)) (da_cons (de_f (df_call (ok__law_marks T) (hr.mono (by decide)) rfl T.g__law_marks T.F__law_marks.kp T.b__law_marks tk (da_cons (de_name (pv 10)) da_nil))) da_nil))))) (dw_or1 (dt_not (dt_tr (de_call (ok__law_agrees T) (hr.mono (by decide)) rfl T.g__law_agrees T.F__law_agrees.kp T.b__law_agrees tk (da_cons (de_call (ok_crossed T) (hr.mono (by decide)) rfl T.g_crossed T.F_crossed.kp T.b_crossed tk (da_cons (de_name (pv 6)) (da_cons (de_name (pv 5)) da_nil))) (da_cons (de_f (df_call (ok__law_marks T) (hr.mono (by decide)) rfl T.g__law_marks T.F__law_marks.kp T.b__law_marks tk (da_cons (de_name (pv 11)) da_nil))) da_nil))))))))
    (dss_one (ds_ret de_bl))
    dss_nil)
    (dss_cons (ds_set (i := 14) sc__law_partb.nd rfl (.inr rfl) (de_op or_mod (de_callTy cr_int rfl T.z_int (by decide +kernel) (da_cons (de_call (ok__law_cell T) (hr.mono (by decide)) rfl T.g__law_cell T.F__law_cell.kp T.b__law_cell tk (da_cons (de_name (pv 0)) (da_cons de_int da_nil))) da_nil)) (de_callB cr_len rfl T.z_len (by decide +kernel) (da_cons (de_name (pv 3)) da_nil))))
    (dss_cons (ds_set (i := 15) sc__law_partb.nd rfl (.inr rfl) (de_op or_mod (de_callTy cr_int rfl T.z_int (by decide +kernel) (da_cons (de_call (ok__law_cell T) (hr.mono (by decide)) rfl T.g__law_cell T.F__law_cell.kp T.b__law_cell tk (da_cons (de_name (pv 0)) (da_cons de_int da_nil))) da_nil)) (de_callB cr_len rfl T.z_len (by decide +kernel) (da_cons (de_name (pv 2)) da_nil))))
    (dss_cons (ds_if (dt_not (dt_tr (de_call (ok__law_agrees T) (hr.mono (by decide)) rfl T.g__law_agrees T.F__law_agrees.kp T.b__law_agrees tk (da_cons (de_call (ok_restricted T) (hr.mono (by decide)) rfl T.g_restricted T.F_restricted.kp T.b_restricted tk (da_cons (de_name (pv 13)) (da_cons (de_f (df_lc (own := [("_law_k", 18)]) rfl sc__law_partb.nd (di_rng1 rfl T.z_range (da_cons (de_callB cr_len rfl T.z_len (by decide +kernel) (da_cons (de_name (pv 2)) da_nil)) da_nil)) (blkOk_by (N := ["_law_script", "_law_rows", "_law_first", "_law_second", "_law_low", "_law_one", "_law_two", "_law_deals_here", "_law_given", "_law_due", "_law_pairs", "_law_turned", "_law_mark", "_law_both", "_law_j", "_law_i", "_law_deal", "_law_other", "_law_k"]) (sc := defScope st__law_partb) (by decide +kernel)) (fun _ _ _ _ _ => (dg_name (i := 18) sc__law_partb.nd rfl (.inl rfl))) (fun _ _ _ _ _ => dts_nil) (fun _ _ _ _ _ => (de_op or_add (de_op or_mul (de_name (pv 18)) (de_callB cr_len rfl T.z_len (by decide +kernel) (da_cons (de_name (pv 3)) da_nil))) (de_name (pv 14)))))) da_nil))) (da_cons (de_name (pv 2)) da_nil)))))
    (dss_one (ds_ret de_bl))
    dss_nil)
    (dss_cons (ds_if (dt_not (dt_tr (de_call (ok__law_agrees T) (hr.mono (by decide)) rfl T.g__law_agrees T.F__law_agrees.kp T.b__law_agrees tk (da_cons (de_call (ok_restricted T) (hr.mono (by decide)) rfl T.g_restricted T.F_restricted.kp T.b_restricted tk (da_cons (de_name (pv 13)) (da_cons (de_f (df_lc (own := [("_law_k", 18)]) rfl sc__law_partb.nd (di_rng1 rfl T.z_range (da_cons (de_callB cr_len rfl T.z_len (by decide +kernel) (da_cons (de_name (pv 3)) da_nil)) da_nil)) (blkOk_by (N := ["_law_script", "_law_rows", "_law_first", "_law_second", "_law_low", "_law_one", "_law_two", "_law_deals_here", "_law_given", "_law_due", "_law_pairs", "_law_turned", "_law_mark", "_law_both", "_law_j", "_law_i", "_law_deal", "_law_other", "_law_k"]) (sc := defScope st__law_partb) (by decide +kernel)) (fun _ _ _ _ _ => (dg_name (i := 18) sc__law_partb.nd rfl (.inl rfl))) (fun _ _ _ _ _ => dts_nil) (fun _ _ _ _ _ => (de_op or_add (de_op or_mul (de_name (pv 15)) (de_callB cr_len rfl T.z_len (by decide +kernel) (da_cons (de_name (pv 3)) da_nil))) (de_name (pv 18)))))) da_nil))) (da_cons (de_name (pv 3)) da_nil)))))
    (dss_one (ds_ret de_bl))
    dss_nil)
    (dss_cons (ds_if (dt_w (dw_or (dt_not (dt_tr (de_call (ok__law_agrees T) (hr.mono (by decide)) rfl T.g__law_agrees T.F__law_agrees.kp T.b__law_agrees tk (da_cons (de_call (ok_restricted T) (hr.mono (by decide)) rfl T.g_restricted T.F_restricted.kp T.b_restricted tk (da_cons (de_name (pv 5)) (da_cons (de_f (df_lc (own := [("_law_k", 18)]) rfl sc__law_partb.nd (di_rng1 rfl T.z_range (da_cons (de_callB cr_len rfl T.z_len (by decide +kernel) (da_cons (de_name (pv 2)) da_nil)) da_nil)) (blkOk_by (N := ["_law_script", "_law_rows", "_law_first", "_law_second", "_law_low", "_law_one", "_law_two", "_law_deals_here", "_law_given", "_law_due", "_law_pairs", "_law_turned", "_law_mark", "_law_both", "_law_j", "_law_i", "_law_deal", "_law_other", "_law_k"]) (sc := defScope st__law_partb) (by decide +kernel)) (fun _ _ _ _ _ => (dg_name (i := 18) sc__law_partb.nd rfl (.inl rfl))) (fun _ _ _ _ _ => dts_nil) (fun _ _ _ _ _ => (de_name (pv 18))))) da_nil))) (da_cons (de_name (pv 2)) da_nil))))) (dw_or1 (dt_cmp (or_ne hr.units) (de_name (pv 8)) (de_name (pv 7)) (nomark _)))))
    (dss_one (ds_ret de_bl))
    dss_nil)
    (dss_cons (ds_if (dt_w (dw_or (dt_not (dt_tr (de_call (ok__law_agrees T) (hr.mono (by decide)) rfl T.g__law_agrees T.F__law_agrees.kp T.b__law_agrees tk (da_cons (de_call (ok_restricted T) (hr.mono (by decide)) rfl T.g_restricted T.F_restricted.kp T.b_restricted tk (da_cons (de_name (pv 5)) (da_cons (de_name (pv 8)) da_nil))) (da_cons (de_name (pv 9)) da_nil))))) (dw_or1 (dt_not (dt_tr (de_call (ok__law_agrees T) (hr.mono (by decide)) rfl T.g__law_agrees T.F__law_agrees.kp T.b__law_agrees tk (da_cons (de_name (pv 13)) (da_cons (de_f (df_call (ok__law_marks T) (hr.mono (by decide)) rfl T.g__law_marks T.F__law_marks.kp T.b__law_marks tk (da_cons (de_name (pv 10)) da_nil))) da_nil))))))))
    (dss_one (ds_ret de_bl))
    dss_nil)
    (dss_one (ds_ret (de_and (de_call (ok__law_agrees T) (hr.mono (by decide)) rfl T.g__law_agrees T.F__law_agrees.kp T.b__law_agrees tk (da_cons (de_name (pv 5)) (da_cons (de_name (pv 2)) da_nil))) (de_one (de_call (ok__law_agrees T) (hr.mono (by decide)) rfl T.g__law_agrees T.F__law_agrees.kp T.b__law_agrees tk (da_cons (de_name (pv 6)) (da_cons (de_name (pv 3)) da_nil)))))))))))))))))))))))))))))) (fun _ _ _ _ h => by unfold w__law_partb at h; exact h)
theorem sc__law_draw : FnScope ["_law_script", "_law_shape", "_law_size", "_law_wide", "_law_first", "_law_codes", "_law_second", "_law_place", "_law_mark"] ["_law_script"] (defScope st__law_draw) := ⟨rfl, rfl, rfl, by decide +kernel, rfl, by decide +kernel, by decide +kernel⟩
def t__law_draw : TSd :=
  (sSeq (sSet (eF (fCall 2 w__law_digits (aCons (eCall 2 w__law_cell (aCons (eVar 0) (aCons (eC (.int 0)) aNil))) (aCons (eF (fLst (aCons (eC (.int 8)) (aCons (eC (.int 12)) (aCons (eC (.int 40)) (aCons (eC (.int 260)) (aCons (eC (.int 8)) (aCons (eC (.int 6)) aNil)))))))) aNil)))) 1)
  (sSeq (sSet (eOp oIx (eF (fLst (aCons (eC (.int 6)) (aCons (eC (.int 8)) (aCons (eC (.int 4)) (aCons (eC (.int 9)) (aCons (eC (.int 5)) (aCons (eC (.int 10)) (aCons (eC (.int 7)) (aCons (eC (.int 3)) (aCons (eC (.int 2)) (aCons (eC (.int 11)) (aCons (eC (.int 12)) (aCons (eC (.int 1)) aNil)))))))))))))) (eOp oIx (eVar 1) (eC (.int 1)))) 2)
  (sSeq (sIf (tBl (eOp oEq (eOp oIx (eVar 1) (eC (.int 0))) (eC (.int 6))))
  (sSet (eOp oAdd (eC (.int 1)) (eOp oIx (eVar 1) (eC (.int 2)))) 2)
  sNext)
  (sSeq (sIf (tBl (eOp oEq (eOp oIx (eVar 1) (eC (.int 0))) (eC (.int 7))))
  (sSet (eOp oAdd (eC (.int 41)) (eOp oIx (eVar 1) (eC (.int 3)))) 2)
  sNext)
  (sSeq (sSet (eOp oIx (eF (fLst (aCons (eC (.int 3)) (aCons (eC (.int 2)) (aCons (eOp oAdd (eOp oFdiv (eVar 2) (eC (.int 2))) (eC (.int 1))) (aCons (eC (.int 4)) (aCons (eVar 2) (aCons (eC (.int 5)) (aCons (eOp oAdd (eOp oFdiv (eVar 2) (eC (.int 3))) (eC (.int 1))) (aCons (eC (.int 3)) aNil)))))))))) (eOp oIx (eVar 1) (eC (.int 4)))) 3)
  (sSeq (sSet (eF (fCall 2 w__law_digits (aCons (eCall 2 w__law_cell (aCons (eVar 0) (aCons (eC (.int 1)) aNil))) (aCons (eF (fRep (fLst (aCons (eVar 3) aNil)) (eVar 2))) aNil)))) 4)
  (sSeq (sIf (tBl (eOp oEq (eOp oIx (eVar 1) (eC (.int 5))) (eC (.int 0))))
  (sRetF (fLst (aCons (eVar 4) (aCons (eF (fCall 2 w__law_digits (aCons (eCall 2 w__law_cell (aCons (eVar 0) (aCons (eC (.int 2)) aNil))) (aCons (eF (fRep (fLst (aCons (eVar 2) aNil)) (eVar 2))) aNil)))) aNil))))
  sNext)
  (sSeq (sIf (tBl (eOp oEq (eOp oIx (eVar 1) (eC (.int 5))) (eC (.int 1))))
  (sRetF (fLst (aCons (eVar 4) (aCons (eF (fCall 2 w__law_digits (aCons (eCall 2 w__law_cell (aCons (eVar 0) (aCons (eC (.int 2)) aNil))) (aCons (eF (fRep (fLst (aCons (eOp oAdd (eOp oFdiv (eVar 3) (eC (.int 2))) (eC (.int 2))) aNil)) (eVar 2))) aNil)))) aNil))))
  sNext)
  (sSeq (sSet (eF (fCall 2 w__law_digits (aCons (eCall 2 w__law_cell (aCons (eVar 0) (aCons (eC (.int 2)) aNil))) (aCons (eF (fRep (fLst (aCons (eOp oAdd (eOp oFdiv (eVar 3) (eC (.int 2))) (eC (.int 1))) aNil)) (eVar 3))) aNil)))) 5)
  (sSeq (sSetF (fLc (iSeq (eVar 4)) (gN 8) tYes (eOp oIx (eVar 5) (eVar 8)) [8]) 6)
  (sSeq (sIf (tBl (eOp oGt (eOp oIx (eVar 1) (eC (.int 5))) (eC (.int 3))))
  (sSeq (sSet (eOp oMod (eCB cInt (aCons (eCall 2 w__law_cell (aCons (eVar 0) (aCons (eC (.int 3)) aNil))) aNil)) (eVar 2)) 7)
  (sSetIx 6 (eVar 7) (eOp oMod (eCB cInt (aCons (eOp oAdd (eOp oAdd (eIxO 6 (eVar 7)) (eC (.int 1))) (eOp oMod (eCB cInt (aCons (eCall 2 w__law_cell (aCons (eVar 0) (aCons (eC (.int 4)) aNil))) aNil)) (eOp oAdd (eOp oFdiv (eVar 3) (eC (.int 2))) (eC (.int 1))))) aNil)) (eOp oAdd (eOp oFdiv (eVar 3) (eC (.int 2))) (eC (.int 2))))))
  sNext)
  (sFrz 6 (sRetF (fLst (aCons (eVar 4) (aCons (eVar 6) aNil))))))))))))))))
@[irreducible] def w__law_draw : Spf := fun ds P Xp => t__law_draw { nx := fun _ => False, rt := fun _ => False, ro := fun o => match o with | .lst l => P l | _ => False, xc := fun C fs _ => Xp C fs } (startD 9 ds)
theorem ok__law_draw {P : Program} {w : World} {K : PySem.W.Frag} {mg : Str → Option Value} {base : Heap} (T : Txt K mg) : FnOk P w K mg base (L2N.CX P w) 2 T.a__law_draw T.d__law_draw ["_law_script"] (spF ⟨K, mg, []⟩ 1 w__law_draw) :=
  ok_defF (k := 1) (t := t__law_draw) T.F__law_draw sc__law_draw (fun cdv A outer s H E W hr hW tk =>
    (dss_cons (ds_set (i := 1) sc__law_draw.nd rfl (.inl rfl) (de_f (df_call (ok__law_digits T) (hr.mono (by decide)) rfl T.g__law_digits T.F__law_digits.kp T.b__law_digits tk (da_cons (de_call (ok__law_cell T) (hr.mono (by decide)) rfl T.g__law_cell T.F__law_cell.kp T.b__law_cell tk (da_cons (de_name (pv 0)) (da_cons de_int da_nil))) (da_cons (de_f (df_lst (da_cons de_int (da_cons de_int (da_cons de_int (da_cons de_int (da_cons de_int (da_cons de_int da_nil)))))))) da_nil)))))
    (dss_cons (ds_set (i := 2) sc__law_draw.nd rfl (.inl rfl) (de_ix ir_ix (de_f (df_lst (da_cons de_int (da_cons de_int (da_cons de_int (da_cons de_int (da_cons de_int (da_cons de_int (da_cons de_int (da_cons de_int (da_cons de_int (da_cons de_int (da_cons de_int (da_cons de_int da_nil)))))))))))))) (de_ix ir_ix (de_name (pv 1)) de_int (fun _ _ => rfl)) (fun _ _ => rfl)))
    (dss_cons (ds_if (dt_cmp (or_eq hr.units) (de_ix ir_ix (de_name (pv 1)) de_int (fun _ _ => rfl)) de_int (nomark _))
    (dss_one (ds_set (i := 2) sc__law_draw.nd rfl (.inl rfl) (de_op or_add de_int (de_ix ir_ix (de_name (pv 1)) de_int (fun _ _ => rfl)))))
    dss_nil)
    (dss_cons (ds_if (dt_cmp (or_eq hr.units) (de_ix ir_ix (de_name (pv 1)) de_int (fun _ _ => rfl)) de_int (nomark _))
    (dss_one (ds_set (i := 2) sc__law_draw.nd rfl (.inl rfl) (de_op or_add de_int (de_ix ir_ix (de_name (pv 1)) de_int (fun _ _ => rfl)))))
    dss_nil)
    (dss_cons (ds_set (i := 3) sc__law_draw.nd rfl (.inl rfl) (de_ix ir_ix (de_f (df_lst (da_cons de_int (da_cons de_int (da_cons (de_op or_add (de_op or_fdiv (de_name (pv 2)) de_int) de_int) (da_cons de_int (da_cons (de_name (pv 2)) (da_cons de_int (da_cons (de_op or_add (de_op or_fdiv (de_name (pv 2)) de_int) de_int) (da_cons de_int da_nil)))))))))) (de_ix ir_ix (de_name (pv 1)) de_int (fun _ _ => rfl)) (fun _ _ => rfl)))
    (dss_cons (ds_set (i := 4) sc__law_draw.nd rfl (.inl rfl) (de_f (df_call (ok__law_digits T) (hr.mono (by decide)) rfl T.g__law_digits T.F__law_digits.kp T.b__law_digits tk (da_cons (de_call (ok__law_cell T) (hr.mono (by decide)) rfl T.g__law_cell T.F__law_cell.kp T.b__law_cell tk (da_cons (de_name (pv 0)) (da_cons de_int da_nil))) (da_cons (de_f (df_rep (df_lst (da_cons (de_name (pv 3)) da_nil)) (de_name (pv 2)))) da_nil)))))
    (dss_cons (ds_if (dt_cmp (or_eq hr.units) (de_ix ir_ix (de_name (pv 1)) de_int (fun _ _ => rfl)) de_int (nomark _))
    (dss_one (ds_retF (df_lst (da_cons (de_name (pv 4)) (da_cons (de_f (df_call (ok__law_digits T) (hr.mono (by decide)) rfl T.g__law_digits T.F__law_digits.kp T.b__law_digits tk (da_cons (de_call (ok__law_cell T) (hr.mono (by decide)) rfl T.g__law_cell T.F__law_cell.kp T.b__law_cell tk (da_cons (de_name (pv 0)) (da_cons de_int da_nil))) (da_cons (de_f (df_rep (df_lst (da_cons (de_name (pv 2)) da_nil)) (de_name (pv 2)))) da_nil)))) da_nil)))))
    dss_nil)
    (dss_cons (ds_if (dt_cmp (or_eq hr.units) (de_ix ir_ix (de_name (pv 1)) de_int (fun _ _ => rfl)) de_int (nomark _))
    (dss_one (ds_retF (df_lst (da_cons (de_name (pv 4)) (da_cons (de_f (df_call (ok__law_digits T) (hr.mono (by decide)) rfl T.g__law_digits T.F__law_digits.kp T.b__law_digits tk (da_cons (de_call (ok__law_cell T) (hr.mono (by decide)) rfl T.g__law_cell T.F__law_cell.kp T.b__law_cell tk (da_cons (de_name (pv 0)) (da_cons de_int da_nil))) (da_cons (de_f (df_rep (df_lst (da_cons (de_op or_add (de_op or_fdiv (de_name (pv 3)) de_int) de_int) da_nil)) (de_name (pv 2)))) da_nil)))) da_nil)))))
    dss_nil)
    (dss_cons (ds_set (i := 5) sc__law_draw.nd rfl (.inr rfl) (de_f (df_call (ok__law_digits T) (hr.mono (by decide)) rfl T.g__law_digits T.F__law_digits.kp T.b__law_digits tk (da_cons (de_call (ok__law_cell T) (hr.mono (by decide)) rfl T.g__law_cell T.F__law_cell.kp T.b__law_cell tk (da_cons (de_name (pv 0)) (da_cons de_int da_nil))) (da_cons (de_f (df_rep (df_lst (da_cons (de_op or_add (de_op or_fdiv (de_name (pv 3)) de_int) de_int) da_nil)) (de_name (pv 3)))) da_nil)))))
    (dss_cons (ds_setLc (i := 6) (own := [("_law_mark", 8)]) rfl sc__law_draw.nd rfl rfl (sw_true rfl rfl rfl (by decide +kernel)) (di_seq (de_name (pv 4))) (blkOk_by (N := ["_law_script", "_law_shape", "_law_size", "_law_wide", "_law_first", "_law_codes", "_law_second", "_law_place", "_law_mark"]) (sc := defScope st__law_draw) (by decide +kernel)) (fun _ _ _ _ _ => (dg_name (i := 8) sc__law_draw.nd rfl (.inl rfl))) (fun _ _ _ _ _ => dts_nil) (fun _ _ _ _ _ => (de_ix ir_ix (de_name (pv 5)) (de_name (pv 8)) (fun _ _ => rfl))))
    (dss_cons (ds_if (dt_cmp or_gt (de_ix ir_ix (de_name (pv 1)) de_int (fun _ _ => rfl)) de_int (nomark _))
    (dss_cons (ds_set (i := 7) sc__law_draw.nd rfl (.inl rfl) (de_op or_mod (de_callTy cr_int rfl T.z_int (by decide +kernel) (da_cons (de_call (ok__law_cell T) (hr.mono (by decide)) rfl T.g__law_cell T.F__law_cell.kp T.b__law_cell tk (da_cons (de_name (pv 0)) (da_cons de_int da_nil))) da_nil)) (de_name (pv 2))))
    (dss_one (ds_setIx (i := 6) (pv 6) (de_name (pv 7)) (de_op or_mod (de_callTy cr_int rfl T.z_int (by decide +kernel) (da_cons (de_op or_add (de_op or_add (de_ixO (i := 6) (pv 6) (de_name (pv 7)) (fun _ _ => rfl)) de_int) (de_op or_mod (de_callTy cr_int rfl T.z_int (by decide +kernel) (da_cons (de_call (ok__law_cell T) (hr.mono (by decide)) rfl T.g__law_cell T.F__law_cell.kp T.b__law_cell tk (da_cons (de_name (pv 0)) (da_cons de_int da_nil))) da_nil)) (de_op or_add (de_op or_fdiv (de_name (pv 3)) de_int) de_int))) da_nil)) (de_op or_add (de_op or_fdiv (de_name (pv 3)) de_int) de_int)))))
    dss_nil)
    (dss_one (ds_frz 6 (ds_retF (df_lst (da_cons (de_name (pv 4)) (da_cons (de_name (pv 6)) da_nil)))))))))))))))))) (fun _ _ _ _ h => by unfold w__law_draw at h; exact h)
theorem sc__law_pair : FnScope ["_law_first", "_law_second", "_law_deal", "_law_other"] ["_law_first", "_law_second"] (defScope st__law_pair) := ⟨rfl, rfl, rfl, by decide +kernel, rfl, by decide +kernel, by decide +kernel⟩
def t__law_pair : TSd :=
  (sSeq (sFor (iRng1 (aCons (eCB cLen (aCons (eVar 0) aNil)) aNil)) (gN 2)
  (sFor (iRng2 (aCons (eOp oAdd (eVar 2) (eC (.int 1))) (aCons (eCB cLen (aCons (eVar 0) aNil)) aNil))) (gN 3)
  (sIf (tAnd (tBl (eOp oEq (eOp oIx (eVar 0) (eVar 2)) (eOp oIx (eVar 0) (eVar 3)))) (tBl (eOp oNe (eOp oIx (eVar 1) (eVar 2)) (eOp oIx (eVar 1) (eVar 3)))))
  (sRet (eTup (aCons (eVar 2) (aCons (eVar 3) aNil))))
  sNext)))
  (sRet (eC .non)))
@[irreducible] def w__law_pair : Spd := fun ds P Xp => t__law_pair { nx := fun _ => P .non, rt := P, ro := fun o => P o.d, xc := fun C fs _ => Xp C fs } (startD 4 ds)
theorem ok__law_pair {P : Program} {w : World} {K : PySem.W.Frag} {mg : Str → Option Value} {base : Heap} (T : Txt K mg) : FnOk P w K mg base (L2N.CX P w) 1 T.a__law_pair T.d__law_pair ["_law_first", "_law_second"] (spL ⟨K, mg, []⟩ 2 w__law_pair) :=
  ok_def (k := 0) (t := t__law_pair) T.F__law_pair sc__law_pair (fun cdv A outer s H E W hr hW tk =>
    (dss_cons (ds_for (vs := [2]) (passes_of rfl) rfl (di_rng1 rfl T.z_range (da_cons (de_callB cr_len rfl T.z_len (by decide +kernel) (da_cons (de_name (pv 0)) da_nil)) da_nil)) (dg_name (i := 2) sc__law_pair.nd rfl (.inl rfl))
    (dss_one (ds_for (vs := [3]) (passes_of rfl) rfl (di_rng2 rfl T.z_range (da_cons (de_op or_add (de_name (pv 2)) de_int) (da_cons (de_callB cr_len rfl T.z_len (by decide +kernel) (da_cons (de_name (pv 0)) da_nil)) da_nil))) (dg_name (i := 3) sc__law_pair.nd rfl (.inl rfl))
    (dss_one (ds_if (dt_w (dw_and (dt_cmp (or_eq hr.units) (de_ix ir_ix (de_name (pv 0)) (de_name (pv 2)) (fun _ _ => rfl)) (de_ix ir_ix (de_name (pv 0)) (de_name (pv 3)) (fun _ _ => rfl)) (nomark _)) (dw_and1 (dt_cmp (or_ne hr.units) (de_ix ir_ix (de_name (pv 1)) (de_name (pv 2)) (fun _ _ => rfl)) (de_ix ir_ix (de_name (pv 1)) (de_name (pv 3)) (fun _ _ => rfl)) (nomark _)))))
    (dss_one (ds_ret (de_tup (da_cons (de_name (pv 2)) (da_cons (de_name (pv 3)) da_nil)))))
    dss_nil)))))
    (dss_one (ds_ret de_non)))) (fun _ _ _ _ h => by unfold w__law_pair at h; exact h)
theorem sc_SizesDiffer___init__ : FnScope ["self", "one", "two"] ["self", "one", "two"] (defScope st_SizesDiffer___init__) := ⟨rfl, rfl, rfl, by decide +kernel, rfl, by decide +kernel, by decide +kernel⟩
theorem ok_SizesDiffer___init__ {P : Program} {w : World} {K : PySem.W.Frag} {mg : Str → Option Value} {base : Heap} (T : Txt K mg) : FnOk P w K mg base (L2N.CX P w) 1 T.a_SizesDiffer___init__ T.d_SizesDiffer___init__ ["self", "one", "two"] (spX K ["one", "two"]) :=
  ok_exc2 (k := 0) T.F_SizesDiffer___init__ sc_SizesDiffer___init__ rfl (fun _ _ _ _ _ _ => (pss_cons (ps_ost (pv 0) (pv 1)) (pss_one (ps_ost (pv 0) (pv 2)))))
theorem sc_joined : FnScope ["one", "two", "leasts", "marks", "deal", "firsts", "low", "high"] ["one", "two"] (defScope st_joined) := ⟨rfl, rfl, rfl, by decide +kernel, rfl, by decide +kernel, by decide +kernel⟩
def t_joined : TSd :=
  (sSeq (sSetF (fLc (iRng1 (aCons (eCB cLen (aCons (eVar 0) aNil)) aNil)) (gN 4) tYes (eVar 4) [4]) 2)
  (sSeq (sFor (iSeq (eTup (aCons (eVar 0) (aCons (eVar 1) aNil)))) (gN 3)
  (sSeq (sDic 5)
  (sFor (iRng1 (aCons (eCB cLen (aCons (eVar 3) aNil)) aNil)) (gN 4)
  (sSeq (sIf (tBl (eInO true 5 (eOp oIx (eVar 3) (eVar 4))))
  (sPutO 5 (eOp oIx (eVar 3) (eVar 4)) (eVar 4))
  sNext)
  (sSeq (sSet (eGetO 5 (eOp oIx (eVar 3) (eVar 4))) 6)
  (sSeq (sWhile (tBl (eOp oNe (eIxO 2 (eVar 6)) (eVar 6)))
  (sSeq (sSetIx 2 (eVar 6) (eIxO 2 (eIxO 2 (eVar 6))))
  (sSet (eIxO 2 (eVar 6)) 6)))
  (sSeq (sSet (eVar 4) 7)
  (sSeq (sWhile (tBl (eOp oNe (eIxO 2 (eVar 7)) (eVar 7)))
  (sSeq (sSetIx 2 (eVar 7) (eIxO 2 (eIxO 2 (eVar 7))))
  (sSet (eIxO 2 (eVar 7)) 7)))
  (sSetIx 2 (eCB cMaxG (aCons (eVar 6) (aCons (eVar 7) aNil))) (eCB cMin (aCons (eVar 6) (aCons (eVar 7) aNil))))))))))))
  (sSeq (sFor (iRng1 (aCons (eLenO 2) aNil)) (gN 4)
  (sSetIx 2 (eVar 4) (eIxO 2 (eIxO 2 (eVar 4)))))
  (sRetO 2))))
@[irreducible] def w_joined : Spf := fun ds P Xp => t_joined { nx := fun _ => False, rt := fun _ => False, ro := fun o => match o with | .lst l => P l | _ => False, xc := fun C fs _ => Xp C fs } (startD 8 ds)
theorem ok_joined {P : Program} {w : World} {K : PySem.W.Frag} {mg : Str → Option Value} {base : Heap} (T : Txt K mg) : FnOk P w K mg base (L2N.CX P w) 1 T.a_joined T.d_joined ["one", "two"] (spF ⟨K, mg, []⟩ 2 w_joined) :=
  ok_defF (k := 0) (t := t_joined) T.F_joined sc_joined (fun cdv A outer s H E W hr hW tk =>
    (dss_cons (ds_setLc (i := 2) (own := [("deal", 4)]) rfl sc_joined.nd rfl rfl (sw_true rfl rfl rfl (by decide +kernel)) (di_rng1 rfl T.z_range (da_cons (de_callB cr_len rfl T.z_len (by decide +kernel) (da_cons (de_name (pv 0)) da_nil)) da_nil)) (blkOk_by (N := ["one", "two", "leasts", "marks", "deal", "firsts", "low", "high"]) (sc := defScope st_joined) (by decide +kernel)) (fun _ _ _ _ _ => (dg_name (i := 4) sc_joined.nd rfl (.inl rfl))) (fun _ _ _ _ _ => dts_nil) (fun _ _ _ _ _ => (de_name (pv 4))))
    (dss_cons (ds_for (vs := [3]) (passes_of rfl) rfl (di_seq (de_tup (da_cons (de_name (pv 0)) (da_cons (de_name (pv 1)) da_nil)))) (dg_name (i := 3) sc_joined.nd rfl (.inl rfl))
    (dss_cons (ds_dic (i := 5) sc_joined.nd rfl (.inl rfl))
    (dss_one (ds_for (vs := [4]) (passes_of rfl) rfl (di_rng1 rfl T.z_range (da_cons (de_callB cr_len rfl T.z_len (by decide +kernel) (da_cons (de_name (pv 3)) da_nil)) da_nil)) (dg_name (i := 4) sc_joined.nd rfl (.inl rfl))
    (dss_cons (ds_if (dt_notInO (i := 5) hr.units (de_ix ir_ix (de_name (pv 3)) (de_name (pv 4)) (fun _ _ => rfl)) (pv 5))
    (dss_one (ds_putO (i := 5) hr.units (pv 5) (de_ix ir_ix (de_name (pv 3)) (de_name (pv 4)) (fun _ _ => rfl)) (de_name (pv 4))))
    dss_nil)
    (dss_cons (ds_set (i := 6) sc_joined.nd rfl (.inl rfl) (de_getO (i := 5) hr.units (pv 5) (de_ix ir_ix (de_name (pv 3)) (de_name (pv 4)) (fun _ _ => rfl)) (fun _ _ => rfl)))
    (dss_cons (ds_while (passes_of rfl) (dt_cmp (or_ne hr.units) (de_ixO (i := 2) (pv 2) (de_name (pv 6)) (fun _ _ => rfl)) (de_name (pv 6)) (nomark _))
    (dss_cons (ds_setIx (i := 2) (pv 2) (de_name (pv 6)) (de_ixO (i := 2) (pv 2) (de_ixO (i := 2) (pv 2) (de_name (pv 6)) (fun _ _ => rfl)) (fun _ _ => rfl)))
    (dss_one (ds_set (i := 6) sc_joined.nd rfl (.inl rfl) (de_ixO (i := 2) (pv 2) (de_name (pv 6)) (fun _ _ => rfl))))))
    (dss_cons (ds_set (i := 7) sc_joined.nd rfl (.inl rfl) (de_name (pv 4)))
    (dss_cons (ds_while (passes_of rfl) (dt_cmp (or_ne hr.units) (de_ixO (i := 2) (pv 2) (de_name (pv 7)) (fun _ _ => rfl)) (de_name (pv 7)) (nomark _))
    (dss_cons (ds_setIx (i := 2) (pv 2) (de_name (pv 7)) (de_ixO (i := 2) (pv 2) (de_ixO (i := 2) (pv 2) (de_name (pv 7)) (fun _ _ => rfl)) (fun _ _ => rfl)))
    (dss_one (ds_set (i := 7) sc_joined.nd rfl (.inl rfl) (de_ixO (i := 2) (pv 2) (de_name (pv 7)) (fun _ _ => rfl))))))
    (dss_one (ds_setIx (i := 2) (pv 2) (de_callB (cr_maxG rfl hr.units) rfl T.z_max (by decide +kernel) (da_cons (de_name (pv 6)) (da_cons (de_name (pv 7)) da_nil))) (de_callB (cr_minD rfl) rfl T.z_min (by decide +kernel) (da_cons (de_name (pv 6)) (da_cons (de_name (pv 7)) da_nil))))))))))))))
    (dss_cons (ds_for (vs := [4]) (passes_of rfl) rfl (di_rng1 rfl T.z_range (da_cons (de_lenO (i := 2) (pv 2) rfl T.z_len) da_nil)) (dg_name (i := 4) sc_joined.nd rfl (.inl rfl))
    (dss_one (ds_setIx (i := 2) (pv 2) (de_name (pv 4)) (de_ixO (i := 2) (pv 2) (de_ixO (i := 2) (pv 2) (de_name (pv 4)) (fun _ _ => rfl)) (fun _ _ => rfl)))))
    (dss_one (ds_retO (i := 2) (pv 2))))))) (fun _ _ _ _ h => by unfold w_joined at h; exact h)
theorem sc_Sight___or__ : FnScope ["self", "other"] ["self", "other"] (defScope st_Sight___or__) := ⟨rfl, rfl, rfl, by decide +kernel, rfl, by decide +kernel, by decide +kernel⟩
def t_Sight___or__ : TSd :=
  (sSeq (sIf (tBl (eOp oNe (eAttr at_size "size" (eVar 0)) (eAttr at_size "size" (eVar 1))))
  (sRaiseI "SizesDiffer" ["one", "two"] (aCons (eAttr at_size "size" (eVar 0)) (aCons (eAttr at_size "size" (eVar 1)) aNil)))
  sNext)
  (sRet (eMake "Sight" 2 w_Sight___init__ (aCons (eF (fCall 2 w_joined (aCons (eAttr at_marks "marks" (eVar 0)) (aCons (eAttr at_marks "marks" (eVar 1)) aNil)))) aNil))))
@[irreducible] def w_Sight___or__ : Spd := fun ds P Xp => t_Sight___or__ { nx := fun _ => P .non, rt := P, ro := fun o => P o.d, xc := fun C fs _ => Xp C fs } (startD 2 ds)
theorem ok_Sight___or__ {P : Program} {w : World} {K : PySem.W.Frag} {mg : Str → Option Value} {base : Heap} (T : Txt K mg) : FnOk P w K mg base (L2N.CX P w) 6 T.a_Sight___or__ T.d_Sight___or__ ["self", "other"] (spL ⟨K, mg, []⟩ 2 w_Sight___or__) :=
  ok_def (k := 5) (t := t_Sight___or__) T.F_Sight___or__ sc_Sight___or__ (fun cdv A outer s H E W hr hW tk =>
    (dss_cons (ds_if (dt_cmp (or_ne hr.units) (de_attr (de_name (pv 0)) (atok_size T)) (de_attr (de_name (pv 1)) (atok_size T)) (nomark _))
    (dss_one (ds_raiseI rfl tk T.xi_SizesDiffer T.xn_SizesDiffer T.xt_SizesDiffer T.xf_SizesDiffer (by decide) (ok_SizesDiffer___init__ T) (hr.mono (by decide)) T.b_SizesDiffer___init__ rfl T.g_SizesDiffer (da_cons (de_attr (de_name (pv 0)) (atok_size T)) (da_cons (de_attr (de_name (pv 1)) (atok_size T)) da_nil))))
    dss_nil)
    (dss_one (ds_ret (de_make T.mk_Sight (ok_Sight___init__ T) (hr.mono (by decide)) rfl T.g_Sight T.b_Sight___init__ tk (da_cons (de_f (df_call (ok_joined T) (hr.mono (by decide)) rfl T.g_joined T.F_joined.kp T.b_joined tk (da_cons (de_attr (de_name (pv 0)) (atok_marks T)) (da_cons (de_attr (de_name (pv 1)) (atok_marks T)) da_nil)))) da_nil)))))) (fun _ _ _ _ h => by unfold w_Sight___or__ at h; exact h)
def tb___or__ : Str → Option Spd := fun n => if n = "Sight" then some w_Sight___or__ else none
theorem rows___or__ {X : Cx} (T : Txt X.K X.mg) (hr : Room 6 X.A) (hg : gd X = ⟨X.K, X.mg, []⟩ := by rfl) : ∀ n sp, tb___or__ n = some sp → OpRow X (PySem.dunder Operator.BitOr.info.2) n sp := by
  intro n sp h
  unfold tb___or__ at h
  split at h
  · rename_i e; subst e; cases h
    exact ⟨⟨T.c_Sight, T.a_Sight___or__, T.d_Sight___or__, ["self", "other"], 6, T.g_Sight, T.sf_Sight, by first | exact T.me_Sight___or__.at_ | (have q := T.me_Sight___or__.at_; exact q), T.me_Sight___or__.fn, (by rw [hg]; exact ok_Sight___or__ T), (hr.mono (by decide)), T.b_Sight___or__⟩⟩
  cases h
theorem sc_Sight_nothing : FnScope ["cls", "size", "_"] ["cls", "size"] (defScope st_Sight_nothing) := ⟨rfl, rfl, rfl, by decide +kernel, rfl, by decide +kernel, by decide +kernel⟩
def t_Sight_nothing : TSd :=
  (sRet (eMakeL 0 "Sight" 2 w_Sight___init__ (aCons (eF (fLc (iRng1 (aCons (eVar 1) aNil)) (gN 2) tYes (eC (.int 0)) [2])) aNil)))
@[irreducible] def w_Sight_nothing : Spd := fun ds P Xp => t_Sight_nothing { nx := fun _ => P .non, rt := P, ro := fun o => P o.d, xc := fun C fs _ => Xp C fs } (startD 3 ds)
theorem ok_Sight_nothing {P : Program} {w : World} {K : PySem.W.Frag} {mg : Str → Option Value} {base : Heap} (T : Txt K mg) : FnOk P w K mg base (L2N.CX P w) 6 T.a_Sight_nothing T.d_Sight_nothing ["cls", "size"] (spL ⟨K, mg, []⟩ 2 w_Sight_nothing) :=
  ok_def (k := 5) (t := t_Sight_nothing) T.F_Sight_nothing sc_Sight_nothing (fun cdv A outer s H E W hr hW tk =>
    (dss_one (ds_ret (de_makeL (i := 0) T.mk_Sight (ok_Sight___init__ T) (hr.mono (by decide)) rfl (.inl rfl) T.g_Sight T.b_Sight___init__ tk (da_cons (de_f (df_lc (own := [("_", 2)]) rfl sc_Sight_nothing.nd (di_rng1 rfl T.z_range (da_cons (de_name (pv 1)) da_nil)) (blkOk_by (N := ["cls", "size", "_"]) (sc := defScope st_Sight_nothing) (by decide +kernel)) (fun _ _ _ _ _ => (dg_name (i := 2) sc_Sight_nothing.nd rfl (.inl rfl))) (fun _ _ _ _ _ => dts_nil) (fun _ _ _ _ _ => de_int))) da_nil))))) (fun _ _ _ _ h => by unfold w_Sight_nothing at h; exact h)
theorem sc_Sight___and__ : FnScope ["self", "other"] ["self", "other"] (defScope st_Sight___and__) := ⟨rfl, rfl, rfl, by decide +kernel, rfl, by decide +kernel, by decide +kernel⟩
def t_Sight___and__ : TSd :=
  (sSeq (sIf (tBl (eOp oNe (eAttr at_size "size" (eVar 0)) (eAttr at_size "size" (eVar 1))))
  (sRaiseI "SizesDiffer" ["one", "two"] (aCons (eAttr at_size "size" (eVar 0)) (aCons (eAttr at_size "size" (eVar 1)) aNil)))
  sNext)
  (sRet (eMake "Sight" 2 w_Sight___init__ (aCons (eCall 1 w_numbered (aCons (eF (fZip (aCons (eAttr at_marks "marks" (eVar 0)) (aCons (eAttr at_marks "marks" (eVar 1)) aNil)))) aNil)) aNil))))
@[irreducible] def w_Sight___and__ : Spd := fun ds P Xp => t_Sight___and__ { nx := fun _ => P .non, rt := P, ro := fun o => P o.d, xc := fun C fs _ => Xp C fs } (startD 2 ds)
theorem ok_Sight___and__ {P : Program} {w : World} {K : PySem.W.Frag} {mg : Str → Option Value} {base : Heap} (T : Txt K mg) : FnOk P w K mg base (L2N.CX P w) 6 T.a_Sight___and__ T.d_Sight___and__ ["self", "other"] (spL ⟨K, mg, []⟩ 2 w_Sight___and__) :=
  ok_def (k := 5) (t := t_Sight___and__) T.F_Sight___and__ sc_Sight___and__ (fun cdv A outer s H E W hr hW tk =>
    (dss_cons (ds_if (dt_cmp (or_ne hr.units) (de_attr (de_name (pv 0)) (atok_size T)) (de_attr (de_name (pv 1)) (atok_size T)) (nomark _))
    (dss_one (ds_raiseI rfl tk T.xi_SizesDiffer T.xn_SizesDiffer T.xt_SizesDiffer T.xf_SizesDiffer (by decide) (ok_SizesDiffer___init__ T) (hr.mono (by decide)) T.b_SizesDiffer___init__ rfl T.g_SizesDiffer (da_cons (de_attr (de_name (pv 0)) (atok_size T)) (da_cons (de_attr (de_name (pv 1)) (atok_size T)) da_nil))))
    dss_nil)
    (dss_one (ds_ret (de_make T.mk_Sight (ok_Sight___init__ T) (hr.mono (by decide)) rfl T.g_Sight T.b_Sight___init__ tk (da_cons (de_call (ok_numbered T) (hr.mono (by decide)) rfl T.g_numbered T.F_numbered.kp T.b_numbered tk (da_cons (de_f (df_zip rfl rfl T.z_list rfl T.z_zip (da_cons (de_attr (de_name (pv 0)) (atok_marks T)) (da_cons (de_attr (de_name (pv 1)) (atok_marks T)) da_nil)))) da_nil)) da_nil)))))) (fun _ _ _ _ h => by unfold w_Sight___and__ at h; exact h)
def tb___and__ : Str → Option Spd := fun n => if n = "Sight" then some w_Sight___and__ else none
theorem rows___and__ {X : Cx} (T : Txt X.K X.mg) (hr : Room 6 X.A) (hg : gd X = ⟨X.K, X.mg, []⟩ := by rfl) : ∀ n sp, tb___and__ n = some sp → OpRow X (PySem.dunder Operator.BitAnd.info.2) n sp := by
  intro n sp h
  unfold tb___and__ at h
  split at h
  · rename_i e; subst e; cases h
    exact ⟨⟨T.c_Sight, T.a_Sight___and__, T.d_Sight___and__, ["self", "other"], 6, T.g_Sight, T.sf_Sight, by first | exact T.me_Sight___and__.at_ | (have q := T.me_Sight___and__.at_; exact q), T.me_Sight___and__.fn, (by rw [hg]; exact ok_Sight___and__ T), (hr.mono (by decide)), T.b_Sight___and__⟩⟩
  cases h
theorem sc_Sight_everything : FnScope ["cls", "size", "deal"] ["cls", "size"] (defScope st_Sight_everything) := ⟨rfl, rfl, rfl, by decide +kernel, rfl, by decide +kernel, by decide +kernel⟩
def t_Sight_everything : TSd :=
  (sRet (eMakeL 0 "Sight" 2 w_Sight___init__ (aCons (eF (fLc (iRng1 (aCons (eVar 1) aNil)) (gN 2) tYes (eVar 2) [2])) aNil)))
@[irreducible] def w_Sight_everything : Spd := fun ds P Xp => t_Sight_everything { nx := fun _ => P .non, rt := P, ro := fun o => P o.d, xc := fun C fs _ => Xp C fs } (startD 3 ds)
theorem ok_Sight_everything {P : Program} {w : World} {K : PySem.W.Frag} {mg : Str → Option Value} {base : Heap} (T : Txt K mg) : FnOk P w K mg base (L2N.CX P w) 6 T.a_Sight_everything T.d_Sight_everything ["cls", "size"] (spL ⟨K, mg, []⟩ 2 w_Sight_everything) :=
  ok_def (k := 5) (t := t_Sight_everything) T.F_Sight_everything sc_Sight_everything (fun cdv A outer s H E W hr hW tk =>
    (dss_one (ds_ret (de_makeL (i := 0) T.mk_Sight (ok_Sight___init__ T) (hr.mono (by decide)) rfl (.inl rfl) T.g_Sight T.b_Sight___init__ tk (da_cons (de_f (df_lc (own := [("deal", 2)]) rfl sc_Sight_everything.nd (di_rng1 rfl T.z_range (da_cons (de_name (pv 1)) da_nil)) (blkOk_by (N := ["cls", "size", "deal"]) (sc := defScope st_Sight_everything) (by decide +kernel)) (fun _ _ _ _ _ => (dg_name (i := 2) sc_Sight_everything.nd rfl (.inl rfl))) (fun _ _ _ _ _ => dts_nil) (fun _ _ _ _ _ => (de_name (pv 2))))) da_nil))))) (fun _ _ _ _ h => by unfold w_Sight_everything at h; exact h)
theorem sc_Sight_alike : FnScope ["self", "one", "two"] ["self", "one", "two"] (defScope st_Sight_alike) := ⟨rfl, rfl, rfl, by decide +kernel, rfl, by decide +kernel, by decide +kernel⟩
def t_Sight_alike : TSd :=
  (sRet (eOp oEq (eOp oIx (eAttr at_marks "marks" (eVar 0)) (eVar 1)) (eOp oIx (eAttr at_marks "marks" (eVar 0)) (eVar 2))))
@[irreducible] def w_Sight_alike : Spd := fun ds P Xp => t_Sight_alike { nx := fun _ => P .non, rt := P, ro := fun o => P o.d, xc := fun C fs _ => Xp C fs } (startD 3 ds)
theorem ok_Sight_alike {P : Program} {w : World} {K : PySem.W.Frag} {mg : Str → Option Value} {base : Heap} (T : Txt K mg) : FnOk P w K mg base (L2N.CX P w) 1 T.a_Sight_alike T.d_Sight_alike ["self", "one", "two"] (spL ⟨K, mg, []⟩ 3 w_Sight_alike) :=
  ok_def (k := 0) (t := t_Sight_alike) T.F_Sight_alike sc_Sight_alike (fun cdv A outer s H E W hr hW tk =>
    (dss_one (ds_ret (de_cmp (or_eq hr.units) (de_ix ir_ix (de_attr (de_name (pv 0)) (atok_marks T)) (de_name (pv 1)) (fun _ _ => rfl)) (de_ix ir_ix (de_attr (de_name (pv 0)) (atok_marks T)) (de_name (pv 2)) (fun _ _ => rfl)) (nomark _))))) (fun _ _ _ _ h => by unfold w_Sight_alike at h; exact h)
def tb_alike : Str → Option Spd := fun n => if n = "Sight" then some w_Sight_alike else none
theorem rows_alike {X : Cx} (T : Txt X.K X.mg) (hr : Room 1 X.A) (hg : gd X = ⟨X.K, X.mg, []⟩ := by rfl) : ∀ n sp, tb_alike n = some sp → MethRow X "alike" n 3 sp := by
  intro n sp h
  unfold tb_alike at h
  split at h
  · rename_i e; subst e; cases h
    exact ⟨⟨T.c_Sight, T.a_Sight_alike, T.d_Sight_alike, ["self", "one", "two"], 1, T.g_Sight, T.cl_Sight, T.me_Sight_alike, (by rw [hg]; exact ok_Sight_alike T), (hr.mono (by decide)), T.b_Sight_alike⟩⟩
  cases h
theorem sc_unlike_pair : FnScope ["one", "two", "cell", "other"] ["one", "two"] (defScope st_unlike_pair) := ⟨rfl, rfl, rfl, by decide +kernel, rfl, by decide +kernel, by decide +kernel⟩
def t_unlike_pair : TSd :=
  (sSeq (sIf (tBl (eOp oNe (eAttr at_size "size" (eVar 0)) (eAttr at_size "size" (eVar 1))))
  (sRaiseI "SizesDiffer" ["one", "two"] (aCons (eAttr at_size "size" (eVar 0)) (aCons (eAttr at_size "size" (eVar 1)) aNil)))
  sNext)
  (sSeq (sFor (iSeq (eAttr at_cells "cells" (eVar 0))) (gN 2)
  (sFor (iSeq (eVar 2)) (gN 3)
  (sIf (tNot (tTr (eMethG tb_alike "alike" 3 (eVar 1) (aCons (eOp oIx (eVar 2) (eC (.int 0))) (aCons (eVar 3) aNil)))))
  (sRet (eTup (aCons (eOp oIx (eVar 2) (eC (.int 0))) (aCons (eVar 3) aNil))))
  sNext)))
  (sRet (eC .non))))
@[irreducible] def w_unlike_pair : Spd := fun ds P Xp => t_unlike_pair { nx := fun _ => P .non, rt := P, ro := fun o => P o.d, xc := fun C fs _ => Xp C fs } (startD 4 ds)
theorem ok_unlike_pair {P : Program} {w : World} {K : PySem.W.Frag} {mg : Str → Option Value} {base : Heap} (T : Txt K mg) : FnOk P w K mg base (L2N.CX P w) 3 T.a_unlike_pair T.d_unlike_pair ["one", "two"] (spL ⟨K, mg, []⟩ 2 w_unlike_pair) :=
  ok_def (k := 2) (t := t_unlike_pair) T.F_unlike_pair sc_unlike_pair (fun cdv A outer s H E W hr hW tk =>
    (dss_cons (ds_if (dt_cmp (or_ne hr.units) (de_attr (de_name (pv 0)) (atok_size T)) (de_attr (de_name (pv 1)) (atok_size T)) (nomark _))
    (dss_one (ds_raiseI rfl tk T.xi_SizesDiffer T.xn_SizesDiffer T.xt_SizesDiffer T.xf_SizesDiffer (by decide) (ok_SizesDiffer___init__ T) (hr.mono (by decide)) T.b_SizesDiffer___init__ rfl T.g_SizesDiffer (da_cons (de_attr (de_name (pv 0)) (atok_size T)) (da_cons (de_attr (de_name (pv 1)) (atok_size T)) da_nil))))
    dss_nil)
    (dss_cons (ds_for (vs := [2]) (passes_of rfl) rfl (di_seq (de_attr (de_name (pv 0)) (atok_cells T (hr.mono (by decide))))) (dg_name (i := 2) sc_unlike_pair.nd rfl (.inl rfl))
    (dss_one (ds_for (vs := [3]) (passes_of rfl) rfl (di_seq (de_name (pv 2))) (dg_name (i := 3) sc_unlike_pair.nd rfl (.inl rfl))
    (dss_one (ds_if (dt_not (dt_tr (de_methG (T := tb_alike) (de_name (pv 1)) (rows_alike T (hr.mono (by decide))) tk (da_cons (de_ix ir_ix (de_name (pv 2)) de_int (fun _ _ => rfl)) (da_cons (de_name (pv 3)) da_nil)))))
    (dss_one (ds_ret (de_tup (da_cons (de_ix ir_ix (de_name (pv 2)) de_int (fun _ _ => rfl)) (da_cons (de_name (pv 3)) da_nil)))))
    dss_nil)))))
    (dss_one (ds_ret de_non))))) (fun _ _ _ _ h => by unfold w_unlike_pair at h; exact h)
theorem sc_tells : FnScope ["one", "two"] ["one", "two"] (defScope st_tells) := ⟨rfl, rfl, rfl, by decide +kernel, rfl, by decide +kernel, by decide +kernel⟩
def t_tells : TSd :=
  (sRet (eOp (oIsN false) (eCall 2 w_unlike_pair (aCons (eVar 0) (aCons (eVar 1) aNil))) (eC .non)))
@[irreducible] def w_tells : Spd := fun ds P Xp => t_tells { nx := fun _ => P .non, rt := P, ro := fun o => P o.d, xc := fun C fs _ => Xp C fs } (startD 2 ds)
theorem ok_tells {P : Program} {w : World} {K : PySem.W.Frag} {mg : Str → Option Value} {base : Heap} (T : Txt K mg) : FnOk P w K mg base (L2N.CX P w) 4 T.a_tells T.d_tells ["one", "two"] (spL ⟨K, mg, []⟩ 2 w_tells) :=
  ok_def (k := 3) (t := t_tells) T.F_tells sc_tells (fun cdv A outer s H E W hr hW tk =>
    (dss_one (ds_ret (de_cmp or_is (de_call (ok_unlike_pair T) (hr.mono (by decide)) rfl T.g_unlike_pair T.F_unlike_pair.kp T.b_unlike_pair tk (da_cons (de_name (pv 0)) (da_cons (de_name (pv 1)) da_nil))) de_non (nomark _))))) (fun _ _ _ _ h => by unfold w_tells at h; exact h)
theorem sc__law_asks : FnScope ["_law_one", "_law_two", "_law_due", "_law_pair_here", "_law_answer"] ["_law_one", "_law_two", "_law_due"] (defScope st__law_asks) := ⟨rfl, rfl, rfl, by decide +kernel, rfl, by decide +kernel, by decide +kernel⟩
def t__law_asks : TSd :=
  (sSeq (sSet (eCall 2 w_unlike_pair (aCons (eVar 0) (aCons (eVar 1) aNil))) 3)
  (sSeq (sSet (eCall 2 w_tells (aCons (eVar 0) (aCons (eVar 1) aNil))) 4)
  (sSeq (sIf (tOr (tNot (tTr (eCB (cIsiG tab) (aCons (eVar 4) (aCons (eC (.ty "bool")) aNil))))) (tBl (eOp oNe (eVar 4) (eOp (oIsN false) (eVar 2) (eC .non)))))
  (sRet (eC (.bl false)))
  sNext)
  (sSeq (sIf (tBl (eOp (oIsN false) (eVar 2) (eC .non)))
  (sRet (eOp (oIsN false) (eVar 3) (eC .non)))
  sNext)
  (sSeq (sIf (tOr (tNot (tTr (eCB (cIsiG tab) (aCons (eVar 3) (aCons (eC (.ty "tuple")) aNil))))) (tOr (tBl (eOp oNe (eCB cLen (aCons (eVar 3) aNil)) (eC (.int 2)))) (tOr (tNot (tTr (eCall 1 w__law_whole (aCons (eOp oIx (eVar 3) (eC (.int 0))) aNil)))) (tNot (tTr (eCall 1 w__law_whole (aCons (eOp oIx (eVar 3) (eC (.int 1))) aNil)))))))
  (sRet (eC (.bl false)))
  sNext)
  (sRet (eOp oEq (eVar 3) (eVar 2))))))))
@[irreducible] def w__law_asks : Spd := fun ds P Xp => t__law_asks { nx := fun _ => P .non, rt := P, ro := fun o => P o.d, xc := fun C fs _ => Xp C fs } (startD 5 ds)
theorem ok__law_asks {P : Program} {w : World} {K : PySem.W.Frag} {mg : Str → Option Value} {base : Heap} (T : Txt K mg) : FnOk P w K mg base (L2N.CX P w) 5 T.a__law_asks T.d__law_asks ["_law_one", "_law_two", "_law_due"] (spL ⟨K, mg, []⟩ 3 w__law_asks) :=
  ok_def (k := 4) (t := t__law_asks) T.F__law_asks sc__law_asks (fun cdv A outer s H E W hr hW tk =>
    (dss_cons (ds_set (i := 3) sc__law_asks.nd rfl (.inl rfl) (de_call (ok_unlike_pair T) (hr.mono (by decide)) rfl T.g_unlike_pair T.F_unlike_pair.kp T.b_unlike_pair tk (da_cons (de_name (pv 0)) (da_cons (de_name (pv 1)) da_nil))))
    (dss_cons (ds_set (i := 4) sc__law_asks.nd rfl (.inl rfl) (de_call (ok_tells T) (hr.mono (by decide)) rfl T.g_tells T.F_tells.kp T.b_tells tk (da_cons (de_name (pv 0)) (da_cons (de_name (pv 1)) da_nil))))
    (dss_cons (ds_if (dt_w (dw_or (dt_not (dt_tr (de_callB (cr_isiG (T.tab _)) rfl T.z_isinstance (by decide +kernel) (da_cons (de_name (pv 4)) (da_cons (de_ty rfl T.z_bool (by decide +kernel)) da_nil))))) (dw_or1 (dt_cmp (or_ne hr.units) (de_name (pv 4)) (de_cmp or_is (de_name (pv 2)) de_non (nomark _)) (nomark _)))))
    (dss_one (ds_ret de_bl))
    dss_nil)
    (dss_cons (ds_if (dt_cmp or_is (de_name (pv 2)) de_non (nomark _))
    (dss_one (ds_ret (de_cmp or_is (de_name (pv 3)) de_non (nomark _))))
    dss_nil)
    (dss_cons (ds_if (dt_w (dw_or (dt_not (dt_tr (de_callB (cr_isiG (T.tab _)) rfl T.z_isinstance (by decide +kernel) (da_cons (de_name (pv 3)) (da_cons (de_ty rfl T.z_tuple (by decide +kernel)) da_nil))))) (dw_or (dt_cmp (or_ne hr.units) (de_callB cr_len rfl T.z_len (by decide +kernel) (da_cons (de_name (pv 3)) da_nil)) de_int (nomark _)) (dw_or (dt_not (dt_tr (de_call (ok__law_whole T) (hr.mono (by decide)) rfl T.g__law_whole T.F__law_whole.kp T.b__law_whole tk (da_cons (de_ix ir_ix (de_name (pv 3)) de_int (fun _ _ => rfl)) da_nil)))) (dw_or1 (dt_not (dt_tr (de_call (ok__law_whole T) (hr.mono (by decide)) rfl T.g__law_whole T.F__law_whole.kp T.b__law_whole tk (da_cons (de_ix ir_ix (de_name (pv 3)) de_int (fun _ _ => rfl)) da_nil)))))))))
    (dss_one (ds_ret de_bl))
    dss_nil)
    (dss_one (ds_ret (de_cmp (or_eq hr.units) (de_name (pv 3)) (de_name (pv 2)) (nomark _)))))))))) (fun _ _ _ _ h => by unfold w__law_asks at h; exact h)
theorem sc_Sight___eq__ : FnScope ["self", "other"] ["self", "other"] (defScope st_Sight___eq__) := ⟨rfl, rfl, rfl, by decide +kernel, rfl, by decide +kernel, by decide +kernel⟩
def t_Sight___eq__ : TSd :=
  (sRet (eAnd (eCB (cIsiG tab) (aCons (eVar 1) (aCons (eC (.gl "Sight")) aNil))) (eOp oEq (eAttr at_marks "marks" (eVar 0)) (eAttr at_marks "marks" (eVar 1)))))
@[irreducible] def w_Sight___eq__ : Spd := fun ds P Xp => t_Sight___eq__ { nx := fun _ => P .non, rt := P, ro := fun o => P o.d, xc := fun C fs _ => Xp C fs } (startD 2 ds)
theorem ok_Sight___eq__ {P : Program} {w : World} {K : PySem.W.Frag} {mg : Str → Option Value} {base : Heap} (T : Txt K mg) : FnOk P w K mg base (L2N.CX P w) 1 T.a_Sight___eq__ T.d_Sight___eq__ ["self", "other"] (spL ⟨K, mg, []⟩ 2 w_Sight___eq__) :=
  ok_def (k := 0) (t := t_Sight___eq__) T.F_Sight___eq__ sc_Sight___eq__ (fun cdv A outer s H E W hr hW tk =>
    (dss_one (ds_ret (de_and (de_callB (cr_isiG (T.tab _)) rfl T.z_isinstance (by decide +kernel) (da_cons (de_name (pv 1)) (da_cons (de_gl rfl T.g_Sight) da_nil))) (de_one (de_cmp (or_eq hr.units) (de_attr (de_name (pv 0)) (atok_marks T)) (de_attr (de_name (pv 1)) (atok_marks T)) (nomark _))))))) (fun _ _ _ _ h => by unfold w_Sight___eq__ at h; exact h)
def tb___eq__ : Str → Option Spd := fun n => if n = "Sight" then some w_Sight___eq__ else none
theorem rows___eq__ {X : Cx} (T : Txt X.K X.mg) (hr : Room 1 X.A) (hg : gd X = ⟨X.K, X.mg, []⟩ := by rfl) : ∀ n sp, tb___eq__ n = some sp → OpRow X (cmpInfo .Eq).2.1 n sp := by
  intro n sp h
  unfold tb___eq__ at h
  split at h
  · rename_i e; subst e; cases h
    exact ⟨⟨T.c_Sight, T.a_Sight___eq__, T.d_Sight___eq__, ["self", "other"], 1, T.g_Sight, T.sf_Sight, by first | exact T.me_Sight___eq__.at_ | (have q := T.me_Sight___eq__.at_; exact q), T.me_Sight___eq__.fn, (by rw [hg]; exact ok_Sight___eq__ T), (hr.mono (by decide)), T.b_Sight___eq__⟩⟩
  cases h
theorem sc__law_error : FnScope ["_law_error_here", "_law_size", "_law_other"] ["_law_error_here", "_law_size", "_law_other"] (defScope st__law_error) := ⟨rfl, rfl, rfl, by decide +kernel, rfl, by decide +kernel, by decide +kernel⟩
def t__law_error : TSd :=
  (sSeq (sIf (tOr (tNot (tTr (eCB (cIsiG tab) (aCons (eVar 0) (aCons (eC (.gl "SizesDiffer")) aNil))))) (tNot (tTr (eCB (cIsiG tab) (aCons (eVar 0) (aCons (eC (.ty "ValueError")) aNil))))))
  (sRet (eC (.bl false)))
  sNext)
  (sSeq (sIf (tOr (tTr (eCB (cIsiG tab) (aCons (eVar 0) (aCons (eTup (aCons (eC (.gl "NoDeals")) (aCons (eC (.gl "BadLength")) aNil))) aNil)))) (tOr (tNot (tTr (eCall 1 w__law_whole (aCons (eAttr at_one "one" (eVar 0)) aNil)))) (tNot (tTr (eCall 1 w__law_whole (aCons (eAttr at_two "two" (eVar 0)) aNil))))))
  (sRet (eC (.bl false)))
  sNext)
  (sRet (eAnd (eOp oEq (eAttr at_one "one" (eVar 0)) (eVar 1)) (eOp oEq (eAttr at_two "two" (eVar 0)) (eVar 2))))))
@[irreducible] def w__law_error : Spd := fun ds P Xp => t__law_error { nx := fun _ => P .non, rt := P, ro := fun o => P o.d, xc := fun C fs _ => Xp C fs } (startD 3 ds)
theorem ok__law_error {P : Program} {w : World} {K : PySem.W.Frag} {mg : Str → Option Value} {base : Heap} (T : Txt K mg) : FnOk P w K mg base (L2N.CX P w) 2 T.a__law_error T.d__law_error ["_law_error_here", "_law_size", "_law_other"] (spL ⟨K, mg, []⟩ 3 w__law_error) :=
  ok_def (k := 1) (t := t__law_error) T.F__law_error sc__law_error (fun cdv A outer s H E W hr hW tk =>
    (dss_cons (ds_if (dt_w (dw_or (dt_not (dt_tr (de_callB (cr_isiG (T.tab _)) rfl T.z_isinstance (by decide +kernel) (da_cons (de_name (pv 0)) (da_cons (de_gl rfl T.g_SizesDiffer) da_nil))))) (dw_or1 (dt_not (dt_tr (de_callB (cr_isiG (T.tab _)) rfl T.z_isinstance (by decide +kernel) (da_cons (de_name (pv 0)) (da_cons (de_ty rfl T.z_ValueError (by decide +kernel)) da_nil))))))))
    (dss_one (ds_ret de_bl))
    dss_nil)
    (dss_cons (ds_if (dt_w (dw_or (dt_tr (de_callB (cr_isiG (T.tab _)) rfl T.z_isinstance (by decide +kernel) (da_cons (de_name (pv 0)) (da_cons (de_tup (da_cons (de_gl rfl T.g_NoDeals) (da_cons (de_gl rfl T.g_BadLength) da_nil))) da_nil)))) (dw_or (dt_not (dt_tr (de_call (ok__law_whole T) (hr.mono (by decide)) rfl T.g__law_whole T.F__law_whole.kp T.b__law_whole tk (da_cons (de_attr (de_name (pv 0)) (atok_one T)) da_nil)))) (dw_or1 (dt_not (dt_tr (de_call (ok__law_whole T) (hr.mono (by decide)) rfl T.g__law_whole T.F__law_whole.kp T.b__law_whole tk (da_cons (de_attr (de_name (pv 0)) (atok_two T)) da_nil))))))))
    (dss_one (ds_ret de_bl))
    dss_nil)
    (dss_one (ds_ret (de_and (de_cmp (or_eq hr.units) (de_attr (de_name (pv 0)) (atok_one T)) (de_name (pv 1)) (nomark _)) (de_one (de_cmp (or_eq hr.units) (de_attr (de_name (pv 0)) (atok_two T)) (de_name (pv 2)) (nomark _))))))))) (fun _ _ _ _ h => by unfold w__law_error at h; exact h)
theorem okh__law_error {P : Program} {w : World} {K : PySem.W.Frag} {mg : Str → Option Value} {base : Heap} (T : Txt K mg) : FnHp P w K mg base (L2N.CX P w) 2 T.a__law_error T.d__law_error ["_law_error_here", "_law_size", "_law_other"] (spLp K mg 3 w__law_error) :=
  ok_defHp (k := 1) (t := t__law_error) T.F__law_error sc__law_error (fun cdv A outer s H E W p hot hr hW tk =>
    (dss_cons (ds_if (dt_w (dw_or (dt_not (dt_tr (de_callB (cr_isiG (T.tab _)) rfl T.z_isinstance (by decide +kernel) (da_cons (de_name (pv 0)) (da_cons (de_gl rfl T.g_SizesDiffer) da_nil))))) (dw_or1 (dt_not (dt_tr (de_callB (cr_isiG (T.tab _)) rfl T.z_isinstance (by decide +kernel) (da_cons (de_name (pv 0)) (da_cons (de_ty rfl T.z_ValueError (by decide +kernel)) da_nil))))))))
    (dss_one (ds_ret de_bl))
    dss_nil)
    (dss_cons (ds_if (dt_w (dw_or (dt_tr (de_callB (cr_isiG (T.tab _)) rfl T.z_isinstance (by decide +kernel) (da_cons (de_name (pv 0)) (da_cons (de_tup (da_cons (de_gl rfl T.g_NoDeals) (da_cons (de_gl rfl T.g_BadLength) da_nil))) da_nil)))) (dw_or (dt_not (dt_tr (de_callHp (okh__law_whole T) (hr.mono (by decide)) hot rfl T.g__law_whole T.F__law_whole.kp T.b__law_whole tk (da_cons (de_attr (de_name (pv 0)) (atok_one T)) da_nil)))) (dw_or1 (dt_not (dt_tr (de_callHp (okh__law_whole T) (hr.mono (by decide)) hot rfl T.g__law_whole T.F__law_whole.kp T.b__law_whole tk (da_cons (de_attr (de_name (pv 0)) (atok_two T)) da_nil))))))))
    (dss_one (ds_ret de_bl))
    dss_nil)
    (dss_one (ds_ret (de_and (de_cmp (or_eq (hotU hr)) (de_attr (de_name (pv 0)) (atok_one T)) (de_name (pv 1)) (nomark _)) (de_one (de_cmp (or_eq (hotU hr)) (de_attr (de_name (pv 0)) (atok_two T)) (de_name (pv 2)) (nomark _))))))))) (fun _ _ _ _ h => by unfold w__law_error at h; exact h)
theorem sc__law_differs : FnScope ["_law_one", "_law_other", "_law_left", "_law_right", "_law_raised", "_law_error_here"] ["_law_one", "_law_other", "_law_left", "_law_right"] (defScope st__law_differs) := ⟨rfl, rfl, rfl, by decide +kernel, rfl, by decide +kernel, by decide +kernel⟩
def t__law_differs : TSd :=
  (sSeq (sSet (eC (.int 0)) 4)
  (sSeq (sTryAs exm_DealError 5 (sDrop (eCall 2 w_tells (aCons (eVar 0) (aCons (eVar 1) aNil))))
  (sSet (eOp oAdd (eVar 4) (eCB cInt (aCons (eCall 3 w__law_error (aCons (eVar 5) (aCons (eVar 2) (aCons (eVar 3) aNil)))) aNil))) 4))
  (sSeq (sTryAs exm_DealError 5 (sDrop (eCall 2 w_unlike_pair (aCons (eVar 0) (aCons (eVar 1) aNil))))
  (sSet (eOp oAdd (eVar 4) (eCB cInt (aCons (eCall 3 w__law_error (aCons (eVar 5) (aCons (eVar 2) (aCons (eVar 3) aNil)))) aNil))) 4))
  (sRet (eOp oEq (eVar 4) (eC (.int 2)))))))
@[irreducible] def w__law_differs : Spd := fun ds P Xp => t__law_differs { nx := fun _ => P .non, rt := P, ro := fun o => P o.d, xc := fun C fs _ => Xp C fs } (startD 6 ds)
theorem ok__law_differs {P : Program} {w : World} {K : PySem.W.Frag} {mg : Str → Option Value} {base : Heap} (T : Txt K mg) : FnOk P w K mg base (L2N.CX P w) 5 T.a__law_differs T.d__law_differs ["_law_one", "_law_other", "_law_left", "_law_right"] (spL ⟨K, mg, []⟩ 4 w__law_differs) :=
  ok_def (k := 4) (t := t__law_differs) T.F__law_differs sc__law_differs (fun cdv A outer s H E W hr hW tk =>
    (dss_cons (ds_set (i := 4) sc__law_differs.nd rfl (.inl rfl) de_int)
    (dss_cons (ds_tryAs (i := 5) (ex := exm_DealError) rfl rfl rfl sc__law_differs.nd rfl rfl rfl T.g_DealError T.exm_DealError tk
    (fun W pn xe tk hp => (dss_one (ds_expr (de_call (ok_tells T) (hr.mono (by decide)) rfl T.g_tells T.F_tells.kp T.b_tells tk (da_cons (de_name (pv 0)) (da_cons (de_name (pv 1)) da_nil))))))
    (fun a oe pn hot => (dss_one (ds_set (i := 4) sc__law_differs.nd rfl (.inl rfl) (de_op or_add (de_name (pv 4)) (de_callTy cr_int rfl T.z_int (by decide +kernel) (da_cons (de_callHp (okh__law_error T) (roomH_suite (hr.mono (by decide)) _) hot rfl T.g__law_error T.F__law_error.kp T.b__law_error takesN0 (da_cons (de_name (pv 5)) (da_cons (de_name (pv 2)) (da_cons (de_name (pv 3)) da_nil)))) da_nil)))))))
    (dss_cons (ds_tryAs (i := 5) (ex := exm_DealError) rfl rfl rfl sc__law_differs.nd rfl rfl rfl T.g_DealError T.exm_DealError tk
    (fun W pn xe tk hp => (dss_one (ds_expr (de_call (ok_unlike_pair T) (hr.mono (by decide)) rfl T.g_unlike_pair T.F_unlike_pair.kp T.b_unlike_pair tk (da_cons (de_name (pv 0)) (da_cons (de_name (pv 1)) da_nil))))))
    (fun a oe pn hot => (dss_one (ds_set (i := 4) sc__law_differs.nd rfl (.inl rfl) (de_op or_add (de_name (pv 4)) (de_callTy cr_int rfl T.z_int (by decide +kernel) (da_cons (de_callHp (okh__law_error T) (roomH_suite (hr.mono (by decide)) _) hot rfl T.g__law_error T.F__law_error.kp T.b__law_error takesN0 (da_cons (de_name (pv 5)) (da_cons (de_name (pv 2)) (da_cons (de_name (pv 3)) da_nil)))) da_nil)))))))
    (dss_one (ds_ret (de_cmp (or_eq hr.units) (de_name (pv 4)) de_int (nomark _)))))))) (fun _ _ _ _ h => by unfold w__law_differs at h; exact h)
theorem sc__law_parta : FnScope ["_law_script", "_law_rows", "_law_size", "_law_low", "_law_one", "_law_two", "_law_due", "_law_back", "_law_other", "_law_longer", "_law_mark"] ["_law_script"] (defScope st__law_parta) := ⟨rfl, rfl, rfl, by decide +kernel, rfl, by decide +kernel, by decide +kernel⟩
def t__law_parta : TSd :=
  (sSeq (sSet (eF (fCall 1 w__law_draw (aCons (eVar 0) aNil))) 1)
  (sSeq (sSet (eCB cLen (aCons (eOp oIx (eVar 1) (eC (.int 0))) aNil)) 2)
  (sSeq (sSet (eCall 2 w__law_cell (aCons (eVar 0) (aCons (eC (.int 5)) aNil))) 3)
  (sSeq (sSet (eMake "Sight" 2 w_Sight___init__ (aCons (eF (fLc (iSeq (eOp oIx (eVar 1) (eC (.int 0)))) (gN 10) tYes (eOp oSub (eVar 3) (eVar 10)) [10])) aNil)) 4)
  (sSeq (sSet (eMake "Sight" 2 w_Sight___init__ (aCons (eCB cTup (aCons (eF (fLc (iSeq (eOp oIx (eVar 1) (eC (.int 1)))) (gN 10) tYes (eOp oAdd (eVar 3) (eOp oMul (eC (.int 2)) (eVar 10))) [10])) aNil)) aNil)) 5)
  (sSeq (sSet (eCall 2 w__law_pair (aCons (eOp oIx (eVar 1) (eC (.int 0))) (aCons (eOp oIx (eVar 1) (eC (.int 1))) aNil))) 6)
  (sSeq (sSet (eCall 2 w__law_pair (aCons (eOp oIx (eVar 1) (eC (.int 1))) (aCons (eOp oIx (eVar 1) (eC (.int 0))) aNil))) 7)
  (sSeq (sIf (tOr (tNot (tTr (eCall 3 w__law_asks (aCons (eVar 4) (aCons (eVar 5) (aCons (eVar 6) aNil)))))) (tNot (tTr (eCall 3 w__law_asks (aCons (eVar 5) (aCons (eVar 4) (aCons (eVar 7) aNil)))))))
  (sRet (eC (.bl false)))
  sNext)
  (sSeq (sIf (tOr (tBl (eOp oNe (eEqG tab tb___eq__ oEq (eBinG tb___and__ oNone (eVar 4) (eVar 5)) (eVar 4)) (eOp (oIsN false) (eVar 6) (eC .non)))) (tBl (eOp oNe (eEqG tab tb___eq__ oEq (eBinG tb___or__ oNone (eVar 4) (eVar 5)) (eVar 5)) (eOp (oIsN false) (eVar 6) (eC .non)))))
  (sRet (eC (.bl false)))
  sNext)
  (sSeq (sIf (tOr (tBl (eOp oNe (eEqG tab tb___eq__ oEq (eBinG tb___and__ oNone (eVar 4) (eVar 5)) (eVar 5)) (eOp (oIsN false) (eVar 7) (eC .non)))) (tBl (eOp oNe (eEqG tab tb___eq__ oEq (eBinG tb___or__ oNone (eVar 4) (eVar 5)) (eVar 4)) (eOp (oIsN false) (eVar 7) (eC .non)))))
  (sRet (eC (.bl false)))
  sNext)
  (sSeq (sFor (iSeq (eF (fLst (aCons (eVar 4) (aCons (eBinG tb___or__ oNone (eVar 4) (eVar 5)) (aCons (eBinG tb___or__ oNone (eVar 5) (eVar 4)) (aCons (eCm "Sight" 2 w_Sight_nothing (aCons (eVar 2) aNil)) aNil))))))) (gN 8)
  (sIf (tNot (tTr (eCall 3 w__law_asks (aCons (eVar 4) (aCons (eVar 8) (aCons (eC .non) aNil))))))
  (sRet (eC (.bl false)))
  sNext))
  (sSeq (sFor (iSeq (eF (fLst (aCons (eVar 5) (aCons (eBinG tb___and__ oNone (eVar 4) (eVar 5)) (aCons (eBinG tb___and__ oNone (eVar 5) (eVar 4)) (aCons (eCm "Sight" 2 w_Sight_everything (aCons (eVar 2) aNil)) aNil))))))) (gN 8)
  (sIf (tNot (tTr (eCall 3 w__law_asks (aCons (eVar 8) (aCons (eVar 5) (aCons (eC .non) aNil))))))
  (sRet (eC (.bl false)))
  sNext))
  (sSeq (sSet (eMake "Sight" 2 w_Sight___init__ (aCons (eOp oAdd (eOp oIx (eVar 1) (eC (.int 0))) (eF (fLst (aCons (eOp oIx (eOp oIx (eVar 1) (eC (.int 0))) (eC (.int 0))) aNil)))) aNil)) 9)
  (sSeq (sIf (tOr (tNot (tTr (eCall 4 w__law_differs (aCons (eVar 4) (aCons (eVar 9) (aCons (eVar 2) (aCons (eOp oAdd (eVar 2) (eC (.int 1))) aNil))))))) (tNot (tTr (eCall 4 w__law_differs (aCons (eVar 9) (aCons (eVar 5) (aCons (eOp oAdd (eVar 2) (eC (.int 1))) (aCons (eVar 2) aNil))))))))
  (sRet (eC (.bl false)))
  sNext)
  (sRet (eAnd (eCall 3 w__law_asks (aCons (eVar 4) (aCons (eVar 5) (aCons (eVar 6) aNil)))) (eCall 3 w__law_asks (aCons (eVar 5) (aCons (eVar 4) (aCons (eVar 7) aNil))))))))))))))))))))
@[irreducible] def w__law_parta : Spd := fun ds P Xp => t__law_parta { nx := fun _ => P .non, rt := P, ro := fun o => P o.d, xc := fun C fs _ => Xp C fs } (startD 11 ds)
theorem ok__law_parta {P : Program} {w : World} {K : PySem.W.Frag} {mg : Str → Option Value} {base : Heap} (T : Txt K mg) : FnOk P w K mg base (L2N.CX P w) 7 T.a__law_parta T.d__law_parta ["_law_script"] (spL ⟨K, mg, []⟩ 1 w__law_parta) :=
  ok_def (k := 6) (t := t__law_parta) T.F__law_parta sc__law_parta (fun cdv A outer s H E W hr hW tk =>
    (dss_cons (ds_set (i := 1) sc__law_parta.nd rfl (.inl rfl) (de_f (df_call (ok__law_draw T) (hr.mono (by decide)) rfl T.g__law_draw T.F__law_draw.kp T.b__law_draw tk (da_cons (de_name (pv 0)) da_nil))))
    (dss_cons (ds_set (i := 2) sc__law_parta.nd rfl (.inl rfl) (de_callB cr_len rfl T.z_len (by decide +kernel) (da_cons (de_ix ir_ix (de_name (pv 1)) de_int (fun _ _ => rfl)) da_nil)))
    (dss_cons (ds_set (i := 3) sc__law_parta.nd rfl (.inr rfl) (de_call (ok__law_cell T) (hr.mono (by decide)) rfl T.g__law_cell T.F__law_cell.kp T.b__law_cell tk (da_cons (de_name (pv 0)) (da_cons de_int da_nil))))
    (dss_cons (ds_set (i := 4) sc__law_parta.nd rfl (.inl rfl) (de_make T.mk_Sight (ok_Sight___init__ T) (hr.mono (by decide)) rfl T.g_Sight T.b_Sight___init__ tk (da_cons (de_f (df_lc (own := [("_law_mark", 10)]) rfl sc__law_parta.nd (di_seq (de_ix ir_ix (de_name (pv 1)) de_int (fun _ _ => rfl))) (blkOk_by (N := ["_law_script", "_law_rows", "_law_size", "_law_low", "_law_one", "_law_two", "_law_due", "_law_back", "_law_other", "_law_longer", "_law_mark"]) (sc := defScope st__law_parta) (by decide +kernel)) (fun _ _ _ _ _ => (dg_name (i := 10) sc__law_parta.nd rfl (.inl rfl))) (fun _ _ _ _ _ => dts_nil) (fun _ _ _ _ _ => (de_op or_sub (de_name (pv 3)) (de_name (pv 10)))))) da_nil)))
    (dss_cons (ds_set (i := 5) sc__law_parta.nd rfl (.inl rfl) (de_make T.mk_Sight (ok_Sight___init__ T) (hr.mono (by decide)) rfl T.g_Sight T.b_Sight___init__ tk (da_cons (de_callTy cr_tup rfl T.z_tuple (by decide +kernel) (da_cons (de_f (df_lc (own := [("_law_mark", 10)]) rfl sc__law_parta.nd (di_seq (de_ix ir_ix (de_name (pv 1)) de_int (fun _ _ => rfl))) (blkOk_by (N := ["_law_script", "_law_rows", "_law_size", "_law_low", "_law_one", "_law_two", "_law_due", "_law_back", "_law_other", "_law_longer", "_law_mark"]) (sc := defScope st__law_parta) (by decide +kernel)) (fun _ _ _ _ _ => (dg_name (i := 10) sc__law_parta.nd rfl (.inl rfl))) (fun _ _ _ _ _ => dts_nil) (fun _ _ _ _ _ => (de_op or_add (de_name (pv 3)) (de_op or_mul de_int (de_name (pv 10))))))) da_nil)) da_nil)))
    (dss_cons (ds_set (i := 6) sc__law_parta.nd rfl (.inl rfl) (de_call (ok__law_pair T) (hr.mono (by decide)) rfl T.g__law_pair T.F__law_pair.kp T.b__law_pair tk (da_cons (de_ix ir_ix (de_name (pv 1)) de_int (fun _ _ => rfl)) (da_cons (de_ix ir_ix (de_name (pv 1)) de_int (fun _ _ => rfl)) da_nil))))
    (dss_cons (ds_set (i := 7) sc__law_parta.nd rfl (.inl rfl) (de_call (ok__law_pair T) (hr.mono (by decide)) rfl T.g__law_pair T.F__law_pair.kp T.b__law_pair tk (da_cons (de_ix ir_ix (de_name (pv 1)) de_int (fun _ _ => rfl)) (da_cons (de_ix ir_ix (de_name (pv 1)) de_int (fun _ _ => rfl)) da_nil))))
    (dss_cons (ds_if (dt_w (dw_or (dt_not (dt_tr (de_call (ok__law_asks T) (hr.mono (by decide)) rfl T.g__law_asks T.F__law_asks.kp T.b__law_asks tk (da_cons (de_name (pv 4)) (da_cons (de_name (pv 5)) (da_cons (de_name (pv 6)) da_nil)))))) (dw_or1 (dt_not (dt_tr (de_call (ok__law_asks T) (hr.mono (by decide)) rfl T.g__law_asks T.F__law_asks.kp T.b__law_asks tk (da_cons (de_name (pv 5)) (da_cons (de_name (pv 4)) (da_cons (de_name (pv 7)) da_nil)))))))))
    (dss_one (ds_ret de_bl))
    dss_nil)
    (dss_cons (ds_if (dt_w (dw_or (dt_cmp (or_ne hr.units) (de_eqG (T.tab _) rfl hr.units (rows___eq__ T (hr.mono (by decide))) tk (or_eq hr.units) (de_binG (T := tb___and__) (rows___and__ T (hr.mono (by decide))) tk or_none (de_name (pv 4)) (de_name (pv 5))) (de_name (pv 4)) (nomark _)) (de_cmp or_is (de_name (pv 6)) de_non (nomark _)) (nomark _)) (dw_or1 (dt_cmp (or_ne hr.units) (de_eqG (T.tab _) rfl hr.units (rows___eq__ T (hr.mono (by decide))) tk (or_eq hr.units) (de_binG (T := tb___or__) (rows___or__ T (hr.mono (by decide))) tk or_none (de_name (pv 4)) (de_name (pv 5))) (de_name (pv 5)) (nomark _)) (de_cmp or_is (de_name (pv 6)) de_non (nomark _)) (nomark _)))))
    (dss_one (ds_ret de_bl))
    dss_nil)
    (dss_cons (ds_if (dt_w (dw_or (dt_cmp (or_ne hr.units) (de_eqG (T.tab _) rfl hr.units (rows___eq__ T (hr.mono (by decide))) tk (or_eq hr.units) (de_binG (T := tb___and__) (rows___and__ T (hr.mono (by decide))) tk or_none (de_name (pv 4)) (de_name (pv 5))) (de_name (pv 5)) (nomark _)) (de_cmp or_is (de_name (pv 7)) de_non (nomark _)) (nomark _)) (dw_or1 (dt_cmp (or_ne hr.units) (de_eqG (T.tab _) rfl hr.units (rows___eq__ T (hr.mono (by decide))) tk (or_eq hr.units) (de_binG (T := tb___or__) (rows___or__ T (hr.mono (by decide))) tk or_none (de_name (pv 4)) (de_name (pv 5))) (de_name (pv 4)) (nomark _)) (de_cmp or_is (de_name (pv 7)) de_non (nomark _)) (nomark _)))))
    (dss_one (ds_ret de_bl))
    dss_nil)
    (dss_cons (ds_for (vs := [8]) (passes_of rfl) rfl (di_seq (de_f (df_lst (da_cons (de_name (pv 4)) (da_cons (de_binG (T := tb___or__) (rows___or__ T (hr.mono (by decide))) tk or_none (de_name (pv 4)) (de_name (pv 5))) (da_cons (de_binG (T := tb___or__) (rows___or__ T (hr.mono (by decide))) tk or_none (de_name (pv 5)) (de_name (pv 4))) (da_cons (de_cmeth (pe_glob (v := .ref T.c_Sight) rfl T.g_Sight rfl (by decide)) T.g_Sight T.cr_Sight T.cm_Sight_nothing (ok_Sight_nothing T) (hr.mono (by decide)) T.b_Sight_nothing (da_cons (de_name (pv 2)) da_nil)) da_nil))))))) (dg_name (i := 8) sc__law_parta.nd rfl (.inl rfl))
    (dss_one (ds_if (dt_not (dt_tr (de_call (ok__law_asks T) (hr.mono (by decide)) rfl T.g__law_asks T.F__law_asks.kp T.b__law_asks tk (da_cons (de_name (pv 4)) (da_cons (de_name (pv 8)) (da_cons de_non da_nil))))))
    (dss_one (ds_ret de_bl))
    dss_nil)))
    (dss_cons (ds_for (vs := [8]) (passes_of rfl) rfl (di_seq (de_f (df_lst (da_cons (de_name (pv 5)) (da_cons (de_binG (T := tb___and__) (rows___and__ T (hr.mono (by decide))) tk or_none (de_name (pv 4)) (de_name (pv 5))) (da_cons (de_binG (T := tb___and__) (rows___and__ T (hr.mono (by decide))) tk or_none (de_name (pv 5)) (de_name (pv 4))) (da_cons (de_cmeth (pe_glob (v := .ref T.c_Sight) rfl T.g_Sight rfl (by decide)) T.g_Sight T.cr_Sight T.cm_Sight_everything (ok_Sight_everything T) (hr.mono (by decide)) T.b_Sight_everything (da_cons (de_name (pv 2)) da_nil)) da_nil))))))) (dg_name (i := 8) sc__law_parta.nd rfl (.inl rfl))
    (dss_one (ds_if (dt_not (dt_tr (de_call (ok__law_asks T) (hr.mono (by decide)) rfl T.g__law_asks T.F__law_asks.kp T.b__law_asks tk (da_cons (de_name (pv 8)) (da_cons (de_name (pv 5)) (da_cons de_non da_nil))))))
    (dss_one (ds_ret de_bl))
    dss_nil)))
    (dss_cons (ds_set (i := 9) sc__law_parta.nd rfl (.inl rfl) (de_make T.mk_Sight (ok_Sight___init__ T) (hr.mono (by decide)) rfl T.g_Sight T.b_Sight___init__ tk (da_cons (de_op or_add (de_ix ir_ix (de_name (pv 1)) de_int (fun _ _ => rfl)) (de_f (df_lst (da_cons (de_ix ir_ix (de_ix ir_ix (de_name (pv 1)) de_int (fun _ _ => rfl)) de_int (fun _ _ => rfl)) da_nil)))) da_nil)))
    (dss_cons (ds_if (dt_w (dw_or (dt_not (dt_tr (de_call (ok__law_differs T) (hr.mono (by decide)) rfl T.g__law_differs T.F__law_differs.kp T.b__law_differs tk (da_cons (de_name (pv 4)) (da_cons (de_name (pv 9)) (da_cons (de_name (pv 2)) (da_cons (de_op or_add (de_name (pv 2)) de_int) da_nil))))))) (dw_or1 (dt_not (dt_tr (de_call (ok__law_differs T) (hr.mono (by decide)) rfl T.g__law_differs T.F__law_differs.kp T.b__law_differs tk (da_cons (de_name (pv 9)) (da_cons (de_name (pv 5)) (da_cons (de_op or_add (de_name (pv 2)) de_int) (da_cons (de_name (pv 2)) da_nil))))))))))
    (dss_one (ds_ret de_bl))
    dss_nil)
    (dss_one (ds_ret (de_and (de_call (ok__law_asks T) (hr.mono (by decide)) rfl T.g__law_asks T.F__law_asks.kp T.b__law_asks tk (da_cons (de_name (pv 4)) (da_cons (de_name (pv 5)) (da_cons (de_name (pv 6)) da_nil)))) (de_one (de_call (ok__law_asks T) (hr.mono (by decide)) rfl T.g__law_asks T.F__law_asks.kp T.b__law_asks tk (da_cons (de_name (pv 5)) (da_cons (de_name (pv 4)) (da_cons (de_name (pv 7)) da_nil))))))))))))))))))))))) (fun _ _ _ _ h => by unfold w__law_parta at h; exact h)
theorem sc_law : FnScope ["_law_script"] ["_law_script"] (defScope st_law) := ⟨rfl, rfl, rfl, by decide +kernel, rfl, by decide +kernel, by decide +kernel⟩
def t_law : TSd :=
  (sSeq (sIf (tNot (tTr (eCall 1 w__law_parta (aCons (eVar 0) aNil))))
  (sRet (eC (.bl false)))
  sNext)
  (sRet (eCall 1 w__law_partb (aCons (eVar 0) aNil))))
@[irreducible] def w_law : Spd := fun ds P Xp => t_law { nx := fun _ => P .non, rt := P, ro := fun o => P o.d, xc := fun C fs _ => Xp C fs } (startD 1 ds)
theorem ok_law {P : Program} {w : World} {K : PySem.W.Frag} {mg : Str → Option Value} {base : Heap} (T : Txt K mg) : FnOk P w K mg base (L2N.CX P w) 8 T.a_law T.d_law ["_law_script"] (spL ⟨K, mg, []⟩ 1 w_law) :=
  ok_def (k := 7) (t := t_law) T.F_law sc_law (fun cdv A outer s H E W hr hW tk =>
    (dss_cons (ds_if (dt_not (dt_tr (de_call (ok__law_parta T) (hr.mono (by decide)) rfl T.g__law_parta T.F__law_parta.kp T.b__law_parta tk (da_cons (de_name (pv 0)) da_nil))))
    (dss_one (ds_ret de_bl))
    dss_nil)
    (dss_one (ds_ret (de_call (ok__law_partb T) (hr.mono (by decide)) rfl T.g__law_partb T.F__law_partb.kp T.b__law_partb tk (da_cons (de_name (pv 0)) da_nil)))))) (fun _ _ _ _ h => by unfold w_law at h; exact h)
end K01

namespace K01
open PySem PySem.Spec PyProof.Rows L2 Z Sg
local macro_rules | `(tactic| walk_at "zz") => `(tactic| try simp only [Z.sNext, Z.sSeq, Z.sSet, Z.sSetF, Z.sAsg, Z.sIf, Z.sRet, Z.sRetF, Z.sRetO, Z.sRetN, Z.sDrop, Z.sBrk, Z.sCont, Z.sFrz, Z.sApp, Z.sSetIx, Z.eVar, Z.eC, Z.eOp, Z.eUn, Z.eCh, Z.tBl, Z.tTr, Z.tAnd, Z.tOr, Z.tNot, Z.eAnd, Z.eOr, Z.eNot, Z.eIf, Z.aNil, Z.aCons, Z.eTup, Z.fLst, Z.eF, Z.eCB, Z.fCB, Z.eCall, Z.fCall, Z.gN, Z.gTup, Z.gsCons, Z.gsNil, Z.iSeq, Z.iRng1, Z.iRng2, Z.eIxO, Z.eLenO, Z.startD, Z.wipeD, Z.d_lst, Z.d_ins, Z.d_dk, Z.d_dt, Z.tYes, Z.isBl_bl, Z.caseB_t, Z.caseB_f, Z.truP_bl, Z.truP_int, Z.truP_non, Z.truP_lst, Z.truP_tup, Z.oI_int, Z.oC_int, Z.oNeg_int, Z.oAdd_int, Z.oAdd_str, Z.oAdd_lst, Z.oAdd_tup, Z.oEq_int, Z.oNe_int, Z.oEq_str, Z.oNe_str, Z.oEq_lst, Z.oNe_lst, Z.oEq_tup, Z.oNe_tup, Z.oIn_tup, Z.oIn_lst, Z.oIx_lst, Z.oIx_tup, Z.oIx_scr, Z.oIx_str, Z.cLen_lst, Z.cLen_tup, Z.cLen_scr, Z.cLen_str, Z.cAbs_int, Z.cInt_int, Z.cInt_bl, Z.cMax_2, Z.cMin_2, Z.cMax_l, Z.cMin_l, Z.cTup_lst, Z.cTup_tup, Z.cLst_lst, Z.cLst_tup, Z.cLst_scr, Z.cGcd_int, Z.itemsD_lst, Z.itemsD_tup, Z.itemsD_scr, Z.rng1_int, Z.rng2_int, Z.asTup_tup, Z.oEq_bl, Z.oNe_bl, Z.ixD_int, List.map_cons, List.map_nil, List.length_cons, List.length_nil, List.replicate, List.cons_append, List.nil_append, List.set_cons_zero, List.set_cons_succ, List.getElem?_cons_zero, List.getElem?_cons_succ, Option.some.injEq, Z.Sl.val.injEq, Z.Sl.own.injEq, Z.Ow.lst.injEq, Z.D.int.injEq, exists_eq_left', exists_eq_left, true_and, and_true, if_true, if_false, Bool.false_eq_true, decide_eq_true_eq, Bool.not_true, Bool.not_false, Bool.not_eq_true', decide_eq_false_iff_not, Z.eInO, Z.sPutO, Z.eGetO, Z.eLenD, Z.sFldS, Z.eFldO, Z.eAttr, Z.eMake, Z.eMakeL, Z.eCm, Z.sRaise0, Z.sRaiseI, Z.aStar, Z.fZip, Z.fRep, Z.eRoot, Z.eIxP, Z.eLenP, Z.sAppP, Z.sSetIxP, Z.eMethG, Z.eBinG, Z.eEqG, Z.eBor, Z.tBor, Z.fBor, Z.zipD_tup, Z.cMaxG_2, Z.startI, Z.sTryAs, reduceIte, reduceCtorEq, decide_true, decide_false, not_true_eq_false, not_false_eq_true, Bool.or_true, Bool.true_or, Bool.or_false, Bool.false_or, Bool.and_true, Bool.true_and, Bool.and_false, Bool.false_and, Z.lk0, Z.ex_some, Z.at0, Z.at1, Z.at2, Z.at3, Z.at4, Z.at5, Z.at6, Z.at7, Z.at8, Z.at9, Z.at10, Z.at11, Z.lenO_lst, Z.oIs_eq, Z.oIsnot_eq, Z.isNon_non, Z.isNon_bl, Z.isNon_int, Z.isNon_str, Z.isNon_tup, Z.isNon_lst, Z.isNon_ins, Z.eSl, Z.pNo, Z.pSome, Z.oSl, Z.sIns])
theorem cell_ok (ns : List Int) (k : Int) (h0 : 0 ≤ k) (hk : k < 100) {P : D → Prop} {Xp : Xd} (h : ∀ c : Int, P (.int c)) : w__law_cell [.scr (ns.map D.int), .int k] P Xp := by
  unfold w__law_cell t__law_cell
  walk_at "zz"
  split
  · rename_i hlt
    rw [List.length_map] at hlt
    obtain ⟨x, hx, _⟩ := atI_some (l := ns) h0 hlt
    exact ⟨.int x, by rw [atI_map, hx]; rfl, h x⟩
  · refine for_of (ns.map D.int) (fun _ ρ' => ∃ s x, 0 ≤ s ∧ s < 1000003 ∧ ρ' = [Sl.val (D.scr (ns.map D.int)), Sl.val (D.int k), Sl.val (D.int s), x]) (fun P Xp q => by walk_at "zz"; exact q) ⟨17, _, by decide, by decide, rfl⟩ ?_ ?_
    · rintro i x ρ' hx ⟨s, y, h1, h2, rfl⟩
      obtain ⟨n, _, rfl⟩ := map_get hx
      walk_at "zz"
      obtain ⟨m0, m1⟩ := modpos (a := s * 31 + n.fmod 1000003) (b := 1000003) (by decide)
      exact ⟨small_mul (b64 (by omega)) (b64 (by omega)), by decide, by decide, _, _, m0, m1, rfl⟩
    · rintro ρ' ⟨s, y, h1, h2, rfl⟩
      walk_at "zz"
      have a1 : 0 ≤ (s + 7) * (k + 3) := Int.mul_nonneg (by omega) (by omega)
      have a2 : (s + 7) * (k + 3) ≤ 1000010 * 103 := Int.mul_le_mul (by omega) (by omega) (by omega) (by decide)
      exact ⟨small_mul (b64 (by omega)) (b64 (by omega)), small_mul (b64 (by omega)) (b64 (by omega)), by decide, h _⟩
theorem digits_ok (c : Int) (sizes : List Int) (hs : ∀ s ∈ sizes, 0 < s ∧ s < 2 ^ 60) (hl : sizes.length ≤ 10000) {P : List D → Prop} {Xp : Xd} (h : ∀ l : List Int, Dig l sizes → P (l.map D.int)) :
    w__law_digits [.int c, .lst (sizes.map D.int)] P Xp := by
  unfold w__law_digits t__law_digits
  walk_at "zz"
  have grow : ∀ (l : List Int) (i : Nat) (x s : Int), l.length = i → (∀ (j : Nat) y t, l[j]? = some y → sizes[j]? = some t → 0 ≤ y ∧ y < t) → sizes[i]? = some s → 0 ≤ x → x < s → ∀ (j : Nat) y t, (l ++ [x])[j]? = some y → sizes[j]? = some t → 0 ≤ y ∧ y < t := by
    intro l i x s hi hd hsi h0 h1 j y t hy ht
    by_cases q : j < l.length
    · rw [List.getElem?_append_left q] at hy
      exact hd j y t hy ht
    · have ej : j = l.length := by
        have := (List.getElem?_eq_some_iff.mp hy).1
        simp at this
        omega
      subst ej
      rw [List.getElem?_append_right (Nat.le_refl _)] at hy
      simp at hy
      subst hy
      rw [hi, hsi] at ht
      cases ht
      exact ⟨h0, h1⟩
  have room : ∀ l : List Int, ∀ i : Nat, l.length = i → i < sizes.length → (l.map D.int).length < sizeLine := by
    intro l i e hi
    rw [List.length_map, sizeLine_eq]
    omega
  refine ⟨by decide, ⟨by decide, by decide, by decide⟩, ?_⟩
  refine ⟨by decide, ?_⟩
  generalize (if c - 10 ^ (Int.toNat 18) > 0 then c - 10 ^ (Int.toNat 18) else 0) = r0
  refine for_rng sizes.length (fun i ρ' => ∃ (l : List Int) (r s : Int) (y z : Sl), l.length = i ∧ (∀ (j : Nat) y t, l[j]? = some y → sizes[j]? = some t → 0 ≤ y ∧ y < t) ∧ 0 ≤ s ∧ s < 2147483647 ∧
      ρ' = [Sl.val (D.int c), Sl.val (D.lst (sizes.map D.int)), Sl.own (Ow.lst (l.map D.int)), Sl.val (D.int r), Sl.val (D.int s), y, z]) (fun P Xp q => by
        walk_at "zz"
        rw [List.length_map]
        exact ⟨by omega, by omega, q⟩) ⟨[], _, _, _, _, rfl, fun _ _ _ z => by simp at z, (modpos (by decide)).1, Int.lt_trans (modpos (by decide)).2 (by decide), rfl⟩ ?_ ?_
  · rintro i ρ' hi ⟨l, r, s, y, z, e, hd, h1, h2, rfl⟩
    obtain ⟨t, ht⟩ : ∃ t, sizes[i]? = some t := ⟨_, List.getElem?_eq_getElem hi⟩
    obtain ⟨p0, p1⟩ := hs t (List.mem_of_getElem? ht)
    have hat : atI (sizes.map D.int) (i : Int) = some (.int t) := by rw [atN, get_map ht]
    walk_at "zz"
    refine ⟨small_mul (b64 (by omega)) (b64 (by omega)), small_mul (b64 (by omega)) (b64 (by omega)), by decide, ?_⟩
    obtain ⟨a0, a1⟩ := modpos (a := s * 48271 + 974711 * (i : Int) + 12345) (b := 2147483647) (by decide)
    split
    · obtain ⟨m0, m1⟩ := modpos (a := r) p0
      refine ⟨.int t, hat, ?_⟩
      walk_at "zz"
      refine ⟨by omega, room l i e hi, .int t, hat, ?_⟩
      walk_at "zz"
      exact ⟨divX p0 (b64 (by omega)) (by decide) (by decide), l ++ [r.fmod t], _, _, _, _, by simp [e], grow l i _ t e hd ht m0 m1, a0, a1, by rw [List.map_append]; rfl⟩
    · obtain ⟨d0, d1⟩ := fdiv_nn (a := (s * 48271 + 974711 * (i : Int) + 12345).fmod 2147483647) (b := 65537) (by decide) a0
      obtain ⟨b0, b1⟩ := modpos (a := (s * 48271 + 974711 * (i : Int) + 12345).fmod 2147483647 * (((s * 48271 + 974711 * (i : Int) + 12345).fmod 2147483647).fdiv 65537 + 3)) (b := 2147483629) (by decide)
      obtain ⟨m0, m1⟩ := modpos (a := (((s * 48271 + 974711 * (i : Int) + 12345).fmod 2147483647 * (((s * 48271 + 974711 * (i : Int) + 12345).fmod 2147483647).fdiv 65537 + 3)).fmod 2147483629).fdiv 19) p0
      refine ⟨divX (by decide) (n := 20) (by unfold B; decide) (by decide) (by decide), small_mul (b64 (by omega)) (b64 (by omega)), by decide, divX (by decide) (n := 20) (by unfold B; decide) (by decide) (by decide), .int t, hat, ?_⟩
      walk_at "zz"
      exact ⟨by omega, room l i e hi, l ++ [_], _, _, _, _, by simp [e], grow l i _ t e hd ht m0 m1, a0, a1, by rw [List.map_append]; rfl⟩
  · rintro ρ' ⟨l, r, s, y, z, e, hd, h1, h2, rfl⟩
    walk_at "zz"
    exact h l ⟨e, hd⟩
theorem digits_rep {c w sz : Int} {P : List D → Prop} {Xp : Xd} (w0 : 0 < w) (w1 : w < 2 ^ 60) (s0 : 0 ≤ sz) (s1 : sz ≤ 10000) (h : ∀ l : List Int, l.length = sz.toNat → (∀ x ∈ l, 0 ≤ x ∧ x < w) → P (l.map D.int)) :
    -(2 ^ 63) ≤ sz ∧ sz < 2 ^ 63 ∧ [D.int w].length * sz.toNat ≤ sizeLine ∧ w__law_digits [.int c, .lst (List.replicate sz.toNat [D.int w]).flatten] P Xp := by
  have hsz : sizeLine = 2 ^ 24 := rfl
  refine ⟨by omega, by omega, by simp only [List.length_cons, List.length_nil]; omega, ?_⟩
  rw [rep1]
  refine digits_ok c _ (fun s hs => ?_) (by simp; omega) fun l hl => ?_
  · have := (List.mem_replicate.mp hs).2
    omega
  · obtain ⟨h1, h2⟩ := dig_all hl
    exact h l h1 h2
/-! ### sights as data -/
section
variable {κ : Type} [DecidableEq κ] {P : D → Prop} {Xp : Xd} {PL : List D → Prop} {r s : List Nat}
def sgt (r : List Nat) : D := .ins "Sight" [("size", nI r.length), ("marks", .tup (nL r))]
theorem fold_sgt : D.ins "Sight" [("size", nI r.length), ("marks", .tup (nL r))] = sgt r := rfl
theorem a_marks : attrD at_marks "marks" (sgt r) P = P (.tup (nL r)) := by
  unfold sgt
  rw [attr_fld (t := .c "Sight") rfl (by unfold at_marks; rw [if_pos rfl])]
  show (∃ v, List.lookup _ [_, _] = some v ∧ P v) = _
  rw [lk1 (by decide), lk0, ex_some]
theorem a_size : attrD at_size "size" (sgt r) P = P (nI r.length) := by
  unfold sgt
  rw [attr_fld (t := .c "Sight") rfl (by unfold at_size; rw [if_pos rfl])]
  show (∃ v, List.lookup _ [_, _] = some v ∧ P v) = _
  rw [lk0, ex_some]
theorem a_cells : attrD at_cells "cells" (sgt r) P = w_Sight_cells [sgt r] P NoX := by
  unfold sgt
  rw [attr_prop (t := .c "Sight") rfl (by unfold at_cells; rw [if_pos rfl])]
end
section
variable {r : List Nat}
theorem i_NoneType_Sight  {P : D → Prop} : cIsiG tab [.non, .gl "Sight"] P = P (.bl false) := isiG_eq (t := .b "NoneType") rfl (by decide +kernel)
theorem i_NoneType_SizesDiffer  {P : D → Prop} : cIsiG tab [.non, .gl "SizesDiffer"] P = P (.bl false) := isiG_eq (t := .b "NoneType") rfl (by decide +kernel)
theorem i_NoneType_NoDeals  {P : D → Prop} : cIsiG tab [.non, .gl "NoDeals"] P = P (.bl false) := isiG_eq (t := .b "NoneType") rfl (by decide +kernel)
theorem i_NoneType_BadLength  {P : D → Prop} : cIsiG tab [.non, .gl "BadLength"] P = P (.bl false) := isiG_eq (t := .b "NoneType") rfl (by decide +kernel)
theorem i_bool_Sight {b : Bool} {P : D → Prop} : cIsiG tab [(.bl b), .gl "Sight"] P = P (.bl false) := isiG_eq (t := .b "bool") rfl (by decide +kernel)
theorem i_bool_SizesDiffer {b : Bool} {P : D → Prop} : cIsiG tab [(.bl b), .gl "SizesDiffer"] P = P (.bl false) := isiG_eq (t := .b "bool") rfl (by decide +kernel)
theorem i_bool_NoDeals {b : Bool} {P : D → Prop} : cIsiG tab [(.bl b), .gl "NoDeals"] P = P (.bl false) := isiG_eq (t := .b "bool") rfl (by decide +kernel)
theorem i_bool_BadLength {b : Bool} {P : D → Prop} : cIsiG tab [(.bl b), .gl "BadLength"] P = P (.bl false) := isiG_eq (t := .b "bool") rfl (by decide +kernel)
theorem i_int_Sight {i : Int} {P : D → Prop} : cIsiG tab [(.int i), .gl "Sight"] P = P (.bl false) := isiG_eq (t := .b "int") rfl (by decide +kernel)
theorem i_int_SizesDiffer {i : Int} {P : D → Prop} : cIsiG tab [(.int i), .gl "SizesDiffer"] P = P (.bl false) := isiG_eq (t := .b "int") rfl (by decide +kernel)
theorem i_int_NoDeals {i : Int} {P : D → Prop} : cIsiG tab [(.int i), .gl "NoDeals"] P = P (.bl false) := isiG_eq (t := .b "int") rfl (by decide +kernel)
theorem i_int_BadLength {i : Int} {P : D → Prop} : cIsiG tab [(.int i), .gl "BadLength"] P = P (.bl false) := isiG_eq (t := .b "int") rfl (by decide +kernel)
theorem i_str_Sight {x : Str} {P : D → Prop} : cIsiG tab [(.str x), .gl "Sight"] P = P (.bl false) := isiG_eq (t := .b "str") rfl (by decide +kernel)
theorem i_str_SizesDiffer {x : Str} {P : D → Prop} : cIsiG tab [(.str x), .gl "SizesDiffer"] P = P (.bl false) := isiG_eq (t := .b "str") rfl (by decide +kernel)
theorem i_str_NoDeals {x : Str} {P : D → Prop} : cIsiG tab [(.str x), .gl "NoDeals"] P = P (.bl false) := isiG_eq (t := .b "str") rfl (by decide +kernel)
theorem i_str_BadLength {x : Str} {P : D → Prop} : cIsiG tab [(.str x), .gl "BadLength"] P = P (.bl false) := isiG_eq (t := .b "str") rfl (by decide +kernel)
theorem i_list_Sight {l : List D} {P : D → Prop} : cIsiG tab [(.lst l), .gl "Sight"] P = P (.bl false) := isiG_eq (t := .b "list") rfl (by decide +kernel)
theorem i_list_SizesDiffer {l : List D} {P : D → Prop} : cIsiG tab [(.lst l), .gl "SizesDiffer"] P = P (.bl false) := isiG_eq (t := .b "list") rfl (by decide +kernel)
theorem i_list_NoDeals {l : List D} {P : D → Prop} : cIsiG tab [(.lst l), .gl "NoDeals"] P = P (.bl false) := isiG_eq (t := .b "list") rfl (by decide +kernel)
theorem i_list_BadLength {l : List D} {P : D → Prop} : cIsiG tab [(.lst l), .gl "BadLength"] P = P (.bl false) := isiG_eq (t := .b "list") rfl (by decide +kernel)
theorem i_tuple_Sight {l : List D} {P : D → Prop} : cIsiG tab [(.tup l), .gl "Sight"] P = P (.bl false) := isiG_eq (t := .b "tuple") rfl (by decide +kernel)
theorem i_tuple_SizesDiffer {l : List D} {P : D → Prop} : cIsiG tab [(.tup l), .gl "SizesDiffer"] P = P (.bl false) := isiG_eq (t := .b "tuple") rfl (by decide +kernel)
theorem i_tuple_NoDeals {l : List D} {P : D → Prop} : cIsiG tab [(.tup l), .gl "NoDeals"] P = P (.bl false) := isiG_eq (t := .b "tuple") rfl (by decide +kernel)
theorem i_tuple_BadLength {l : List D} {P : D → Prop} : cIsiG tab [(.tup l), .gl "BadLength"] P = P (.bl false) := isiG_eq (t := .b "tuple") rfl (by decide +kernel)
theorem i_Sight_Sight {r : List Nat} {P : D → Prop} : cIsiG tab [(sgt r), .gl "Sight"] P = P (.bl true) := isiG_eq (t := .c "Sight") rfl (by decide +kernel)
theorem i_Sight_SizesDiffer {r : List Nat} {P : D → Prop} : cIsiG tab [(sgt r), .gl "SizesDiffer"] P = P (.bl false) := isiG_eq (t := .c "Sight") rfl (by decide +kernel)
theorem i_Sight_NoDeals {r : List Nat} {P : D → Prop} : cIsiG tab [(sgt r), .gl "NoDeals"] P = P (.bl false) := isiG_eq (t := .c "Sight") rfl (by decide +kernel)
theorem i_Sight_BadLength {r : List Nat} {P : D → Prop} : cIsiG tab [(sgt r), .gl "BadLength"] P = P (.bl false) := isiG_eq (t := .c "Sight") rfl (by decide +kernel)
theorem i_Sight_list {r : List Nat} {P : D → Prop} : cIsiG tab [(sgt r), .ty "list"] P = P (.bl false) := isiG_eq (t := .c "Sight") rfl (by decide +kernel)
theorem i_Sight_tuple {r : List Nat} {P : D → Prop} : cIsiG tab [(sgt r), .ty "tuple"] P = P (.bl false) := isiG_eq (t := .c "Sight") rfl (by decide +kernel)
theorem i_Sight_int {r : List Nat} {P : D → Prop} : cIsiG tab [(sgt r), .ty "int"] P = P (.bl false) := isiG_eq (t := .c "Sight") rfl (by decide +kernel)
theorem i_Sight_bool {r : List Nat} {P : D → Prop} : cIsiG tab [(sgt r), .ty "bool"] P = P (.bl false) := isiG_eq (t := .c "Sight") rfl (by decide +kernel)
theorem i_Sight_ValueError {r : List Nat} {P : D → Prop} : cIsiG tab [(sgt r), .ty "ValueError"] P = P (.bl false) := isiG_eq (t := .c "Sight") rfl (by decide +kernel)
theorem i_NoDeals_SizesDiffer {fs : List (Str × D)} {P : D → Prop} : cIsiG tab [(.err "NoDeals" fs), .gl "SizesDiffer"] P = P (.bl false) := isiG_eq (t := .e "NoDeals") rfl (by decide +kernel)
theorem i_NoDeals_NoDeals {fs : List (Str × D)} {P : D → Prop} : cIsiG tab [(.err "NoDeals" fs), .gl "NoDeals"] P = P (.bl true) := isiG_eq (t := .e "NoDeals") rfl (by decide +kernel)
theorem i_NoDeals_BadLength {fs : List (Str × D)} {P : D → Prop} : cIsiG tab [(.err "NoDeals" fs), .gl "BadLength"] P = P (.bl false) := isiG_eq (t := .e "NoDeals") rfl (by decide +kernel)
theorem i_NoDeals_Sight {fs : List (Str × D)} {P : D → Prop} : cIsiG tab [(.err "NoDeals" fs), .gl "Sight"] P = P (.bl false) := isiG_eq (t := .e "NoDeals") rfl (by decide +kernel)
theorem i_NoDeals_list {fs : List (Str × D)} {P : D → Prop} : cIsiG tab [(.err "NoDeals" fs), .ty "list"] P = P (.bl false) := isiG_eq (t := .e "NoDeals") rfl (by decide +kernel)
theorem i_NoDeals_tuple {fs : List (Str × D)} {P : D → Prop} : cIsiG tab [(.err "NoDeals" fs), .ty "tuple"] P = P (.bl false) := isiG_eq (t := .e "NoDeals") rfl (by decide +kernel)
theorem i_NoDeals_int {fs : List (Str × D)} {P : D → Prop} : cIsiG tab [(.err "NoDeals" fs), .ty "int"] P = P (.bl false) := isiG_eq (t := .e "NoDeals") rfl (by decide +kernel)
theorem i_NoDeals_bool {fs : List (Str × D)} {P : D → Prop} : cIsiG tab [(.err "NoDeals" fs), .ty "bool"] P = P (.bl false) := isiG_eq (t := .e "NoDeals") rfl (by decide +kernel)
theorem i_NoDeals_ValueError {fs : List (Str × D)} {P : D → Prop} : cIsiG tab [(.err "NoDeals" fs), .ty "ValueError"] P = P (.bl true) := isiG_eq (t := .e "NoDeals") rfl (by decide +kernel)
theorem i_SizesDiffer_SizesDiffer {fs : List (Str × D)} {P : D → Prop} : cIsiG tab [(.err "SizesDiffer" fs), .gl "SizesDiffer"] P = P (.bl true) := isiG_eq (t := .e "SizesDiffer") rfl (by decide +kernel)
theorem i_SizesDiffer_NoDeals {fs : List (Str × D)} {P : D → Prop} : cIsiG tab [(.err "SizesDiffer" fs), .gl "NoDeals"] P = P (.bl false) := isiG_eq (t := .e "SizesDiffer") rfl (by decide +kernel)
theorem i_SizesDiffer_BadLength {fs : List (Str × D)} {P : D → Prop} : cIsiG tab [(.err "SizesDiffer" fs), .gl "BadLength"] P = P (.bl false) := isiG_eq (t := .e "SizesDiffer") rfl (by decide +kernel)
theorem i_SizesDiffer_Sight {fs : List (Str × D)} {P : D → Prop} : cIsiG tab [(.err "SizesDiffer" fs), .gl "Sight"] P = P (.bl false) := isiG_eq (t := .e "SizesDiffer") rfl (by decide +kernel)
theorem i_SizesDiffer_list {fs : List (Str × D)} {P : D → Prop} : cIsiG tab [(.err "SizesDiffer" fs), .ty "list"] P = P (.bl false) := isiG_eq (t := .e "SizesDiffer") rfl (by decide +kernel)
theorem i_SizesDiffer_tuple {fs : List (Str × D)} {P : D → Prop} : cIsiG tab [(.err "SizesDiffer" fs), .ty "tuple"] P = P (.bl false) := isiG_eq (t := .e "SizesDiffer") rfl (by decide +kernel)
theorem i_SizesDiffer_int {fs : List (Str × D)} {P : D → Prop} : cIsiG tab [(.err "SizesDiffer" fs), .ty "int"] P = P (.bl false) := isiG_eq (t := .e "SizesDiffer") rfl (by decide +kernel)
theorem i_SizesDiffer_bool {fs : List (Str × D)} {P : D → Prop} : cIsiG tab [(.err "SizesDiffer" fs), .ty "bool"] P = P (.bl false) := isiG_eq (t := .e "SizesDiffer") rfl (by decide +kernel)
theorem i_SizesDiffer_ValueError {fs : List (Str × D)} {P : D → Prop} : cIsiG tab [(.err "SizesDiffer" fs), .ty "ValueError"] P = P (.bl true) := isiG_eq (t := .e "SizesDiffer") rfl (by decide +kernel)
theorem i_NoneType_bool  {P : D → Prop} : cIsiG tab [.non, .ty "bool"] P = P (.bl false) := isiG_eq (t := .b "NoneType") rfl (by decide +kernel)
theorem i_NoneType_int  {P : D → Prop} : cIsiG tab [.non, .ty "int"] P = P (.bl false) := isiG_eq (t := .b "NoneType") rfl (by decide +kernel)
theorem i_NoneType_list  {P : D → Prop} : cIsiG tab [.non, .ty "list"] P = P (.bl false) := isiG_eq (t := .b "NoneType") rfl (by decide +kernel)
theorem i_NoneType_tuple  {P : D → Prop} : cIsiG tab [.non, .ty "tuple"] P = P (.bl false) := isiG_eq (t := .b "NoneType") rfl (by decide +kernel)
theorem i_NoneType_str  {P : D → Prop} : cIsiG tab [.non, .ty "str"] P = P (.bl false) := isiG_eq (t := .b "NoneType") rfl (by decide +kernel)
theorem i_bool_bool {b : Bool} {P : D → Prop} : cIsiG tab [(.bl b), .ty "bool"] P = P (.bl true) := isiG_eq (t := .b "bool") rfl (by decide +kernel)
theorem i_bool_int {b : Bool} {P : D → Prop} : cIsiG tab [(.bl b), .ty "int"] P = P (.bl true) := isiG_eq (t := .b "bool") rfl (by decide +kernel)
theorem i_bool_list {b : Bool} {P : D → Prop} : cIsiG tab [(.bl b), .ty "list"] P = P (.bl false) := isiG_eq (t := .b "bool") rfl (by decide +kernel)
theorem i_bool_tuple {b : Bool} {P : D → Prop} : cIsiG tab [(.bl b), .ty "tuple"] P = P (.bl false) := isiG_eq (t := .b "bool") rfl (by decide +kernel)
theorem i_bool_str {b : Bool} {P : D → Prop} : cIsiG tab [(.bl b), .ty "str"] P = P (.bl false) := isiG_eq (t := .b "bool") rfl (by decide +kernel)
theorem i_int_bool {i : Int} {P : D → Prop} : cIsiG tab [(.int i), .ty "bool"] P = P (.bl false) := isiG_eq (t := .b "int") rfl (by decide +kernel)
theorem i_int_int {i : Int} {P : D → Prop} : cIsiG tab [(.int i), .ty "int"] P = P (.bl true) := isiG_eq (t := .b "int") rfl (by decide +kernel)
theorem i_int_list {i : Int} {P : D → Prop} : cIsiG tab [(.int i), .ty "list"] P = P (.bl false) := isiG_eq (t := .b "int") rfl (by decide +kernel)
theorem i_int_tuple {i : Int} {P : D → Prop} : cIsiG tab [(.int i), .ty "tuple"] P = P (.bl false) := isiG_eq (t := .b "int") rfl (by decide +kernel)
theorem i_int_str {i : Int} {P : D → Prop} : cIsiG tab [(.int i), .ty "str"] P = P (.bl false) := isiG_eq (t := .b "int") rfl (by decide +kernel)
theorem i_str_bool {x : Str} {P : D → Prop} : cIsiG tab [(.str x), .ty "bool"] P = P (.bl false) := isiG_eq (t := .b "str") rfl (by decide +kernel)
theorem i_str_int {x : Str} {P : D → Prop} : cIsiG tab [(.str x), .ty "int"] P = P (.bl false) := isiG_eq (t := .b "str") rfl (by decide +kernel)
theorem i_str_list {x : Str} {P : D → Prop} : cIsiG tab [(.str x), .ty "list"] P = P (.bl false) := isiG_eq (t := .b "str") rfl (by decide +kernel)
theorem i_str_tuple {x : Str} {P : D → Prop} : cIsiG tab [(.str x), .ty "tuple"] P = P (.bl false) := isiG_eq (t := .b "str") rfl (by decide +kernel)
theorem i_str_str {x : Str} {P : D → Prop} : cIsiG tab [(.str x), .ty "str"] P = P (.bl true) := isiG_eq (t := .b "str") rfl (by decide +kernel)
theorem i_list_bool {l : List D} {P : D → Prop} : cIsiG tab [(.lst l), .ty "bool"] P = P (.bl false) := isiG_eq (t := .b "list") rfl (by decide +kernel)
theorem i_list_int {l : List D} {P : D → Prop} : cIsiG tab [(.lst l), .ty "int"] P = P (.bl false) := isiG_eq (t := .b "list") rfl (by decide +kernel)
theorem i_list_list {l : List D} {P : D → Prop} : cIsiG tab [(.lst l), .ty "list"] P = P (.bl true) := isiG_eq (t := .b "list") rfl (by decide +kernel)
theorem i_list_tuple {l : List D} {P : D → Prop} : cIsiG tab [(.lst l), .ty "tuple"] P = P (.bl false) := isiG_eq (t := .b "list") rfl (by decide +kernel)
theorem i_list_str {l : List D} {P : D → Prop} : cIsiG tab [(.lst l), .ty "str"] P = P (.bl false) := isiG_eq (t := .b "list") rfl (by decide +kernel)
theorem i_tuple_bool {l : List D} {P : D → Prop} : cIsiG tab [(.tup l), .ty "bool"] P = P (.bl false) := isiG_eq (t := .b "tuple") rfl (by decide +kernel)
theorem i_tuple_int {l : List D} {P : D → Prop} : cIsiG tab [(.tup l), .ty "int"] P = P (.bl false) := isiG_eq (t := .b "tuple") rfl (by decide +kernel)
theorem i_tuple_list {l : List D} {P : D → Prop} : cIsiG tab [(.tup l), .ty "list"] P = P (.bl false) := isiG_eq (t := .b "tuple") rfl (by decide +kernel)
theorem i_tuple_tuple {l : List D} {P : D → Prop} : cIsiG tab [(.tup l), .ty "tuple"] P = P (.bl true) := isiG_eq (t := .b "tuple") rfl (by decide +kernel)
theorem i_tuple_str {l : List D} {P : D → Prop} : cIsiG tab [(.tup l), .ty "str"] P = P (.bl false) := isiG_eq (t := .b "tuple") rfl (by decide +kernel)
theorem i_NoneType_list_tuple  {P : D → Prop} : cIsiG tab [.non, .tup [.ty "list", .ty "tuple"]] P = P (.bl false) := isiG_eq (t := .b "NoneType") rfl (by decide +kernel)
theorem i_bool_list_tuple {b : Bool} {P : D → Prop} : cIsiG tab [(.bl b), .tup [.ty "list", .ty "tuple"]] P = P (.bl false) := isiG_eq (t := .b "bool") rfl (by decide +kernel)
theorem i_int_list_tuple {i : Int} {P : D → Prop} : cIsiG tab [(.int i), .tup [.ty "list", .ty "tuple"]] P = P (.bl false) := isiG_eq (t := .b "int") rfl (by decide +kernel)
theorem i_str_list_tuple {x : Str} {P : D → Prop} : cIsiG tab [(.str x), .tup [.ty "list", .ty "tuple"]] P = P (.bl false) := isiG_eq (t := .b "str") rfl (by decide +kernel)
theorem i_list_list_tuple {l : List D} {P : D → Prop} : cIsiG tab [(.lst l), .tup [.ty "list", .ty "tuple"]] P = P (.bl true) := isiG_eq (t := .b "list") rfl (by decide +kernel)
theorem i_tuple_list_tuple {l : List D} {P : D → Prop} : cIsiG tab [(.tup l), .tup [.ty "list", .ty "tuple"]] P = P (.bl true) := isiG_eq (t := .b "tuple") rfl (by decide +kernel)
theorem i_Sight_list_tuple {r : List Nat} {P : D → Prop} : cIsiG tab [(sgt r), .tup [.ty "list", .ty "tuple"]] P = P (.bl false) := isiG_eq (t := .c "Sight") rfl (by decide +kernel)
theorem i_NoDeals_list_tuple {fs : List (Str × D)} {P : D → Prop} : cIsiG tab [(.err "NoDeals" fs), .tup [.ty "list", .ty "tuple"]] P = P (.bl false) := isiG_eq (t := .e "NoDeals") rfl (by decide +kernel)
theorem i_SizesDiffer_list_tuple {fs : List (Str × D)} {P : D → Prop} : cIsiG tab [(.err "SizesDiffer" fs), .tup [.ty "list", .ty "tuple"]] P = P (.bl false) := isiG_eq (t := .e "SizesDiffer") rfl (by decide +kernel)
theorem i_NoneType_NoDeals_BadLength  {P : D → Prop} : cIsiG tab [.non, .tup [.gl "NoDeals", .gl "BadLength"]] P = P (.bl false) := isiG_eq (t := .b "NoneType") rfl (by decide +kernel)
theorem i_bool_NoDeals_BadLength {b : Bool} {P : D → Prop} : cIsiG tab [(.bl b), .tup [.gl "NoDeals", .gl "BadLength"]] P = P (.bl false) := isiG_eq (t := .b "bool") rfl (by decide +kernel)
theorem i_int_NoDeals_BadLength {i : Int} {P : D → Prop} : cIsiG tab [(.int i), .tup [.gl "NoDeals", .gl "BadLength"]] P = P (.bl false) := isiG_eq (t := .b "int") rfl (by decide +kernel)
theorem i_str_NoDeals_BadLength {x : Str} {P : D → Prop} : cIsiG tab [(.str x), .tup [.gl "NoDeals", .gl "BadLength"]] P = P (.bl false) := isiG_eq (t := .b "str") rfl (by decide +kernel)
theorem i_list_NoDeals_BadLength {l : List D} {P : D → Prop} : cIsiG tab [(.lst l), .tup [.gl "NoDeals", .gl "BadLength"]] P = P (.bl false) := isiG_eq (t := .b "list") rfl (by decide +kernel)
theorem i_tuple_NoDeals_BadLength {l : List D} {P : D → Prop} : cIsiG tab [(.tup l), .tup [.gl "NoDeals", .gl "BadLength"]] P = P (.bl false) := isiG_eq (t := .b "tuple") rfl (by decide +kernel)
theorem i_Sight_NoDeals_BadLength {r : List Nat} {P : D → Prop} : cIsiG tab [(sgt r), .tup [.gl "NoDeals", .gl "BadLength"]] P = P (.bl false) := isiG_eq (t := .c "Sight") rfl (by decide +kernel)
theorem i_NoDeals_NoDeals_BadLength {fs : List (Str × D)} {P : D → Prop} : cIsiG tab [(.err "NoDeals" fs), .tup [.gl "NoDeals", .gl "BadLength"]] P = P (.bl true) := isiG_eq (t := .e "NoDeals") rfl (by decide +kernel)
theorem i_SizesDiffer_NoDeals_BadLength {fs : List (Str × D)} {P : D → Prop} : cIsiG tab [(.err "SizesDiffer" fs), .tup [.gl "NoDeals", .gl "BadLength"]] P = P (.bl false) := isiG_eq (t := .e "SizesDiffer") rfl (by decide +kernel)
end
end K01

namespace K01
open PySem PySem.Spec PyProof.Rows L2 Z Sg
local macro_rules | `(tactic| walk_at "zz") => `(tactic| try simp only [Z.sNext, Z.sSeq, Z.sSet, Z.sSetF, Z.sAsg, Z.sIf, Z.sRet, Z.sRetF, Z.sRetO, Z.sRetN, Z.sDrop, Z.sBrk, Z.sCont, Z.sFrz, Z.sApp, Z.sSetIx, Z.eVar, Z.eC, Z.eOp, Z.eUn, Z.eCh, Z.tBl, Z.tTr, Z.tAnd, Z.tOr, Z.tNot, Z.eAnd, Z.eOr, Z.eNot, Z.eIf, Z.aNil, Z.aCons, Z.eTup, Z.fLst, Z.eF, Z.eCB, Z.fCB, Z.eCall, Z.fCall, Z.gN, Z.gTup, Z.gsCons, Z.gsNil, Z.iSeq, Z.iRng1, Z.iRng2, Z.eIxO, Z.eLenO, Z.startD, Z.wipeD, Z.d_lst, Z.d_ins, Z.d_dk, Z.d_dt, Z.tYes, Z.isBl_bl, Z.caseB_t, Z.caseB_f, Z.truP_bl, Z.truP_int, Z.truP_non, Z.truP_lst, Z.truP_tup, Z.oI_int, Z.oC_int, Z.oNeg_int, Z.oAdd_int, Z.oAdd_str, Z.oAdd_lst, Z.oAdd_tup, Z.oEq_int, Z.oNe_int, Z.oEq_str, Z.oNe_str, Z.oEq_lst, Z.oNe_lst, Z.oEq_tup, Z.oNe_tup, Z.oIn_tup, Z.oIn_lst, Z.oIx_lst, Z.oIx_tup, Z.oIx_scr, Z.oIx_str, Z.cLen_lst, Z.cLen_tup, Z.cLen_scr, Z.cLen_str, Z.cAbs_int, Z.cInt_int, Z.cInt_bl, Z.cMax_2, Z.cMin_2, Z.cMax_l, Z.cMin_l, Z.cTup_lst, Z.cTup_tup, Z.cLst_lst, Z.cLst_tup, Z.cLst_scr, Z.cGcd_int, Z.itemsD_lst, Z.itemsD_tup, Z.itemsD_scr, Z.rng1_int, Z.rng2_int, Z.asTup_tup, Z.oEq_bl, Z.oNe_bl, Z.ixD_int, List.map_cons, List.map_nil, List.length_cons, List.length_nil, List.replicate, List.cons_append, List.nil_append, List.set_cons_zero, List.set_cons_succ, List.getElem?_cons_zero, List.getElem?_cons_succ, Option.some.injEq, Z.Sl.val.injEq, Z.Sl.own.injEq, Z.Ow.lst.injEq, Z.D.int.injEq, exists_eq_left', exists_eq_left, true_and, and_true, if_true, if_false, Bool.false_eq_true, decide_eq_true_eq, Bool.not_true, Bool.not_false, Bool.not_eq_true', decide_eq_false_iff_not, Z.eInO, Z.sPutO, Z.eGetO, Z.eLenD, Z.sFldS, Z.eFldO, Z.eAttr, Z.eMake, Z.eMakeL, Z.eCm, Z.sRaise0, Z.sRaiseI, Z.aStar, Z.fZip, Z.fRep, Z.eRoot, Z.eIxP, Z.eLenP, Z.sAppP, Z.sSetIxP, Z.eMethG, Z.eBinG, Z.eEqG, Z.eBor, Z.tBor, Z.fBor, Z.zipD_tup, Z.cMaxG_2, Z.startI, Z.sTryAs, reduceIte, reduceCtorEq, decide_true, decide_false, not_true_eq_false, not_false_eq_true, Bool.or_true, Bool.true_or, Bool.or_false, Bool.false_or, Bool.and_true, Bool.true_and, Bool.and_false, Bool.false_and, Z.lk0, Z.ex_some, Z.at0, Z.at1, Z.at2, Z.at3, Z.at4, Z.at5, Z.at6, Z.at7, Z.at8, Z.at9, Z.at10, Z.at11, Z.lenO_lst, Z.oIs_eq, Z.oIsnot_eq, Z.isNon_non, Z.isNon_bl, Z.isNon_int, Z.isNon_str, Z.isNon_tup, Z.isNon_lst, Z.isNon_ins, Z.eSl, Z.pNo, Z.pSome, Z.oSl, Z.sIns, K01.a_marks, K01.a_size, K01.a_cells, K01.i_NoneType_Sight, K01.i_NoneType_SizesDiffer, K01.i_NoneType_NoDeals, K01.i_NoneType_BadLength, K01.i_bool_Sight, K01.i_bool_SizesDiffer, K01.i_bool_NoDeals, K01.i_bool_BadLength, K01.i_int_Sight, K01.i_int_SizesDiffer, K01.i_int_NoDeals, K01.i_int_BadLength, K01.i_str_Sight, K01.i_str_SizesDiffer, K01.i_str_NoDeals, K01.i_str_BadLength, K01.i_list_Sight, K01.i_list_SizesDiffer, K01.i_list_NoDeals, K01.i_list_BadLength, K01.i_tuple_Sight, K01.i_tuple_SizesDiffer, K01.i_tuple_NoDeals, K01.i_tuple_BadLength, K01.i_Sight_Sight, K01.i_Sight_SizesDiffer, K01.i_Sight_NoDeals, K01.i_Sight_BadLength, K01.i_Sight_list, K01.i_Sight_tuple, K01.i_Sight_int, K01.i_Sight_bool, K01.i_Sight_ValueError, K01.i_NoDeals_SizesDiffer, K01.i_NoDeals_NoDeals, K01.i_NoDeals_BadLength, K01.i_NoDeals_Sight, K01.i_NoDeals_list, K01.i_NoDeals_tuple, K01.i_NoDeals_int, K01.i_NoDeals_bool, K01.i_NoDeals_ValueError, K01.i_SizesDiffer_SizesDiffer, K01.i_SizesDiffer_NoDeals, K01.i_SizesDiffer_BadLength, K01.i_SizesDiffer_Sight, K01.i_SizesDiffer_list, K01.i_SizesDiffer_tuple, K01.i_SizesDiffer_int, K01.i_SizesDiffer_bool, K01.i_SizesDiffer_ValueError, K01.i_NoneType_bool, K01.i_NoneType_int, K01.i_NoneType_list, K01.i_NoneType_tuple, K01.i_NoneType_str, K01.i_bool_bool, K01.i_bool_int, K01.i_bool_list, K01.i_bool_tuple, K01.i_bool_str, K01.i_int_bool, K01.i_int_int, K01.i_int_list, K01.i_int_tuple, K01.i_int_str, K01.i_str_bool, K01.i_str_int, K01.i_str_list, K01.i_str_tuple, K01.i_str_str, K01.i_list_bool, K01.i_list_int, K01.i_list_list, K01.i_list_tuple, K01.i_list_str, K01.i_tuple_bool, K01.i_tuple_int, K01.i_tuple_list, K01.i_tuple_tuple, K01.i_tuple_str, K01.i_NoneType_list_tuple, K01.i_bool_list_tuple, K01.i_int_list_tuple, K01.i_str_list_tuple, K01.i_list_list_tuple, K01.i_tuple_list_tuple, K01.i_Sight_list_tuple, K01.i_NoDeals_list_tuple, K01.i_SizesDiffer_list_tuple, K01.i_NoneType_NoDeals_BadLength, K01.i_bool_NoDeals_BadLength, K01.i_int_NoDeals_BadLength, K01.i_str_NoDeals_BadLength, K01.i_list_NoDeals_BadLength, K01.i_tuple_NoDeals_BadLength, K01.i_Sight_NoDeals_BadLength, K01.i_NoDeals_NoDeals_BadLength, K01.i_SizesDiffer_NoDeals_BadLength])
section
variable {κ : Type} [DecidableEq κ] {P : D → Prop} {Xp : Xd} {PL : List D → Prop} {r s : List Nat}
theorem marks_ok (K : DKind κ) (l : List κ) (hz : l.length ≤ sizeLine) (h : PL (nL (num l))) : w__law_marks [.lst (l.map K.key)] PL Xp := by
  unfold w__law_marks t__law_marks
  refine sDic_of K ?_
  refine ⟨by decide, ?_⟩
  refine num_loop K (.lst (l.map K.key)) l (fun P q => q) hz fun y => ?_
  exact ⟨_, rfl, h⟩
end
section
variable {κ : Type} [DecidableEq κ] {P : D → Prop} {Xp : Xd} {PL : List D → Prop} {r s : List Nat}
theorem numbered_ok (K : DKind κ) (d : D) (l : List κ) (hd : ∀ P : List D → Prop, P (l.map K.key) → itemsD d P) (hz : l.length ≤ sizeLine) (h : P (.tup (nL (num l)))) : w_numbered [d] P Xp := by
  unfold w_numbered t_numbered
  refine sDic_of K ?_
  refine ⟨by decide, ?_⟩
  refine num_loop K _ l hd hz fun y => ?_
  walk_at "zz"
  exact h
theorem frozen_int {i : Int} {n : Nat} (h : P (.int i)) : w_frozen (n + 1) [.int i] P Xp := by
  show t_frozen (w_frozen n) _ _
  unfold t_frozen
  walk_at "zz"
  exact ⟨by decide, h⟩
theorem frozen_row {ns : List Int} {d : D} {n : Nat} (hd : Row d ns) (hz : ns.length ≤ sizeLine) (h : P (.tup (ns.map D.int))) : w_frozen (n + 2) [d] P Xp := by
  show t_frozen (w_frozen (n + 1)) _ _
  unfold t_frozen
  have key : fLc (iSeq (eVar 0)) (gN 1) tYes (eCall 1 (w_frozen (n + 1)) (aCons (eVar 1) aNil)) [1] [.val d, .em] (fun l => P (.tup l)) Xp := by
    refine lc_map ns D.int D.int hz (fun P Xp q => ?_) (fun i a ha A hA => ?_) h
    · rcases hd with rfl | rfl <;> exact ⟨_, rfl, q⟩
    · exact ⟨_, rfl, rfl, frozen_int hA⟩
  rcases hd with rfl | rfl
  · walk_at "zz"
    exact ⟨by decide, key⟩
  · walk_at "zz"
    exact ⟨by decide, key⟩
theorem init_ok {ns : List Int} {d : D} (hd : Row d ns) (h0 : 0 < ns.length) (hz : ns.length ≤ sizeLine) {PF : List (Str × D) → Prop} (h : PF [("size", nI (num ns).length), ("marks", .tup (nL (num ns)))]) : w_Sight___init__ [d] PF Xp := by
  unfold w_Sight___init__ t_Sight___init__
  intro a
  walk_at "zz"
  refine frozen_row hd hz ?_
  walk_at "zz"
  rw [List.length_map, if_neg (by omega)]
  refine ⟨_, _, rfl, by decide, ?_⟩
  refine numbered_ok dkInt _ ns (fun P q => q) hz ?_
  refine ⟨_, _, rfl, by simp [putD], ?_⟩
  rw [num_length] at h
  exact ⟨_, rfl, h⟩
theorem init_none {d : D} (hd : Row d []) {PF : List (Str × D) → Prop} (h : Xp "NoDeals" []) : w_Sight___init__ [d] PF Xp := by
  unfold w_Sight___init__ t_Sight___init__
  intro a
  walk_at "zz"
  refine frozen_row hd (by decide) ?_
  walk_at "zz"
  exact h
end
section
variable {κ : Type} [DecidableEq κ] {P : D → Prop} {Xp : Xd} {PL : List D → Prop} {r s : List Nat}
theorem whole_ok (x : Int) (h : P (.bl true)) : w__law_whole [.int x] P Xp := by
  unfold w__law_whole t__law_whole
  walk_at "zz"
  exact h
theorem numbers_ok (ns : List Int) (hz : ns.length < 2 ^ 62) (h : P (.bl true)) : w__law_numbers [.tup (ns.map D.int), .lst (ns.map D.int)] P Xp := by
  unfold w__law_numbers t__law_numbers
  walk_at "zz"
  refine for_rng ns.length (fun i ρ' => ∃ y, ρ' = [.val (.tup (ns.map D.int)), .val (.lst (ns.map D.int)), y]) (fun P Xp q => by
    walk_at "zz"
    rw [List.length_map]
    exact ⟨by omega, by omega, q⟩) ⟨_, rfl⟩ ?_ ?_
  · rintro i ρ' hi ⟨y, rfl⟩
    have hx := get_map (f := D.int) (getAt hi)
    walk_at "zz"
    rw [atN, hx]
    walk_at "zz"
    refine whole_ok _ ?_
    walk_at "zz"
    exact ⟨_, rfl⟩
  · rintro ρ' ⟨y, rfl⟩
    exact h
theorem numbers_nat (l : List Nat) (hz : l.length < 2 ^ 62) (h : P (.bl true)) : w__law_numbers [.tup (nL l), .lst (nL l)] P Xp := by
  rw [nL_ints]
  exact numbers_ok _ (by rw [List.length_map]; exact hz) h
end
section
variable {κ : Type} [DecidableEq κ] {P : D → Prop} {Xp : Xd} {PL : List D → Prop} {r s : List Nat}
theorem groups_ok {r : List Nat} (h0 : 0 < r.length) (hz : r.length < sizeLine) (hm : ∀ x ∈ r, x < sizeLine) (h : P (lL (cellsL r))) : w__law_groups [.lst (nL r)] P Xp := by
  have hmx : mx r < sizeLine := mx_lt (by decide) hm
  have hsz : sizeLine = 2 ^ 24 := rfl
  unfold w__law_groups t__law_groups
  refine seq_of (fun ρ' => ∃ (g : Addr) (ps : List Addr), ps.length = mx r + 1 ∧ (g :: ps).Nodup ∧ ρ' = [.val (.lst (nL r)), .own (.nst g (nstT g ps ((grp r (mx r) 0).map nL))), .em, .em]) ?_ (fun N hN => ?_)
  · rintro ρ' ⟨g, ps, hl, nd, rfl⟩
    refine for_rng r.length (fun i ρ' => ∃ y z, ρ' = [.val (.lst (nL r)), .own (.nst g (nstT g ps ((grp r (mx r) i).map nL))), y, z]) (fun P Xp q => by
      walk_at "zz"
      rw [List.length_map]
      exact ⟨by omega, by omega, q⟩) ⟨_, _, rfl⟩ ?_ ?_
    · rintro i ρ' hi ⟨y, z, rfl⟩
      have hx := getAt hi
      have hk : r[i] ≤ mx r := le_mx (List.getElem_mem hi)
      obtain ⟨p, hp⟩ : ∃ p, ps[r[i]]? = some p := ⟨_, getAt (l := ps) (i := r[i]) (by omega)⟩
      have hg := grp_get (r := r) (n := i) hk
      have hat : atI (nL r) (i : Int) = some (nI r[i]) := by rw [atN, get_map hx]
      walk_at "zz"
      refine ⟨_, _, rfl, _, hat, ?_⟩
      refine ⟨_, _, _, _, rfl, rfl, osAt_root, _, by rw [atN]; exact get_map hp, ?_⟩
      refine ⟨_, _, _, _, rfl, rfl, osAt_nst nd hp (get_map hg), ?_, .val (nI i), .val (.ptr p), ?_⟩
      · rw [List.length_map]
        have := selL_len r i r[i]
        omega
      · rw [putOs_nst nd hp, grp_succ hx hk, List.map_set, nL_snoc]
    · rintro ρ' ⟨y, z, rfl⟩
      walk_at "zz"
      rw [nst_d nd (by simp [grp_length, hl]) ?_ (by simp [grp_length]), List.map_map]
      · exact h
      · intro l hl d hd
        obtain ⟨g, _, rfl⟩ := List.mem_map.mp hl
        obtain ⟨n, _, rfl⟩ := List.mem_map.mp hd
        trivial
  · refine lcN_rng (mx r + 1) (fun _ => []) (by omega) (fun P Xp q => ?_) (fun j hj A hA => ?_) fun g ps hl nd => ?_
    · walk_at "zz"
      refine max_nat h0 ?_
      walk_at "zz"
      exact ⟨by omega, by omega, q⟩
    · walk_at "zz"
      exact ⟨by decide, hA⟩
    · refine hN _ ⟨g, ps, hl, nd, ?_⟩
      rw [grp_zero, List.map_replicate]
      have : (List.range (mx r + 1)).map (fun _ => ([] : List D)) = List.replicate (mx r + 1) [] := by
        rw [List.map_const', List.length_range]
      rw [this]
      rfl
end
section
variable {κ : Type} [DecidableEq κ] {P : D → Prop} {Xp : Xd} {PL : List D → Prop} {r s : List Nat}
theorem cells_ok (h0 : 0 < r.length) (hz : r.length < sizeLine) (hm : ∀ x ∈ r, x < sizeLine) (h : P (tL (cellsL r))) : w_Sight_cells [sgt r] P Xp := by
  have hmx : mx r < sizeLine := mx_lt (by decide) hm
  have hsz : sizeLine = 2 ^ 24 := rfl
  unfold w_Sight_cells t_Sight_cells
  have e0 : (List.range (mx r + 1)).map (fun _ => D.tup []) = (grp r (mx r) 0).map fun g => D.tup (nL g) := by
    rw [grp_zero, List.map_replicate, List.map_const', List.length_range]; rfl
  refine lc_rng (mx r + 1) (fun _ => .tup []) (by omega) (fun P Xp q => ?_) (fun j hj A hA => ?_) ?_
  · walk_at "zz"
    refine max_natT h0 ?_
    walk_at "zz"
    exact ⟨by omega, by omega, q⟩
  · walk_at "zz"
    exact ⟨by decide, hA⟩
  · rw [e0]
    walk_at "zz"
    refine for_rng r.length (fun i ρ' => ∃ y z, ρ' = [.val (sgt r), .own (.lst ((grp r (mx r) i).map fun g => D.tup (nL g))), y, z, .em]) (fun P Xp q => by
      walk_at "zz"
      exact ⟨by omega, by omega, q⟩) ⟨_, _, rfl⟩ ?_ ?_
    · rintro i ρ' hi ⟨y, z, rfl⟩
      have hx := getAt hi
      have hk : r[i] ≤ mx r := le_mx (List.getElem_mem hi)
      have hg := grp_get (r := r) (n := i) hk
      have hat : atI (nL r) (i : Int) = some (nI r[i]) := by rw [atN, get_map hx]
      walk_at "zz"
      refine ⟨_, hat, ?_⟩
      walk_at "zz"
      refine ⟨_, by rw [atN]; exact get_map hg, ?_⟩
      walk_at "zz"
      have hl := selL_len r i r[i]
      refine ⟨by rw [List.length_append, List.length_map]; show (selL r i r[i]).length + 1 ≤ _; omega, _, _, rfl, ixN_nat (by rw [List.length_map, grp_length]; omega), .val (nI i), .val (nI r[i]), ?_⟩
      rw [grp_succ hx hk, List.map_set, nL_snoc]
    · rintro ρ' ⟨y, z, rfl⟩
      walk_at "zz"
      exact h
end
section
variable {κ : Type} [DecidableEq κ] {P : D → Prop} {Xp : Xd} {PL : List D → Prop} {r s : List Nat}
theorem agrees_ok (h0 : 0 < r.length) (hz : r.length < sizeLine) (hm : ∀ x ∈ r, x < sizeLine) (h : P (.bl true)) : w__law_agrees [sgt r, .lst (nL r)] P Xp := by
  have hmx : mx r < sizeLine := mx_lt (by decide) hm
  have hsz : sizeLine = 2 ^ 24 := rfl
  unfold w__law_agrees t__law_agrees
  walk_at "zz"
  refine whole_ok _ ?_
  walk_at "zz"
  rw [List.length_map]
  walk_at "zz"
  refine groups_ok h0 hz hm ?_
  refine cells_ok h0 hz hm ?_
  refine numbers_nat r (by omega) ?_
  walk_at "zz"
  rw [List.length_map, List.length_map]
  walk_at "zz"
  refine for_rng (cellsL r).length (fun i ρ' => ∃ z, ρ' = [.val (sgt r), .val (.lst (nL r)), .val (lL (cellsL r)), .val (tL (cellsL r)), z]) (fun P Xp q => by
    walk_at "zz"
    rw [List.length_map]
    have : (cellsL r).length = mx r + 1 := grp_length _ _ _
    exact ⟨by omega, by omega, q⟩) ⟨_, rfl⟩ ?_ ?_
  · rintro i ρ' hi ⟨z, rfl⟩
    have hx := getAt hi
    have e : (cellsL r)[i] = selL r r.length i := by
      have h1 : i ≤ mx r := by have : (cellsL r).length = mx r + 1 := grp_length _ _ _; omega
      have h2 : (cellsL r)[i]? = some (selL r r.length i) := grp_get h1
      rw [hx] at h2; exact Option.some.inj h2
    walk_at "zz"
    rw [atN, atN, get_map hx, get_map hx]
    walk_at "zz"
    refine numbers_nat _ ?_ ?_
    · rw [e]; have := selL_len r r.length i; omega
    · walk_at "zz"
      exact ⟨_, rfl⟩
  · rintro ρ' ⟨z, rfl⟩
    exact h
end
section
variable {κ : Type} [DecidableEq κ] {P : D → Prop} {Xp : Xd} {PL : List D → Prop} {r s : List Nat}
theorem alike_ok {i j a b : Nat} (hi : r[i]? = some a) (hj : r[j]? = some b) (h : P (.bl (decide (a = b)))) : w_Sight_alike [sgt r, nI i, nI j] P Xp := by
  unfold w_Sight_alike t_Sight_alike
  walk_at "zz"
  rw [atN, atN, get_map hi, get_map hj]
  walk_at "zz"
  have : (decide (((a : Nat) : Int) = (b : Nat))) = decide (a = b) := by
    by_cases c : a = b
    · rw [decide_eq_true c, decide_eq_true (by rw [c])]
    · rw [decide_eq_false c, decide_eq_false (by omega)]
  rw [this]
  exact h
end
end K01

namespace K01
open PySem PySem.Spec PyProof.Rows L2 Z Sg
local macro_rules | `(tactic| walk_at "zz") => `(tactic| try simp only [Z.sNext, Z.sSeq, Z.sSet, Z.sSetF, Z.sAsg, Z.sIf, Z.sRet, Z.sRetF, Z.sRetO, Z.sRetN, Z.sDrop, Z.sBrk, Z.sCont, Z.sFrz, Z.sApp, Z.sSetIx, Z.eVar, Z.eC, Z.eOp, Z.eUn, Z.eCh, Z.tBl, Z.tTr, Z.tAnd, Z.tOr, Z.tNot, Z.eAnd, Z.eOr, Z.eNot, Z.eIf, Z.aNil, Z.aCons, Z.eTup, Z.fLst, Z.eF, Z.eCB, Z.fCB, Z.eCall, Z.fCall, Z.gN, Z.gTup, Z.gsCons, Z.gsNil, Z.iSeq, Z.iRng1, Z.iRng2, Z.eIxO, Z.eLenO, Z.startD, Z.wipeD, Z.d_lst, Z.d_ins, Z.d_dk, Z.d_dt, Z.tYes, Z.isBl_bl, Z.caseB_t, Z.caseB_f, Z.truP_bl, Z.truP_int, Z.truP_non, Z.truP_lst, Z.truP_tup, Z.oI_int, Z.oC_int, Z.oNeg_int, Z.oAdd_int, Z.oAdd_str, Z.oAdd_lst, Z.oAdd_tup, Z.oEq_int, Z.oNe_int, Z.oEq_str, Z.oNe_str, Z.oEq_lst, Z.oNe_lst, Z.oEq_tup, Z.oNe_tup, Z.oIn_tup, Z.oIn_lst, Z.oIx_lst, Z.oIx_tup, Z.oIx_scr, Z.oIx_str, Z.cLen_lst, Z.cLen_tup, Z.cLen_scr, Z.cLen_str, Z.cAbs_int, Z.cInt_int, Z.cInt_bl, Z.cMax_2, Z.cMin_2, Z.cMax_l, Z.cMin_l, Z.cTup_lst, Z.cTup_tup, Z.cLst_lst, Z.cLst_tup, Z.cLst_scr, Z.cGcd_int, Z.itemsD_lst, Z.itemsD_tup, Z.itemsD_scr, Z.rng1_int, Z.rng2_int, Z.asTup_tup, Z.oEq_bl, Z.oNe_bl, Z.ixD_int, List.map_cons, List.map_nil, List.length_cons, List.length_nil, List.replicate, List.cons_append, List.nil_append, List.set_cons_zero, List.set_cons_succ, List.getElem?_cons_zero, List.getElem?_cons_succ, Option.some.injEq, Z.Sl.val.injEq, Z.Sl.own.injEq, Z.Ow.lst.injEq, Z.D.int.injEq, exists_eq_left', exists_eq_left, true_and, and_true, if_true, if_false, Bool.false_eq_true, decide_eq_true_eq, Bool.not_true, Bool.not_false, Bool.not_eq_true', decide_eq_false_iff_not, Z.eInO, Z.sPutO, Z.eGetO, Z.eLenD, Z.sFldS, Z.eFldO, Z.eAttr, Z.eMake, Z.eMakeL, Z.eCm, Z.sRaise0, Z.sRaiseI, Z.aStar, Z.fZip, Z.fRep, Z.eRoot, Z.eIxP, Z.eLenP, Z.sAppP, Z.sSetIxP, Z.eMethG, Z.eBinG, Z.eEqG, Z.eBor, Z.tBor, Z.fBor, Z.zipD_tup, Z.cMaxG_2, Z.startI, Z.sTryAs, reduceIte, reduceCtorEq, decide_true, decide_false, not_true_eq_false, not_false_eq_true, Bool.or_true, Bool.true_or, Bool.or_false, Bool.false_or, Bool.and_true, Bool.true_and, Bool.and_false, Bool.false_and, Z.lk0, Z.ex_some, Z.at0, Z.at1, Z.at2, Z.at3, Z.at4, Z.at5, Z.at6, Z.at7, Z.at8, Z.at9, Z.at10, Z.at11, Z.lenO_lst, Z.oIs_eq, Z.oIsnot_eq, Z.isNon_non, Z.isNon_bl, Z.isNon_int, Z.isNon_str, Z.isNon_tup, Z.isNon_lst, Z.isNon_ins, Z.eSl, Z.pNo, Z.pSome, Z.oSl, Z.sIns, K01.a_marks, K01.a_size, K01.a_cells, K01.i_NoneType_Sight, K01.i_NoneType_SizesDiffer, K01.i_NoneType_NoDeals, K01.i_NoneType_BadLength, K01.i_bool_Sight, K01.i_bool_SizesDiffer, K01.i_bool_NoDeals, K01.i_bool_BadLength, K01.i_int_Sight, K01.i_int_SizesDiffer, K01.i_int_NoDeals, K01.i_int_BadLength, K01.i_str_Sight, K01.i_str_SizesDiffer, K01.i_str_NoDeals, K01.i_str_BadLength, K01.i_list_Sight, K01.i_list_SizesDiffer, K01.i_list_NoDeals, K01.i_list_BadLength, K01.i_tuple_Sight, K01.i_tuple_SizesDiffer, K01.i_tuple_NoDeals, K01.i_tuple_BadLength, K01.i_Sight_Sight, K01.i_Sight_SizesDiffer, K01.i_Sight_NoDeals, K01.i_Sight_BadLength, K01.i_Sight_list, K01.i_Sight_tuple, K01.i_Sight_int, K01.i_Sight_bool, K01.i_Sight_ValueError, K01.i_NoDeals_SizesDiffer, K01.i_NoDeals_NoDeals, K01.i_NoDeals_BadLength, K01.i_NoDeals_Sight, K01.i_NoDeals_list, K01.i_NoDeals_tuple, K01.i_NoDeals_int, K01.i_NoDeals_bool, K01.i_NoDeals_ValueError, K01.i_SizesDiffer_SizesDiffer, K01.i_SizesDiffer_NoDeals, K01.i_SizesDiffer_BadLength, K01.i_SizesDiffer_Sight, K01.i_SizesDiffer_list, K01.i_SizesDiffer_tuple, K01.i_SizesDiffer_int, K01.i_SizesDiffer_bool, K01.i_SizesDiffer_ValueError, K01.i_NoneType_bool, K01.i_NoneType_int, K01.i_NoneType_list, K01.i_NoneType_tuple, K01.i_NoneType_str, K01.i_bool_bool, K01.i_bool_int, K01.i_bool_list, K01.i_bool_tuple, K01.i_bool_str, K01.i_int_bool, K01.i_int_int, K01.i_int_list, K01.i_int_tuple, K01.i_int_str, K01.i_str_bool, K01.i_str_int, K01.i_str_list, K01.i_str_tuple, K01.i_str_str, K01.i_list_bool, K01.i_list_int, K01.i_list_list, K01.i_list_tuple, K01.i_list_str, K01.i_tuple_bool, K01.i_tuple_int, K01.i_tuple_list, K01.i_tuple_tuple, K01.i_tuple_str, K01.i_NoneType_list_tuple, K01.i_bool_list_tuple, K01.i_int_list_tuple, K01.i_str_list_tuple, K01.i_list_list_tuple, K01.i_tuple_list_tuple, K01.i_Sight_list_tuple, K01.i_NoDeals_list_tuple, K01.i_SizesDiffer_list_tuple, K01.i_NoneType_NoDeals_BadLength, K01.i_bool_NoDeals_BadLength, K01.i_int_NoDeals_BadLength, K01.i_str_NoDeals_BadLength, K01.i_list_NoDeals_BadLength, K01.i_tuple_NoDeals_BadLength, K01.i_Sight_NoDeals_BadLength, K01.i_NoDeals_NoDeals_BadLength, K01.i_SizesDiffer_NoDeals_BadLength])
section
variable {P : D → Prop} {Xp : Xd} {PL : List D → Prop}
theorem joined_ok {a b : List Int} (hl : a.length = b.length) (hz : a.length < sizeLine) (h : PL (nL (comL a b))) : w_joined [.tup (a.map D.int), .tup (b.map D.int)] PL Xp := by
  have hsz : sizeLine = 2 ^ 24 := rfl
  unfold w_joined t_joined
  have row : ∀ (m : List Int) (L lab0 : List Nat) (Φ : Ed) (y4 y5 y6 y7 : Sl), m.length = a.length → lab0.length = a.length → UF L lab0 →
      (∀ L' y4 y5 y6 y7, UF L' (com1 m lab0 m.length) → Φ.nx [.val (.tup (a.map D.int)), .val (.tup (b.map D.int)), .own (.lst (nL L')), .val (.tup (m.map D.int)), y4, y5, y6, y7]) →
      sSeq (sDic 5) (sFor (iRng1 (aCons (eCB cLen (aCons (eVar 3) aNil)) aNil)) (gN 4)
  (sSeq (sIf (tBl (eInO true 5 (eOp oIx (eVar 3) (eVar 4))))
  (sPutO 5 (eOp oIx (eVar 3) (eVar 4)) (eVar 4))
  sNext)
  (sSeq (sSet (eGetO 5 (eOp oIx (eVar 3) (eVar 4))) 6)
  (sSeq (sWhile (tBl (eOp oNe (eIxO 2 (eVar 6)) (eVar 6)))
  (sSeq (sSetIx 2 (eVar 6) (eIxO 2 (eIxO 2 (eVar 6))))
  (sSet (eIxO 2 (eVar 6)) 6)))
  (sSeq (sSet (eVar 4) 7)
  (sSeq (sWhile (tBl (eOp oNe (eIxO 2 (eVar 7)) (eVar 7)))
  (sSeq (sSetIx 2 (eVar 7) (eIxO 2 (eIxO 2 (eVar 7))))
  (sSet (eIxO 2 (eVar 7)) 7)))
  (sSetIx 2 (eCB cMaxG (aCons (eVar 6) (aCons (eVar 7) aNil))) (eCB cMin (aCons (eVar 6) (aCons (eVar 7) aNil)))))))))) Φ
        [.val (.tup (a.map D.int)), .val (.tup (b.map D.int)), .own (.lst (nL L)), .val (.tup (m.map D.int)), y4, y5, y6, y7] := by
    intro m L lab0 Φ y4 y5 y6 y7 hm hl0 hu hΦ
    refine sDic_of dkInt ?_
    dsimp only [List.set]
    refine for_rng m.length (fun i ρ' => ∃ L' y4 y6 y7, UF L' (com1 m lab0 i) ∧ ρ' = [.val (.tup (a.map D.int)), .val (.tup (b.map D.int)), .own (.lst (nL L')), .val (.tup (m.map D.int)), y4, .own (dkInt.ow (tabF m i)), y6, y7]) (fun P Xp q => by
      walk_at "zz"
      rw [List.length_map]
      exact ⟨by omega, by omega, q⟩) ⟨_, _, _, _, hu, rfl⟩ ?_ ?_
    · rintro i ρ' hi ⟨L', y4, y6, y7, u, rfl⟩
      have hf := fi_le (m := m) hi
      have hL : (com1 m lab0 i).length = a.length := by rw [com1_length, hl0]
      refine firsts_step (m := m) (i := i) (d := .tup (m.map D.int)) rfl rfl rfl (ixI_tup m) hi (by omega) ?_
      refine firsts_get (m := m) (i := i) (d := .tup (m.map D.int)) rfl rfl rfl (ixI_tup m) hi ?_
      dsimp only [List.set]
      refine root6 u (k := fi m i) (by omega) fun L2 u2 => ?_
      refine ⟨_, rfl, ?_⟩
      dsimp only [List.set]
      refine root7 u2 (k := i) (by omega) fun L3 u3 => ?_
      have u4 := u3.join (f := fi m i) (k := i) (by omega) (by omega)
      have hh : high (com1 m lab0 i) (fi m i) i < L3.length := by
        have h1 := u3.ll (fi m i) (by omega)
        have h2 := u3.ll i (by omega)
        have h3 := u3.len
        unfold high; omega
      refine ⟨_, rfl, _, rfl, ?_⟩
      dsimp only [aNil]
      refine cMin_nat ?_
      refine ⟨_, rfl, _, rfl, _, rfl, ?_⟩
      dsimp only [aNil]
      refine cMax_nat ?_
      refine ⟨_, _, rfl, ixN_nat (i := high (com1 m lab0 i) (fi m i) i) (by rw [List.length_map]; exact hh), L3.set (high (com1 m lab0 i) (fi m i) i) (low (com1 m lab0 i) (fi m i) i), .val (nI i), .val (nI ((com1 m lab0 i).getD (fi m i) 0)), .val (nI ((com1 m lab0 i).getD i 0)), ?_, ?_⟩
      · rw [com1_succ]; exact u4
      · rw [nL_set]; rfl
    · rintro ρ' ⟨L', y4, y6, y7, u, rfl⟩
      exact hΦ _ _ _ _ _ u
  refine seq_of (fun ρ' => ρ' = [.val (.tup (a.map D.int)), .val (.tup (b.map D.int)), .own (.lst (nL (List.range a.length))), .em, .em, .em, .em, .em]) ?_ (fun N hN => ?_)
  · rintro ρ' rfl
    refine seq_of (fun ρ' => ∃ L y3 y4 y5 y6 y7, UF L (comL a b) ∧ ρ' = [.val (.tup (a.map D.int)), .val (.tup (b.map D.int)), .own (.lst (nL L)), y3, y4, y5, y6, y7]) ?_ (fun N hN => ?_)
    · rintro ρ' ⟨L, y3, y4, y5, y6, y7, u, rfl⟩
      have hlen := u.len
      have hlen2 := comL_length a b
      refine for_rng L.length (fun i ρ' => ∃ L' y4, L' = (comL a b).take i ++ L.drop i ∧ ρ' = [.val (.tup (a.map D.int)), .val (.tup (b.map D.int)), .own (.lst (nL L')), y3, y4, y5, y6, y7]) (fun P Xp q => by
        walk_at "zz"
        rw [List.length_map]
        exact ⟨by omega, by omega, q⟩) ⟨_, _, by simp, rfl⟩ ?_ ?_
      · rintro i ρ' hi ⟨L', y4, e, rfl⟩
        have hs := u.last (k := i) (by omega) e
        have hle := u.le i (by omega)
        have hlL : L'.length = L.length := by rw [e]; simp; omega
        have e1 := getAt (l := L') (i := i) (by omega)
        have d1 := getD_of e1
        have l1 : L'[i] ≤ i := by
          have : L'[i]? = L[i]? := by
            rw [e, List.getElem?_append_right (by simp; omega), List.getElem?_drop]
            congr 1; simp; omega
          rw [e1] at this
          have := getD_of this.symm
          omega
        have e2 := getAt (l := L') (i := L'[i]) (by omega)
        have d2 := getD_of e2
        rw [d1, d2] at hs
        walk_at "zz"
        rw [atN, get_map e1]
        walk_at "zz"
        rw [atN, get_map e2]
        walk_at "zz"
        refine ⟨_, _, rfl, ixN_nat (by rw [List.length_map]; omega), _, .val (nI i), hs, ?_⟩
        rw [nL_set]
      · rintro ρ' ⟨L', y4, e, rfl⟩
        refine ⟨_, rfl, ?_⟩
        rw [e, List.drop_length, List.append_nil, List.take_of_length_le (by omega)]
        exact h
    · refine for_of [.tup (a.map D.int), .tup (b.map D.int)] (fun i ρ' => ∃ y3 y4 y5 y6 y7 L lab, ρ' = [.val (.tup (a.map D.int)), .val (.tup (b.map D.int)), .own (.lst (nL L)), y3, y4, y5, y6, y7] ∧ UF L lab ∧
        lab = (if i = 0 then List.range a.length else if i = 1 then com1 a (List.range a.length) a.length else comL a b)) (fun P Xp q => by
          walk_at "zz"
          exact ⟨by decide, q⟩) ⟨_, _, _, _, _, _, _, rfl, UF.init _, rfl⟩ ?_ ?_
      · rintro i x ρ' hx ⟨y3, y4, y5, y6, y7, L, lab, rfl, u, hL⟩
        match i, hx with
        | 0, hx =>
          cases hx
          refine row a L lab _ _ _ _ _ rfl (by rw [hL]; simp) u fun L' y4 y5 y6 y7 u' => ⟨_, _, _, _, _, _, _, rfl, u', ?_⟩
          rw [hL]; rfl
        | 1, hx =>
          cases hx
          refine row b L lab _ _ _ _ _ hl.symm (by rw [hL]; simp [com1_length]) u fun L' y4 y5 y6 y7 u' => ⟨_, _, _, _, _, _, _, rfl, u', ?_⟩
          rw [hL]; rfl
        | i + 2, hx => simp at hx
      · rintro ρ' ⟨y3, y4, y5, y6, y7, L, lab, rfl, u, hL⟩
        have hL : lab = comL a b := hL
        subst hL
        exact hN _ ⟨_, _, _, _, _, _, u, rfl⟩
  · walk_at "zz"
    refine lc_rng a.length nI (by omega) (fun P Xp q => ?_) (fun j hj A hA => ?_) ?_
    · walk_at "zz"
      rw [List.length_map]
      exact ⟨by omega, by omega, q⟩
    · walk_at "zz"
      exact hA
    · exact hN _ rfl
end
section
variable {κ : Type} [DecidableEq κ] {P : D → Prop} {Xp : Xd} {PL : List D → Prop} {r s : List Nat}
theorem and_ok (hr : SOk r) (hl : r.length = s.length) (h : P (sgt (num (r.zip s)))) : w_Sight___and__ [sgt r, sgt s] P Xp := by
  have h0 := hr.pos
  have hz := hr.len
  unfold w_Sight___and__ t_Sight___and__
  walk_at "zz"
  rw [if_neg (by omega)]
  rw [pair_map]
  refine numbered_ok dkPair _ ((iL r).zip (iL s)) (fun P q => q) (by simp; omega) ?_
  rw [zip_iL]
  refine init_ok (row_nT _) (by rw [List.length_map, num_length]; simp; omega) (by rw [List.length_map, num_length]; simp; omega) ?_
  rw [num_iL, num_num]
  exact h
theorem and_differ (hl : r.length ≠ s.length) (h : Xp "SizesDiffer" [("two", nI s.length), ("one", nI r.length)]) : w_Sight___and__ [sgt r, sgt s] P Xp := by
  unfold w_Sight___and__ t_Sight___and__
  walk_at "zz"
  rw [if_pos (by omega)]
  exact h
theorem b_and (h : w_Sight___and__ [sgt r, sgt s] P Xp) : binD tb___and__ oNone (sgt r) (sgt s) P Xp := ⟨_, _, by unfold tb___and__; rw [if_pos rfl], rfl, h⟩
end
section
variable {κ : Type} [DecidableEq κ] {P : D → Prop} {Xp : Xd} {PL : List D → Prop} {r s : List Nat}
theorem or_ok (hr : SOk r) (hl : r.length = s.length) (h : P (sgt (num (comL r s)))) : w_Sight___or__ [sgt r, sgt s] P Xp := by
  have h0 := hr.pos
  have hz := hr.len
  unfold w_Sight___or__ t_Sight___or__
  walk_at "zz"
  rw [if_neg (by omega), nL_ints r, nL_ints s]
  refine joined_ok (by simpa using hl) (by simpa using hz) ?_
  rw [com_iL]
  refine init_ok (row_nL _) (by rw [List.length_map, comL_length]; omega) (by rw [List.length_map, comL_length]; omega) ?_
  rw [num_iL]
  exact h
theorem or_differ (hl : r.length ≠ s.length) (h : Xp "SizesDiffer" [("two", nI s.length), ("one", nI r.length)]) : w_Sight___or__ [sgt r, sgt s] P Xp := by
  unfold w_Sight___or__ t_Sight___or__
  walk_at "zz"
  rw [if_pos (by omega)]
  exact h
theorem b_or (h : w_Sight___or__ [sgt r, sgt s] P Xp) : binD tb___or__ oNone (sgt r) (sgt s) P Xp := ⟨_, _, by unfold tb___or__; rw [if_pos rfl], rfl, h⟩
end
section
variable {κ : Type} [DecidableEq κ] {P : D → Prop} {Xp : Xd} {PL : List D → Prop} {r s : List Nat}
theorem eq_sgt (hr : r.length < sizeLine) (h : P (.bl (decide (r = s)))) : w_Sight___eq__ [sgt r, sgt s] P Xp := by
  unfold w_Sight___eq__ t_Sight___eq__
  walk_at "zz"
  exact ⟨okT.ok (okT_tup (n := 0) (okT_nats r)) (by decide), okT.ok (okT_tup (n := 0) (okT_nats s)) (by decide), by rw [eqD_tupN]; exact h⟩
/-- values that are no sight -/
def NoS (d : D) : Prop := ∃ t : String, tyG d = some (.b t) ∧ tab (.b t) (.c "Sight") = some false
theorem eq_no {d : D} (hd : NoS d) (h : P (.bl false)) : w_Sight___eq__ [sgt r, d] P Xp := by
  obtain ⟨t, h1, h2⟩ := hd
  unfold w_Sight___eq__ t_Sight___eq__
  walk_at "zz"
  rw [isiG_eq (r := false) h1 (by show (clsG (.gl "Sight")).bind (tab (.b t)) = _; exact h2)]
  exact h
end
section
variable {κ : Type} [DecidableEq κ] {P : D → Prop} {Xp : Xd} {PL : List D → Prop} {r s : List Nat}
theorem a_one {a b : Nat} : attrD at_one "one" (.err "SizesDiffer" [("two", nI b), ("one", nI a)]) P = P (nI a) := by
  rw [attr_fld (t := .e "SizesDiffer") rfl (by unfold at_one; rw [if_pos rfl])]
  show (∃ v, List.lookup _ [_, _] = some v ∧ P v) = _
  rw [lk1 (by decide), lk0, ex_some]
theorem a_two {a b : Nat} : attrD at_two "two" (.err "SizesDiffer" [("two", nI b), ("one", nI a)]) P = P (nI b) := by
  rw [attr_fld (t := .e "SizesDiffer") rfl (by unfold at_two; rw [if_pos rfl])]
  show (∃ v, List.lookup _ [_, _] = some v ∧ P v) = _
  rw [lk0, ex_some]
theorem error_ok {a b : Nat} (h : P (.bl true)) : w__law_error [.err "SizesDiffer" [("two", nI b), ("one", nI a)], nI a, nI b] P Xp := by
  unfold w__law_error t__law_error
  walk_at "zz"
  refine ⟨by decide, ?_⟩
  rw [a_one]
  refine whole_ok _ ?_
  walk_at "zz"
  rw [a_two]
  refine whole_ok _ ?_
  walk_at "zz"
  rw [a_one]
  walk_at "zz"
  rw [a_two]
  walk_at "zz"
  exact h
end
section
variable {κ : Type} [DecidableEq κ] {P : D → Prop} {Xp : Xd} {PL : List D → Prop} {r s : List Nat}
theorem nothing_ok (n : Nat) (h0 : 0 < n) (hz : n < sizeLine) (h : P (sgt (List.replicate n 0))) : w_Sight_nothing [.gl "Sight", nI n] P Xp := by
  have hsz : sizeLine = 2 ^ 24 := rfl
  unfold w_Sight_nothing t_Sight_nothing
  refine ⟨rfl, ?_⟩
  refine lc_rng n (fun _ => .int 0) (by omega) (fun P Xp q => ?_) (fun j hj A hA => ?_) ?_
  · walk_at "zz"
    exact ⟨by omega, by omega, q⟩
  · walk_at "zz"
    exact hA
  · walk_at "zz"
    have e : (List.range n).map (fun _ => D.int 0) = (List.replicate n (0 : Int)).map D.int := by
      rw [List.map_const', List.map_replicate, List.length_range]
    rw [e]
    refine init_ok (.l _) (by simpa using h0) (by simp; omega) ?_
    rw [num_const]
    simp only [fold_sgt]
    exact h
end
section
variable {κ : Type} [DecidableEq κ] {P : D → Prop} {Xp : Xd} {PL : List D → Prop} {r s : List Nat}
theorem everything_ok (n : Nat) (h0 : 0 < n) (hz : n < sizeLine) (h : P (sgt (List.range n))) : w_Sight_everything [.gl "Sight", nI n] P Xp := by
  have hsz : sizeLine = 2 ^ 24 := rfl
  unfold w_Sight_everything t_Sight_everything
  refine ⟨rfl, ?_⟩
  refine lc_rng n nI (by omega) (fun P Xp q => ?_) (fun j hj A hA => ?_) ?_
  · walk_at "zz"
    exact ⟨by omega, by omega, q⟩
  · walk_at "zz"
    exact hA
  · walk_at "zz"
    have e : (List.range n).map nI = (iL (List.range n)).map D.int := nL_ints _
    rw [e]
    refine init_ok (.l _) (by simpa using h0) (by simp; omega) ?_
    rw [num_iL, num_range]
    simp only [fold_sgt]
    exact h
end
end K01

namespace K01
open PySem PySem.Spec PyProof.Rows L2 Z Sg
local macro_rules | `(tactic| walk_at "zz") => `(tactic| try simp only [Z.sNext, Z.sSeq, Z.sSet, Z.sSetF, Z.sAsg, Z.sIf, Z.sRet, Z.sRetF, Z.sRetO, Z.sRetN, Z.sDrop, Z.sBrk, Z.sCont, Z.sFrz, Z.sApp, Z.sSetIx, Z.eVar, Z.eC, Z.eOp, Z.eUn, Z.eCh, Z.tBl, Z.tTr, Z.tAnd, Z.tOr, Z.tNot, Z.eAnd, Z.eOr, Z.eNot, Z.eIf, Z.aNil, Z.aCons, Z.eTup, Z.fLst, Z.eF, Z.eCB, Z.fCB, Z.eCall, Z.fCall, Z.gN, Z.gTup, Z.gsCons, Z.gsNil, Z.iSeq, Z.iRng1, Z.iRng2, Z.eIxO, Z.eLenO, Z.startD, Z.wipeD, Z.d_lst, Z.d_ins, Z.d_dk, Z.d_dt, Z.tYes, Z.isBl_bl, Z.caseB_t, Z.caseB_f, Z.truP_bl, Z.truP_int, Z.truP_non, Z.truP_lst, Z.truP_tup, Z.oI_int, Z.oC_int, Z.oNeg_int, Z.oAdd_int, Z.oAdd_str, Z.oAdd_lst, Z.oAdd_tup, Z.oEq_int, Z.oNe_int, Z.oEq_str, Z.oNe_str, Z.oEq_lst, Z.oNe_lst, Z.oEq_tup, Z.oNe_tup, Z.oIn_tup, Z.oIn_lst, Z.oIx_lst, Z.oIx_tup, Z.oIx_scr, Z.oIx_str, Z.cLen_lst, Z.cLen_tup, Z.cLen_scr, Z.cLen_str, Z.cAbs_int, Z.cInt_int, Z.cInt_bl, Z.cMax_2, Z.cMin_2, Z.cMax_l, Z.cMin_l, Z.cTup_lst, Z.cTup_tup, Z.cLst_lst, Z.cLst_tup, Z.cLst_scr, Z.cGcd_int, Z.itemsD_lst, Z.itemsD_tup, Z.itemsD_scr, Z.rng1_int, Z.rng2_int, Z.asTup_tup, Z.oEq_bl, Z.oNe_bl, Z.ixD_int, List.map_cons, List.map_nil, List.length_cons, List.length_nil, List.replicate, List.cons_append, List.nil_append, List.set_cons_zero, List.set_cons_succ, List.getElem?_cons_zero, List.getElem?_cons_succ, Option.some.injEq, Z.Sl.val.injEq, Z.Sl.own.injEq, Z.Ow.lst.injEq, Z.D.int.injEq, exists_eq_left', exists_eq_left, true_and, and_true, if_true, if_false, Bool.false_eq_true, decide_eq_true_eq, Bool.not_true, Bool.not_false, Bool.not_eq_true', decide_eq_false_iff_not, Z.eInO, Z.sPutO, Z.eGetO, Z.eLenD, Z.sFldS, Z.eFldO, Z.eAttr, Z.eMake, Z.eMakeL, Z.eCm, Z.sRaise0, Z.sRaiseI, Z.aStar, Z.fZip, Z.fRep, Z.eRoot, Z.eIxP, Z.eLenP, Z.sAppP, Z.sSetIxP, Z.eMethG, Z.eBinG, Z.eEqG, Z.eBor, Z.tBor, Z.fBor, Z.zipD_tup, Z.cMaxG_2, Z.startI, Z.sTryAs, reduceIte, reduceCtorEq, decide_true, decide_false, not_true_eq_false, not_false_eq_true, Bool.or_true, Bool.true_or, Bool.or_false, Bool.false_or, Bool.and_true, Bool.true_and, Bool.and_false, Bool.false_and, Z.lk0, Z.ex_some, Z.at0, Z.at1, Z.at2, Z.at3, Z.at4, Z.at5, Z.at6, Z.at7, Z.at8, Z.at9, Z.at10, Z.at11, Z.lenO_lst, Z.oIs_eq, Z.oIsnot_eq, Z.isNon_non, Z.isNon_bl, Z.isNon_int, Z.isNon_str, Z.isNon_tup, Z.isNon_lst, Z.isNon_ins, Z.eSl, Z.pNo, Z.pSome, Z.oSl, Z.sIns, K01.a_marks, K01.a_size, K01.a_cells, K01.i_NoneType_Sight, K01.i_NoneType_SizesDiffer, K01.i_NoneType_NoDeals, K01.i_NoneType_BadLength, K01.i_bool_Sight, K01.i_bool_SizesDiffer, K01.i_bool_NoDeals, K01.i_bool_BadLength, K01.i_int_Sight, K01.i_int_SizesDiffer, K01.i_int_NoDeals, K01.i_int_BadLength, K01.i_str_Sight, K01.i_str_SizesDiffer, K01.i_str_NoDeals, K01.i_str_BadLength, K01.i_list_Sight, K01.i_list_SizesDiffer, K01.i_list_NoDeals, K01.i_list_BadLength, K01.i_tuple_Sight, K01.i_tuple_SizesDiffer, K01.i_tuple_NoDeals, K01.i_tuple_BadLength, K01.i_Sight_Sight, K01.i_Sight_SizesDiffer, K01.i_Sight_NoDeals, K01.i_Sight_BadLength, K01.i_Sight_list, K01.i_Sight_tuple, K01.i_Sight_int, K01.i_Sight_bool, K01.i_Sight_ValueError, K01.i_NoDeals_SizesDiffer, K01.i_NoDeals_NoDeals, K01.i_NoDeals_BadLength, K01.i_NoDeals_Sight, K01.i_NoDeals_list, K01.i_NoDeals_tuple, K01.i_NoDeals_int, K01.i_NoDeals_bool, K01.i_NoDeals_ValueError, K01.i_SizesDiffer_SizesDiffer, K01.i_SizesDiffer_NoDeals, K01.i_SizesDiffer_BadLength, K01.i_SizesDiffer_Sight, K01.i_SizesDiffer_list, K01.i_SizesDiffer_tuple, K01.i_SizesDiffer_int, K01.i_SizesDiffer_bool, K01.i_SizesDiffer_ValueError, K01.i_NoneType_bool, K01.i_NoneType_int, K01.i_NoneType_list, K01.i_NoneType_tuple, K01.i_NoneType_str, K01.i_bool_bool, K01.i_bool_int, K01.i_bool_list, K01.i_bool_tuple, K01.i_bool_str, K01.i_int_bool, K01.i_int_int, K01.i_int_list, K01.i_int_tuple, K01.i_int_str, K01.i_str_bool, K01.i_str_int, K01.i_str_list, K01.i_str_tuple, K01.i_str_str, K01.i_list_bool, K01.i_list_int, K01.i_list_list, K01.i_list_tuple, K01.i_list_str, K01.i_tuple_bool, K01.i_tuple_int, K01.i_tuple_list, K01.i_tuple_tuple, K01.i_tuple_str, K01.i_NoneType_list_tuple, K01.i_bool_list_tuple, K01.i_int_list_tuple, K01.i_str_list_tuple, K01.i_list_list_tuple, K01.i_tuple_list_tuple, K01.i_Sight_list_tuple, K01.i_NoDeals_list_tuple, K01.i_SizesDiffer_list_tuple, K01.i_NoneType_NoDeals_BadLength, K01.i_bool_NoDeals_BadLength, K01.i_int_NoDeals_BadLength, K01.i_str_NoDeals_BadLength, K01.i_list_NoDeals_BadLength, K01.i_tuple_NoDeals_BadLength, K01.i_Sight_NoDeals_BadLength, K01.i_NoDeals_NoDeals_BadLength, K01.i_SizesDiffer_NoDeals_BadLength])
section
variable {P : D → Prop} {Xp : Xd} {PL : List D → Prop} {r s : List Nat}
theorem pair_ok {a b : List Int} (hl : a.length = b.length) (hz : a.length < sizeLine) (h : ∀ x, IsFirst a b x → P (optD x)) : w__law_pair [.lst (a.map D.int), .lst (b.map D.int)] P Xp := by
  have hsz : sizeLine = 2 ^ 24 := rfl
  unfold w__law_pair t__law_pair
  refine for_rng a.length (fun i ρ' => ∃ y z, (∀ d o, d < i → ¬ Parts a b d o) ∧ ρ' = [.val (.lst (a.map D.int)), .val (.lst (b.map D.int)), y, z]) (fun P Xp q => by
    walk_at "zz"
    rw [List.length_map]
    exact ⟨by omega, by omega, q⟩) ⟨_, _, fun d o z => by omega, rfl⟩ ?_ ?_
  · rintro i ρ' hi ⟨y, z, hn, rfl⟩
    refine for_of (rangeD (i + 1) (a.length - (i + 1))) (fun j ρ' => ∃ z, (∀ o, o < i + 1 + j → ¬ Parts a b i o) ∧ ρ' = [.val (.lst (a.map D.int)), .val (.lst (b.map D.int)), .val (nI i), z]) (fun P Xp q => by
      walk_at "zz"
      rw [List.length_map]
      refine ⟨⟨by omega, by omega, by omega, by omega⟩, ?_⟩
      have e : ((a.length : Int) - ((i : Int) + 1)).toNat = a.length - (i + 1) := by omega
      rw [e]; exact q) ⟨_, fun o ho z => by have := z.1; omega, rfl⟩ ?_ ?_
    · rintro j x ρ' hx ⟨z, hj, rfl⟩
      obtain ⟨hlt, rfl⟩ := rangeD_get hx
      have ho : i + 1 + j < a.length := by omega
      have eo : ((i : Int) + 1 + (j : Nat)) = ((i + 1 + j : Nat) : Int) := by omega
      rw [eo]
      generalize i + 1 + j = o at *
      have e1 := getAt (l := a) hi
      have e2 := getAt (l := a) ho
      have e3 := getAt (l := b) (i := i) (by omega)
      have e4 := getAt (l := b) (i := o) (by omega)
      walk_at "zz"
      rw [atN, get_map e1]
      walk_at "zz"
      rw [atN, get_map e2]
      walk_at "zz"
      split
      · rename_i c1
        rw [atN, get_map e3]
        walk_at "zz"
        rw [atN, get_map e4]
        walk_at "zz"
        split
        · rename_i c2
          refine ⟨by decide, h (some (i, o)) ⟨⟨by omega, ho, by rw [e1, e2, c1], by rw [e3, e4]; exact fun z => c2 (Option.some.inj z)⟩, ?_⟩⟩
          rintro d' o' (c | ⟨rfl, c⟩)
          · exact hn d' o' c
          · exact hj o' c
        · rename_i c2
          refine ⟨_, fun o' ho' z => ?_, rfl⟩
          by_cases c : o' < o
          · exact hj o' c z
          · have eo' : o' = o := by omega
            subst eo'
            apply z.2.2.2
            rw [e3, e4]
            exact congrArg _ (by simpa using c2)
      · rename_i c1
        refine ⟨_, fun o' ho' z => ?_, rfl⟩
        by_cases c : o' < o
        · exact hj o' c z
        · have eo' : o' = o := by omega
          subst eo'
          apply c1
          have := z.2.2.1
          rw [e1, e2] at this
          exact Option.some.inj this
    · rintro ρ' ⟨z, hj, rfl⟩
      refine ⟨_, _, fun d o hd z => ?_, rfl⟩
      by_cases c : d < i
      · exact hn d o c z
      · have ed : d = i := by omega
        subst ed
        refine hj o ?_ z
        rw [rangeD_length]
        have := z.2.1
        omega
  · rintro ρ' ⟨y, z, hn, rfl⟩
    exact h none fun d o z => hn d o (by have := z.1; have := z.2.1; omega) z
theorem unlike_ok (hr : SOk r) (nr : num r = r) (hl : r.length = s.length) (h : ∀ x, IsFirst r s x → P (optD x)) : w_unlike_pair [sgt r, sgt s] P Xp := by
  have hsz : sizeLine = 2 ^ 24 := rfl
  unfold w_unlike_pair t_unlike_pair
  walk_at "zz"
  rw [if_neg (by omega)]
  refine for_of ((cellsL r).map fun g => D.tup (nL g)) (fun k ρ' => ∃ y z, (∀ g, g < k → Whole r s g) ∧ ρ' = [.val (sgt r), .val (sgt s), y, z]) (fun P Xp q => by
    walk_at "zz"
    exact cells_ok hr.pos hr.len hr.lt q) ⟨_, _, fun g hg => by omega, rfl⟩ ?_ ?_
  · rintro k x ρ' hx ⟨y, z, hw, rfl⟩
    obtain ⟨g, hg, rfl⟩ := map_get hx
    have hk : k ≤ mx r := by have := get_lt hg; rw [show (cellsL r).length = mx r + 1 from grp_length _ _ _] at this; omega
    have eg : g = selL r r.length k := by
      have := grp_get (r := r) (n := r.length) hk
      rw [show cellsL r = grp r (mx r) r.length from rfl, this] at hg
      exact (Option.some.inj hg).symm
    subst eg
    refine for_of (nL (selL r r.length k)) (fun q ρ' => ∃ z, (∀ c, (selL r r.length k)[0]? = some c → ∀ p x, p < q → (selL r r.length k)[p]? = some x → s[c]? = s[x]?) ∧ ρ' = [.val (sgt r), .val (sgt s), .val (.tup (nL (selL r r.length k))), z]) (fun P Xp q => by
      walk_at "zz"
      exact q) ⟨_, fun c h0 p x hp => by omega, rfl⟩ ?_ ?_
    · rintro q x ρ' hx ⟨z, hq, rfl⟩
      obtain ⟨o, ho, rfl⟩ := map_get hx
      obtain ⟨c, h0⟩ : ∃ c, (selL r r.length k)[0]? = some c := ⟨_, getAt (by have := get_lt ho; omega)⟩
      have mc := sel_mem.mp (List.mem_of_getElem? h0)
      have mo := sel_mem.mp (List.mem_of_getElem? ho)
      have e1 := getAt (l := s) (i := c) (by omega)
      have e2 := getAt (l := s) (i := o) (by omega)
      have hat : atI (nL (selL r r.length k)) 0 = some (nI c) := atI_pos (j := 0) rfl (get_map h0)
      walk_at "zz"
      refine ⟨_, rfl, rfl, _, hat, ?_⟩
      refine alike_ok e1 e2 ?_
      walk_at "zz"
      rw [hat]
      walk_at "zz"
      split
      · rename_i hd
        refine ⟨by decide, h (some (c, o)) (first_of_walk nr hw h0 ho (by rw [e1, e2]; exact fun z => hd (Option.some.inj z)) (fun p x hp hx => hq c h0 p x hp hx))⟩
      · rename_i hd
        refine ⟨_, fun c' h0' p x hp hpx => ?_, rfl⟩
        rw [h0] at h0'; cases h0'
        by_cases cc : p < q
        · exact hq c h0 p x cc hpx
        · have ep : p = q := by omega
          subst ep
          rw [ho] at hpx; cases hpx
          rw [e1, e2]
          exact congrArg _ (by simpa using hd)
    · rintro ρ' ⟨z, hq, rfl⟩
      refine ⟨_, _, fun g hg => ?_, rfl⟩
      by_cases c : g < k
      · exact hw g c
      · have ec : g = k := by omega
        subst ec
        rw [List.length_map] at hq
        cases he : selL r r.length g with
        | nil => exact whole_nil he
        | cons c0 rest =>
          refine whole_of (c := c0) (by rw [he]; rfl) fun p x hp => hq c0 (by rw [he]; rfl) p x (get_lt hp) hp
  · rintro ρ' ⟨y, z, hw, rfl⟩
    refine h none (none_of_walk fun g hg => hw g ?_)
    rw [List.length_map, show (cellsL r).length = mx r + 1 from grp_length _ _ _]
    omega
theorem unlike_differ (hl : r.length ≠ s.length) (h : Xp "SizesDiffer" [("two", nI s.length), ("one", nI r.length)]) : w_unlike_pair [sgt r, sgt s] P Xp := by
  unfold w_unlike_pair t_unlike_pair
  walk_at "zz"
  rw [if_pos (by omega)]
  exact h
theorem isNon_opt (x : Option (Nat × Nat)) : isNon (optD x) = decide (x = none) := by cases x <;> rfl
theorem tells_ok (hr : SOk r) (nr : num r = r) (hl : r.length = s.length) (h : ∀ x, IsFirst r s x → P (.bl (decide (x = none)))) : w_tells [sgt r, sgt s] P Xp := by
  unfold w_tells t_tells
  walk_at "zz"
  refine unlike_ok hr nr hl fun x hx => ?_
  walk_at "zz"
  rw [isNon_opt]
  exact h x hx
theorem tells_differ (hl : r.length ≠ s.length) (h : Xp "SizesDiffer" [("two", nI s.length), ("one", nI r.length)]) : w_tells [sgt r, sgt s] P Xp := by
  unfold w_tells t_tells
  walk_at "zz"
  exact unlike_differ hl h
theorem asks_ok (hr : SOk r) (nr : num r = r) (hl : r.length = s.length) {x : Option (Nat × Nat)} (hx : IsFirst r s x) (h : P (.bl true)) : w__law_asks [sgt r, sgt s, optD x] P Xp := by
  unfold w__law_asks t__law_asks
  walk_at "zz"
  refine unlike_ok hr nr hl fun y hy => ?_
  have e := hy.uniq hx
  subst e
  refine tells_ok hr nr hl fun z hz => ?_
  have e := hz.uniq hy
  subst e
  walk_at "zz"
  rw [isNon_opt]
  match z, hz with
  | none, _ =>
    walk_at "zz"
    exact h
  | some (d, o), _ =>
    show _
    unfold optD
    walk_at "zz"
    refine whole_ok _ ?_
    walk_at "zz"
    refine whole_ok _ ?_
    walk_at "zz"
    have hk : okT 1 (.tup [nI d, nI o]) := okT_tup (okT_nats [d, o])
    refine ⟨hk.ok (by decide), hk.ok (by decide), ?_⟩
    rw [eqD_refl hk]
    exact h
theorem differs_ok (hl : r.length ≠ s.length) (h : P (.bl true)) : w__law_differs [sgt r, sgt s, nI r.length, nI s.length] P Xp := by
  unfold w__law_differs t__law_differs
  walk_at "zz"
  refine tells_differ hl ⟨true, by decide +kernel, fun _ => ?_, fun z => by cases z⟩
  refine error_ok ?_
  walk_at "zz"
  refine ⟨⟨.inl rfl, .inl rfl, .inl rfl, .inl rfl, .inr (.int _), .inl rfl, trivial⟩, ?_⟩
  walk_at "zz"
  refine unlike_differ hl ⟨true, by decide +kernel, fun _ => ?_, fun z => by cases z⟩
  refine error_ok ?_
  walk_at "zz"
  refine ⟨⟨.inl rfl, .inl rfl, .inl rfl, .inl rfl, .inr (.int _), .inl rfl, trivial⟩, ?_⟩
  walk_at "zz"
  exact h
end
end K01

namespace K01
open PySem PySem.Spec PyProof.Rows L2 Z Sg
local macro_rules | `(tactic| walk_at "zz") => `(tactic| try simp only [Z.sNext, Z.sSeq, Z.sSet, Z.sSetF, Z.sAsg, Z.sIf, Z.sRet, Z.sRetF, Z.sRetO, Z.sRetN, Z.sDrop, Z.sBrk, Z.sCont, Z.sFrz, Z.sApp, Z.sSetIx, Z.eVar, Z.eC, Z.eOp, Z.eUn, Z.eCh, Z.tBl, Z.tTr, Z.tAnd, Z.tOr, Z.tNot, Z.eAnd, Z.eOr, Z.eNot, Z.eIf, Z.aNil, Z.aCons, Z.eTup, Z.fLst, Z.eF, Z.eCB, Z.fCB, Z.eCall, Z.fCall, Z.gN, Z.gTup, Z.gsCons, Z.gsNil, Z.iSeq, Z.iRng1, Z.iRng2, Z.eIxO, Z.eLenO, Z.startD, Z.wipeD, Z.d_lst, Z.d_ins, Z.d_dk, Z.d_dt, Z.tYes, Z.isBl_bl, Z.caseB_t, Z.caseB_f, Z.truP_bl, Z.truP_int, Z.truP_non, Z.truP_lst, Z.truP_tup, Z.oI_int, Z.oC_int, Z.oNeg_int, Z.oAdd_int, Z.oAdd_str, Z.oAdd_lst, Z.oAdd_tup, Z.oEq_int, Z.oNe_int, Z.oEq_str, Z.oNe_str, Z.oEq_lst, Z.oNe_lst, Z.oEq_tup, Z.oNe_tup, Z.oIn_tup, Z.oIn_lst, Z.oIx_lst, Z.oIx_tup, Z.oIx_scr, Z.oIx_str, Z.cLen_lst, Z.cLen_tup, Z.cLen_scr, Z.cLen_str, Z.cAbs_int, Z.cInt_int, Z.cInt_bl, Z.cMax_2, Z.cMin_2, Z.cMax_l, Z.cMin_l, Z.cTup_lst, Z.cTup_tup, Z.cLst_lst, Z.cLst_tup, Z.cLst_scr, Z.cGcd_int, Z.itemsD_lst, Z.itemsD_tup, Z.itemsD_scr, Z.rng1_int, Z.rng2_int, Z.asTup_tup, Z.oEq_bl, Z.oNe_bl, Z.ixD_int, List.map_cons, List.map_nil, List.length_cons, List.length_nil, List.replicate, List.cons_append, List.nil_append, List.set_cons_zero, List.set_cons_succ, List.getElem?_cons_zero, List.getElem?_cons_succ, Option.some.injEq, Z.Sl.val.injEq, Z.Sl.own.injEq, Z.Ow.lst.injEq, Z.D.int.injEq, exists_eq_left', exists_eq_left, true_and, and_true, if_true, if_false, Bool.false_eq_true, decide_eq_true_eq, Bool.not_true, Bool.not_false, Bool.not_eq_true', decide_eq_false_iff_not, Z.eInO, Z.sPutO, Z.eGetO, Z.eLenD, Z.sFldS, Z.eFldO, Z.eAttr, Z.eMake, Z.eMakeL, Z.eCm, Z.sRaise0, Z.sRaiseI, Z.aStar, Z.fZip, Z.fRep, Z.eRoot, Z.eIxP, Z.eLenP, Z.sAppP, Z.sSetIxP, Z.eMethG, Z.eBinG, Z.eEqG, Z.eBor, Z.tBor, Z.fBor, Z.zipD_tup, Z.cMaxG_2, Z.startI, Z.sTryAs, reduceIte, reduceCtorEq, decide_true, decide_false, not_true_eq_false, not_false_eq_true, Bool.or_true, Bool.true_or, Bool.or_false, Bool.false_or, Bool.and_true, Bool.true_and, Bool.and_false, Bool.false_and, Z.lk0, Z.ex_some, Z.at0, Z.at1, Z.at2, Z.at3, Z.at4, Z.at5, Z.at6, Z.at7, Z.at8, Z.at9, Z.at10, Z.at11, Z.lenO_lst, Z.oIs_eq, Z.oIsnot_eq, Z.isNon_non, Z.isNon_bl, Z.isNon_int, Z.isNon_str, Z.isNon_tup, Z.isNon_lst, Z.isNon_ins, Z.eSl, Z.pNo, Z.pSome, Z.oSl, Z.sIns, K01.a_marks, K01.a_size, K01.a_cells, K01.i_NoneType_Sight, K01.i_NoneType_SizesDiffer, K01.i_NoneType_NoDeals, K01.i_NoneType_BadLength, K01.i_bool_Sight, K01.i_bool_SizesDiffer, K01.i_bool_NoDeals, K01.i_bool_BadLength, K01.i_int_Sight, K01.i_int_SizesDiffer, K01.i_int_NoDeals, K01.i_int_BadLength, K01.i_str_Sight, K01.i_str_SizesDiffer, K01.i_str_NoDeals, K01.i_str_BadLength, K01.i_list_Sight, K01.i_list_SizesDiffer, K01.i_list_NoDeals, K01.i_list_BadLength, K01.i_tuple_Sight, K01.i_tuple_SizesDiffer, K01.i_tuple_NoDeals, K01.i_tuple_BadLength, K01.i_Sight_Sight, K01.i_Sight_SizesDiffer, K01.i_Sight_NoDeals, K01.i_Sight_BadLength, K01.i_Sight_list, K01.i_Sight_tuple, K01.i_Sight_int, K01.i_Sight_bool, K01.i_Sight_ValueError, K01.i_NoDeals_SizesDiffer, K01.i_NoDeals_NoDeals, K01.i_NoDeals_BadLength, K01.i_NoDeals_Sight, K01.i_NoDeals_list, K01.i_NoDeals_tuple, K01.i_NoDeals_int, K01.i_NoDeals_bool, K01.i_NoDeals_ValueError, K01.i_SizesDiffer_SizesDiffer, K01.i_SizesDiffer_NoDeals, K01.i_SizesDiffer_BadLength, K01.i_SizesDiffer_Sight, K01.i_SizesDiffer_list, K01.i_SizesDiffer_tuple, K01.i_SizesDiffer_int, K01.i_SizesDiffer_bool, K01.i_SizesDiffer_ValueError, K01.i_NoneType_bool, K01.i_NoneType_int, K01.i_NoneType_list, K01.i_NoneType_tuple, K01.i_NoneType_str, K01.i_bool_bool, K01.i_bool_int, K01.i_bool_list, K01.i_bool_tuple, K01.i_bool_str, K01.i_int_bool, K01.i_int_int, K01.i_int_list, K01.i_int_tuple, K01.i_int_str, K01.i_str_bool, K01.i_str_int, K01.i_str_list, K01.i_str_tuple, K01.i_str_str, K01.i_list_bool, K01.i_list_int, K01.i_list_list, K01.i_list_tuple, K01.i_list_str, K01.i_tuple_bool, K01.i_tuple_int, K01.i_tuple_list, K01.i_tuple_tuple, K01.i_tuple_str, K01.i_NoneType_list_tuple, K01.i_bool_list_tuple, K01.i_int_list_tuple, K01.i_str_list_tuple, K01.i_list_list_tuple, K01.i_tuple_list_tuple, K01.i_Sight_list_tuple, K01.i_NoDeals_list_tuple, K01.i_SizesDiffer_list_tuple, K01.i_NoneType_NoDeals_BadLength, K01.i_bool_NoDeals_BadLength, K01.i_int_NoDeals_BadLength, K01.i_str_NoDeals_BadLength, K01.i_list_NoDeals_BadLength, K01.i_tuple_NoDeals_BadLength, K01.i_Sight_NoDeals_BadLength, K01.i_NoDeals_NoDeals_BadLength, K01.i_SizesDiffer_NoDeals_BadLength])
/-- the marks of both rows -/
def Two (a b : List Int) : Prop := a.length = b.length ∧ 0 < a.length ∧ a.length ≤ 2100 ∧ (∀ x ∈ a, 0 ≤ x ∧ x < 2 ^ 40) ∧ ∀ x ∈ b, 0 ≤ x ∧ x < 2 ^ 40
theorem lt40 {l : List Int} {w : Int} (hw : w < 2 ^ 40) (h : ∀ x ∈ l, 0 ≤ x ∧ x < w) : ∀ x ∈ l, 0 ≤ x ∧ x < 2 ^ 40 := fun x hx => ⟨(h x hx).1, by have := (h x hx).2; omega⟩
section
variable {P : D → Prop} {Xp : Xd} {PL : List D → Prop} {r s : List Nat}
theorem draw_ok (ns : List Int) (h : ∀ a b : List Int, Two a b → PL [.lst (a.map D.int), .lst (b.map D.int)]) : w__law_draw [.scr (ns.map D.int)] PL Xp := by
  have hsz : sizeLine = 2 ^ 24 := rfl
  unfold w__law_draw t__law_draw
  refine seq_of (fun ρ' => ∃ s0 s1 s2 s3 s4 s5 : Int, (0 ≤ s1 ∧ s1 < 12) ∧ (0 ≤ s2 ∧ s2 < 40) ∧ (0 ≤ s3 ∧ s3 < 260) ∧ (0 ≤ s4 ∧ s4 < 8) ∧
    ρ' = [.val (.scr (ns.map D.int)), .val (.lst [.int s0, .int s1, .int s2, .int s3, .int s4, .int s5]), .em, .em, .em, .em, .em, .em, .em]) ?_ (fun N hN => ?_)
  · rintro ρ' ⟨s0, s1, s2, s3, s4, s5, h1, h2, h3, h4, rfl⟩
    have cut : ∀ (Q : Int → Prop) (s rest : TSd) (Φ : Ed) (ρ : En), (∀ z : Int, Q z → rest Φ [.val (.scr (ns.map D.int)), .val (.lst [.int s0, .int s1, .int s2, .int s3, .int s4, .int s5]), .val (.int z), .em, .em, .em, .em, .em, .em]) →
        (∀ N : En → Prop, (∀ z : Int, Q z → N [.val (.scr (ns.map D.int)), .val (.lst [.int s0, .int s1, .int s2, .int s3, .int s4, .int s5]), .val (.int z), .em, .em, .em, .em, .em, .em]) → s { Φ with nx := N } ρ) → sSeq s rest Φ ρ := fun Q s rest Φ ρ g1 g2 => g2 _ g1
    refine cut (fun z => 1 ≤ z ∧ z ≤ 12) _ _ _ _ (fun z hz => ?_) (fun N hN => ?_)
    · refine cut (fun z => 1 ≤ z ∧ z ≤ 40) _ _ _ _ (fun z hz => ?_) (fun N hN => ?_)
      · refine cut (fun z => 1 ≤ z ∧ z ≤ 300) _ _ _ _ (fun z hz => ?_) (fun N hN => ?_)
        · walk_at "zz"
          have f2 := fd (a := z) (b := 2) (by decide) (by omega)
          have f3 := fd (a := z) (b := 3) (by decide) (by omega)
          refine ⟨cdiv (by decide) (by decide), cdiv (by decide) (by decide), by decide, ?_⟩
          refine at_lit [3, 2, z.fdiv 2 + 1, 4, z, 5, z.fdiv 3 + 1, 3] (fun x => 1 ≤ x ∧ x ≤ 301) (fun x hx => by
            simp only [List.mem_cons, List.not_mem_nil, or_false] at hx
            omega) h4.1 (by simpa using h4.2) fun w hw => ?_
          refine cell_ok ns 1 (by decide) (by decide) fun c => ⟨by decide, digits_rep (by omega) (by omega) (by omega) (by omega) fun a ha1 ha2 => ?_⟩
          have haL := lt40 (by omega) ha2
          have fw := fd (a := w) (b := 2) (by decide) (by omega)
          split
          · refine cell_ok ns 2 (by decide) (by decide) fun c => ⟨by decide, digits_rep (by omega) (by omega) (by omega) (by omega) fun b hb1 hb2 => ?_⟩
            exact ⟨by decide, h a b ⟨by omega, by omega, by omega, haL, lt40 (by omega) hb2⟩⟩
          · split
            · refine cell_ok ns 2 (by decide) (by decide) fun c => ⟨cdiv (by decide) (by decide), by decide, digits_rep (w := w.fdiv 2 + 2) (by omega) (by omega) (by omega) (by omega) fun b hb1 hb2 => ?_⟩
              exact ⟨by decide, h a b ⟨by omega, by omega, by omega, haL, lt40 (by omega) hb2⟩⟩
            · refine cell_ok ns 2 (by decide) (by decide) fun c => ⟨cdiv (by decide) (by decide), by decide, digits_rep (w := w.fdiv 2 + 1) (by omega) (by omega) (by omega) (by omega) fun k hk1 hk2 => ?_⟩
              refine lc_map a D.int (fun x => .int (k.getD x.toNat 0)) (by omega) (fun P Xp q => by walk_at "zz"; exact q) (fun j x hx A hA => ?_) ?_
              · have hx' := ha2 x (List.mem_of_getElem? hx)
                have e := getAt (l := k) (i := x.toNat) (by omega)
                walk_at "zz"
                refine ⟨_, atI_pos (j := x.toNat) (by omega) (get_map e), ?_⟩
                simp only [List.getD, e] at hA
                exact hA
              · have em : a.map (fun x => D.int (k.getD x.toNat 0)) = (a.map fun x => k.getD x.toNat 0).map D.int := by rw [List.map_map]; rfl
                rw [em]
                have hb2 : ∀ x ∈ a.map (fun x => k.getD x.toNat 0), 0 ≤ x ∧ x < 2 ^ 40 := fun x hx => by
                  obtain ⟨y, hy, rfl⟩ := List.mem_map.mp hx
                  have hy' := ha2 y hy
                  have e := getAt (l := k) (i := y.toNat) (by omega)
                  have := hk2 _ (List.mem_of_getElem? e)
                  simp only [List.getD, e]
                  exact ⟨this.1, by have := this.2; show k[y.toNat] < _; omega⟩
                have hb1 : (a.map fun x => k.getD x.toNat 0).length = a.length := by simp
                generalize a.map (fun x => k.getD x.toNat 0) = b at *
                split
                · refine cell_ok ns 3 (by decide) (by decide) fun c3 => ?_
                  walk_at "zz"
                  have m3 := modpos (a := c3) (b := z) (by omega)
                  obtain ⟨p, hp⟩ : ∃ p : Nat, c3.fmod z = (p : Int) := ⟨_, (Int.toNat_of_nonneg m3.1).symm⟩
                  rw [hp] at m3 ⊢
                  have hpb : p < b.length := by omega
                  refine ⟨by omega, ?_⟩
                  rw [atN, get_map (getAt hpb)]
                  walk_at "zz"
                  refine cell_ok ns 4 (by decide) (by decide) fun c4 => ?_
                  walk_at "zz"
                  refine ⟨cdiv (by decide) (by decide), by omega, cdiv (by decide) (by decide), by omega, ?_⟩
                  have m5 := modpos (a := b[p] + 1 + c4.fmod (w.fdiv 2 + 1)) (b := w.fdiv 2 + 2) (by omega)
                  refine ⟨_, _, rfl, ixN_nat (by rw [List.length_map]; exact hpb), by decide, ?_⟩
                  rw [show (b.map D.int).set p (D.int ((b[p] + 1 + c4.fmod (w.fdiv 2 + 1)).fmod (w.fdiv 2 + 2))) = (b.set p ((b[p] + 1 + c4.fmod (w.fdiv 2 + 1)).fmod (w.fdiv 2 + 2))).map D.int from (List.map_set).symm]
                  refine h a _ ⟨by rw [List.length_set]; omega, by omega, by omega, haL, fun x hx => ?_⟩
                  rcases List.mem_or_eq_of_mem_set hx with hx | rfl
                  · exact hb2 x hx
                  · omega
                · exact ⟨by decide, h a b ⟨by omega, by omega, by omega, haL, hb2⟩⟩
        · walk_at "zz"
          split
          · exact hN _ (by omega)
          · exact hN _ (by omega)
      · walk_at "zz"
        split
        · exact hN _ (by omega)
        · exact hN _ (by omega)
    · walk_at "zz"
      refine ⟨by decide, ?_⟩
      exact at_lit [6, 8, 4, 9, 5, 10, 7, 3, 2, 11, 12, 1] (fun x => 1 ≤ x ∧ x ≤ 12) (by decide) h1.1 (by simpa using h1.2) fun sz hs => hN _ hs
  · walk_at "zz"
    refine cell_ok ns 0 (by decide) (by decide) fun z => ?_
    walk_at "zz"
    refine ⟨by decide, digits_ok z [8, 12, 40, 260, 8, 6] (by decide) (by decide) fun l hl => ?_⟩
    obtain ⟨s0, r, rfl, a0, b0, hl⟩ := dig_cons hl
    obtain ⟨s1, r, rfl, a1, b1, hl⟩ := dig_cons hl
    obtain ⟨s2, r, rfl, a2, b2, hl⟩ := dig_cons hl
    obtain ⟨s3, r, rfl, a3, b3, hl⟩ := dig_cons hl
    obtain ⟨s4, r, rfl, a4, b4, hl⟩ := dig_cons hl
    obtain ⟨s5, r, rfl, a5, b5, hl⟩ := dig_cons hl
    have e := dig_nil hl
    subst e
    exact hN _ ⟨s0, s1, s2, s3, s4, s5, ⟨a1, b1⟩, ⟨a2, b2⟩, ⟨a3, b3⟩, ⟨a4, b4⟩, rfl⟩
end
end K01

namespace K01
open PySem PySem.Spec PyProof.Rows L2 Z Sg
local macro_rules | `(tactic| walk_at "zz") => `(tactic| try simp only [Z.sNext, Z.sSeq, Z.sSet, Z.sSetF, Z.sAsg, Z.sIf, Z.sRet, Z.sRetF, Z.sRetO, Z.sRetN, Z.sDrop, Z.sBrk, Z.sCont, Z.sFrz, Z.sApp, Z.sSetIx, Z.eVar, Z.eC, Z.eOp, Z.eUn, Z.eCh, Z.tBl, Z.tTr, Z.tAnd, Z.tOr, Z.tNot, Z.eAnd, Z.eOr, Z.eNot, Z.eIf, Z.aNil, Z.aCons, Z.eTup, Z.fLst, Z.eF, Z.eCB, Z.fCB, Z.eCall, Z.fCall, Z.gN, Z.gTup, Z.gsCons, Z.gsNil, Z.iSeq, Z.iRng1, Z.iRng2, Z.eIxO, Z.eLenO, Z.startD, Z.wipeD, Z.d_lst, Z.d_ins, Z.d_dk, Z.d_dt, Z.tYes, Z.isBl_bl, Z.caseB_t, Z.caseB_f, Z.truP_bl, Z.truP_int, Z.truP_non, Z.truP_lst, Z.truP_tup, Z.oI_int, Z.oC_int, Z.oNeg_int, Z.oAdd_int, Z.oAdd_str, Z.oAdd_lst, Z.oAdd_tup, Z.oEq_int, Z.oNe_int, Z.oEq_str, Z.oNe_str, Z.oEq_lst, Z.oNe_lst, Z.oEq_tup, Z.oNe_tup, Z.oIn_tup, Z.oIn_lst, Z.oIx_lst, Z.oIx_tup, Z.oIx_scr, Z.oIx_str, Z.cLen_lst, Z.cLen_tup, Z.cLen_scr, Z.cLen_str, Z.cAbs_int, Z.cInt_int, Z.cInt_bl, Z.cMax_2, Z.cMin_2, Z.cMax_l, Z.cMin_l, Z.cTup_lst, Z.cTup_tup, Z.cLst_lst, Z.cLst_tup, Z.cLst_scr, Z.cGcd_int, Z.itemsD_lst, Z.itemsD_tup, Z.itemsD_scr, Z.rng1_int, Z.rng2_int, Z.asTup_tup, Z.oEq_bl, Z.oNe_bl, Z.ixD_int, List.map_cons, List.map_nil, List.length_cons, List.length_nil, List.replicate, List.cons_append, List.nil_append, List.set_cons_zero, List.set_cons_succ, List.getElem?_cons_zero, List.getElem?_cons_succ, Option.some.injEq, Z.Sl.val.injEq, Z.Sl.own.injEq, Z.Ow.lst.injEq, Z.D.int.injEq, exists_eq_left', exists_eq_left, true_and, and_true, if_true, if_false, Bool.false_eq_true, decide_eq_true_eq, Bool.not_true, Bool.not_false, Bool.not_eq_true', decide_eq_false_iff_not, Z.eInO, Z.sPutO, Z.eGetO, Z.eLenD, Z.sFldS, Z.eFldO, Z.eAttr, Z.eMake, Z.eMakeL, Z.eCm, Z.sRaise0, Z.sRaiseI, Z.aStar, Z.fZip, Z.fRep, Z.eRoot, Z.eIxP, Z.eLenP, Z.sAppP, Z.sSetIxP, Z.eMethG, Z.eBinG, Z.eEqG, Z.eBor, Z.tBor, Z.fBor, Z.zipD_tup, Z.cMaxG_2, Z.startI, Z.sTryAs, reduceIte, reduceCtorEq, decide_true, decide_false, not_true_eq_false, not_false_eq_true, Bool.or_true, Bool.true_or, Bool.or_false, Bool.false_or, Bool.and_true, Bool.true_and, Bool.and_false, Bool.false_and, Z.lk0, Z.ex_some, Z.at0, Z.at1, Z.at2, Z.at3, Z.at4, Z.at5, Z.at6, Z.at7, Z.at8, Z.at9, Z.at10, Z.at11, Z.lenO_lst, Z.oIs_eq, Z.oIsnot_eq, Z.isNon_non, Z.isNon_bl, Z.isNon_int, Z.isNon_str, Z.isNon_tup, Z.isNon_lst, Z.isNon_ins, Z.eSl, Z.pNo, Z.pSome, Z.oSl, Z.sIns, K01.a_marks, K01.a_size, K01.a_cells, K01.i_NoneType_Sight, K01.i_NoneType_SizesDiffer, K01.i_NoneType_NoDeals, K01.i_NoneType_BadLength, K01.i_bool_Sight, K01.i_bool_SizesDiffer, K01.i_bool_NoDeals, K01.i_bool_BadLength, K01.i_int_Sight, K01.i_int_SizesDiffer, K01.i_int_NoDeals, K01.i_int_BadLength, K01.i_str_Sight, K01.i_str_SizesDiffer, K01.i_str_NoDeals, K01.i_str_BadLength, K01.i_list_Sight, K01.i_list_SizesDiffer, K01.i_list_NoDeals, K01.i_list_BadLength, K01.i_tuple_Sight, K01.i_tuple_SizesDiffer, K01.i_tuple_NoDeals, K01.i_tuple_BadLength, K01.i_Sight_Sight, K01.i_Sight_SizesDiffer, K01.i_Sight_NoDeals, K01.i_Sight_BadLength, K01.i_Sight_list, K01.i_Sight_tuple, K01.i_Sight_int, K01.i_Sight_bool, K01.i_Sight_ValueError, K01.i_NoDeals_SizesDiffer, K01.i_NoDeals_NoDeals, K01.i_NoDeals_BadLength, K01.i_NoDeals_Sight, K01.i_NoDeals_list, K01.i_NoDeals_tuple, K01.i_NoDeals_int, K01.i_NoDeals_bool, K01.i_NoDeals_ValueError, K01.i_SizesDiffer_SizesDiffer, K01.i_SizesDiffer_NoDeals, K01.i_SizesDiffer_BadLength, K01.i_SizesDiffer_Sight, K01.i_SizesDiffer_list, K01.i_SizesDiffer_tuple, K01.i_SizesDiffer_int, K01.i_SizesDiffer_bool, K01.i_SizesDiffer_ValueError, K01.i_NoneType_bool, K01.i_NoneType_int, K01.i_NoneType_list, K01.i_NoneType_tuple, K01.i_NoneType_str, K01.i_bool_bool, K01.i_bool_int, K01.i_bool_list, K01.i_bool_tuple, K01.i_bool_str, K01.i_int_bool, K01.i_int_int, K01.i_int_list, K01.i_int_tuple, K01.i_int_str, K01.i_str_bool, K01.i_str_int, K01.i_str_list, K01.i_str_tuple, K01.i_str_str, K01.i_list_bool, K01.i_list_int, K01.i_list_list, K01.i_list_tuple, K01.i_list_str, K01.i_tuple_bool, K01.i_tuple_int, K01.i_tuple_list, K01.i_tuple_tuple, K01.i_tuple_str, K01.i_NoneType_list_tuple, K01.i_bool_list_tuple, K01.i_int_list_tuple, K01.i_str_list_tuple, K01.i_list_list_tuple, K01.i_tuple_list_tuple, K01.i_Sight_list_tuple, K01.i_NoDeals_list_tuple, K01.i_SizesDiffer_list_tuple, K01.i_NoneType_NoDeals_BadLength, K01.i_bool_NoDeals_BadLength, K01.i_int_NoDeals_BadLength, K01.i_str_NoDeals_BadLength, K01.i_list_NoDeals_BadLength, K01.i_tuple_NoDeals_BadLength, K01.i_Sight_NoDeals_BadLength, K01.i_NoDeals_NoDeals_BadLength, K01.i_SizesDiffer_NoDeals_BadLength])
/-- two rows of their own lengths -/
def Rows2 (a b : List Int) : Prop := 0 < a.length ∧ 0 < b.length ∧ a.length ≤ 2000 ∧ b.length ≤ 2000 ∧ a.length * b.length ≤ 2000 ∧ (∀ x ∈ a, 0 ≤ x ∧ x < 2 ^ 40) ∧ ∀ x ∈ b, 0 ≤ x ∧ x < 2 ^ 40
section
variable {P : D → Prop} {Xp : Xd} {PL : List D → Prop} {r s : List Nat}
theorem at_litD (l : List D) (p : D → Prop) (hp : ∀ x ∈ l, p x) {i : Int} (h0 : 0 ≤ i) (h1 : i < l.length) {Q : D → Prop} (h : ∀ x, p x → Q x) : ∃ d, atI l i = some d ∧ Q d := by
  obtain ⟨n, rfl⟩ := Int.eq_ofNat_of_zero_le h0
  have hn : n < l.length := by omega
  exact ⟨_, by rw [atN]; exact getAt hn, h _ (hp _ (List.getElem_mem hn))⟩
theorem draw_x_ok (ns : List Int) (h : ∀ a b : List Int, Rows2 a b → PL [.lst (a.map D.int), .lst (b.map D.int)]) : w__law_draw_x [.scr (ns.map D.int)] PL Xp := by
  have hsz : sizeLine = 2 ^ 24 := rfl
  unfold w__law_draw_x t__law_draw_x
  refine seq_of (fun ρ' => ∃ s0 s1 s2 s3 s4 s5 s6 s7 : Int, (0 ≤ s2 ∧ s2 < 12) ∧ (0 ≤ s3 ∧ s3 < 28) ∧ (0 ≤ s4 ∧ s4 < 12) ∧ (0 ≤ s5 ∧ s5 < 28) ∧ (0 ≤ s6 ∧ s6 < 6) ∧ (0 ≤ s7 ∧ s7 < 6) ∧
    ρ' = [.val (.scr (ns.map D.int)), .val (.lst [.int s0, .int s1, .int s2, .int s3, .int s4, .int s5, .int s6, .int s7]), .em, .em, .em, .em]) ?_ (fun N hN => ?_)
  · rintro ρ' ⟨s0, s1, s2, s3, s4, s5, s6, s7, h2, h3, h4, h5, h6, h7, rfl⟩
    refine seq_of (fun ρ' => ∃ x y : Int, (1 ≤ x ∧ x ≤ 12) ∧ (1 ≤ y ∧ y ≤ 12) ∧
      ρ' = [.val (.scr (ns.map D.int)), .val (.lst [.int s0, .int s1, .int s2, .int s3, .int s4, .int s5, .int s6, .int s7]), .own (.lst [.int x, .int y]), .em, .em, .em]) ?_ (fun N hN => ?_)
    · rintro ρ' ⟨x, y, hx, hy, rfl⟩
      refine seq_of (fun ρ' => ∃ x : Int, (1 ≤ x ∧ x ≤ 40) ∧
        ρ' = [.val (.scr (ns.map D.int)), .val (.lst [.int s0, .int s1, .int s2, .int s3, .int s4, .int s5, .int s6, .int s7]), .own (.lst [.int x, .int y]), .em, .em, .em]) ?_ (fun N hN => ?_)
      · rintro ρ' ⟨x, hx, rfl⟩
        refine seq_of (fun ρ' => ∃ y : Int, (1 ≤ y ∧ y ≤ 40) ∧
          ρ' = [.val (.scr (ns.map D.int)), .val (.lst [.int s0, .int s1, .int s2, .int s3, .int s4, .int s5, .int s6, .int s7]), .own (.lst [.int x, .int y]), .em, .em, .em]) ?_ (fun N hN => ?_)
        · rintro ρ' ⟨y, hy, rfl⟩
          refine seq_of (fun ρ' => ∃ (x y : Int) (sl : Sl), (1 ≤ x ∧ x ≤ 2000) ∧ (1 ≤ y ∧ y ≤ 2000) ∧ x * y ≤ 2000 ∧ (sl = .own (.lst [.int x, .int y]) ∨ sl = .val (.lst [.int x, .int y])) ∧
            ρ' = [.val (.scr (ns.map D.int)), .val (.lst [.int s0, .int s1, .int s2, .int s3, .int s4, .int s5, .int s6, .int s7]), sl, .em, .em, .em]) ?_ (fun N hN => ?_)
          · rintro ρ' ⟨x, y, sl, hx, hy, hxy, hsl, rfl⟩
            walk_at "zz"
            refine ⟨by decide, ?_⟩
            refine for_rng 2 (fun i ρ' => ∃ (sl y4 y5 : Sl) (R : List (List Int)), (sl = .own (.lst [.int x, .int y]) ∨ sl = .val (.lst [.int x, .int y])) ∧ R.length = i ∧
              (∀ l, R[0]? = some l → (l.length : Int) = x ∧ ∀ z ∈ l, 0 ≤ z ∧ z < 2 ^ 40) ∧ (∀ l, R[1]? = some l → (l.length : Int) = y ∧ ∀ z ∈ l, 0 ≤ z ∧ z < 2 ^ 40) ∧
              ρ' = [.val (.scr (ns.map D.int)), .val (.lst [.int s0, .int s1, .int s2, .int s3, .int s4, .int s5, .int s6, .int s7]), sl, .own (.lst (R.map rowD)), y4, y5]) (fun P Xp q => by
                walk_at "zz"
                exact ⟨by decide, by decide, q⟩) ⟨_, _, _, [], hsl, rfl, fun l z => by simp at z, fun l z => by simp at z, rfl⟩ ?_ ?_
            · rintro i ρ' hi ⟨sl, y4, y5, R, hsl, hR, r0, r1, rfl⟩
              match i, hi with
              | 0, _ =>
                have f2 := fd (a := x) (b := 2) (by decide) (by omega)
                rw [show ((0 : Nat) : Int) = 0 from rfl]
                rcases hsl with rfl | rfl <;>
                · walk_at "zz"
                  refine ⟨cdiv (by decide) (by decide), by decide, ?_⟩
                  simp only [show (6 : Int) + 0 = 6 from rfl, show (1 : Int) + 0 = 1 from rfl]
                  walk_at "zz"
                  refine at_lit [3, 2, x, x.fdiv 2 + 1, 4, x] (fun z => 1 ≤ z ∧ z ≤ 2001) (fun z hz => by
                    simp only [List.mem_cons, List.not_mem_nil, or_false] at hz
                    omega) h6.1 (by simpa using h6.2) fun w hw => ?_
                  refine cell_ok ns 1 (by decide) (by decide) fun c => ⟨by decide, digits_rep (by omega) (by omega) (by omega) (by omega) fun a ha1 ha2 => ?_⟩
                  have hR0 : R = [] := List.length_eq_zero_iff.mp hR
                  subst hR0
                  exact ⟨by decide, .val (.lst [.int x, .int y]), _, _, [a], .inr rfl, rfl, fun l hl => by
                    cases hl; exact ⟨by omega, fun z hz => ⟨(ha2 z hz).1, by have := (ha2 z hz).2; omega⟩⟩, fun l z => by simp at z, rfl⟩
              | 1, _ =>
                have f2 := fd (a := y) (b := 2) (by decide) (by omega)
                rw [show ((1 : Nat) : Int) = 1 from rfl]
                rcases hsl with rfl | rfl <;>
                · walk_at "zz"
                  refine ⟨cdiv (by decide) (by decide), by decide, ?_⟩
                  simp only [show (6 : Int) + 1 = 7 from rfl, show (1 : Int) + 1 = 2 from rfl]
                  walk_at "zz"
                  refine at_lit [3, 2, y, y.fdiv 2 + 1, 4, y] (fun z => 1 ≤ z ∧ z ≤ 2001) (fun z hz => by
                    simp only [List.mem_cons, List.not_mem_nil, or_false] at hz
                    omega) h7.1 (by simpa using h7.2) fun w hw => ?_
                  refine cell_ok ns 2 (by decide) (by decide) fun c => ⟨by decide, digits_rep (by omega) (by omega) (by omega) (by omega) fun b hb1 hb2 => ?_⟩
                  obtain ⟨a, rfl⟩ : ∃ a, R = [a] := by
                    match R, hR with
                    | [a], _ => exact ⟨a, rfl⟩
                  exact ⟨by rw [hsz, List.length_map, List.length_singleton]; decide, .val (.lst [.int x, .int y]), _, _, [a, b], .inr rfl, rfl, r0, fun l hl => by
                    cases hl; exact ⟨by omega, fun z hz => ⟨(hb2 z hz).1, by have := (hb2 z hz).2; omega⟩⟩, rfl⟩
            · rintro ρ' ⟨sl, y4, y5, R, hsl, hR, r0, r1, rfl⟩
              obtain ⟨a, b, rfl⟩ : ∃ a b, R = [a, b] := by
                match R, hR with
                | [a, b], _ => exact ⟨a, b, rfl⟩
              obtain ⟨a1, a2⟩ := r0 a rfl
              obtain ⟨b1, b2⟩ := r1 b rfl
              refine ⟨_, rfl, h a b ⟨by omega, by omega, by omega, by omega, ?_, a2, b2⟩⟩
              have : ((a.length * b.length : Nat) : Int) = x * y := by rw [Int.natCast_mul, a1, b1]
              omega
          · have hxy : x * y ≤ 40 * 40 := Int.mul_le_mul (by omega) (by omega) (by omega) (by decide)
            have here : N [.val (.scr (ns.map D.int)), .val (.lst [.int s0, .int s1, .int s2, .int s3, .int s4, .int s5, .int s6, .int s7]), .own (.lst [.int x, .int y]), .em, .em, .em] := hN _ ⟨x, y, _, by omega, by omega, by omega, .inl rfl, rfl⟩
            walk_at "zz"
            split
            · split
              · have m6 := modpos (a := s6) (b := 4) (by decide)
                refine ⟨by decide, by decide, by decide, by decide, by decide, by decide, ?_⟩
                refine at_litD [.lst [.int 40, .int 50], .lst [.int 50, .int 40], .lst [.int 2000, .int 1], .lst [.int 1, .int 2000]] (fun d => ∃ x y : Int, d = .lst [.int x, .int y] ∧ (1 ≤ x ∧ x ≤ 2000) ∧ (1 ≤ y ∧ y ≤ 2000) ∧ x * y ≤ 2000) (fun d hd => by
                  simp only [List.mem_cons, List.not_mem_nil, or_false] at hd
                  rcases hd with rfl | rfl | rfl | rfl <;> exact ⟨_, _, rfl, by decide, by decide, by decide⟩) m6.1 (by simpa using m6.2) fun d hd => ?_
                obtain ⟨x, y, rfl, hx, hy, hxy⟩ := hd
                exact hN _ ⟨x, y, _, hx, hy, hxy, .inr rfl, rfl⟩
              · exact here
            · exact here
        · walk_at "zz"
          split
          · refine ⟨_, _, rfl, rfl, ?_⟩
            exact hN _ ⟨_, by omega, rfl⟩
          · exact hN _ ⟨_, by omega, rfl⟩
      · walk_at "zz"
        split
        · refine ⟨_, _, rfl, rfl, ?_⟩
          exact hN _ ⟨_, by omega, rfl⟩
        · exact hN _ ⟨_, by omega, rfl⟩
    · walk_at "zz"
      refine ⟨by decide, ?_⟩
      refine at_lit [5, 4, 6, 3, 7, 9, 2, 8, 12, 11, 10, 1] (fun x => 1 ≤ x ∧ x ≤ 12) (by decide) h2.1 (by simpa using h2.2) fun x hx => ?_
      refine ⟨by decide, ?_⟩
      refine at_lit [4, 3, 5, 6, 2, 7, 8, 10, 9, 1, 12, 11] (fun x => 1 ≤ x ∧ x ≤ 12) (by decide) h4.1 (by simpa using h4.2) fun y hy => ?_
      exact ⟨by decide, hN _ ⟨x, y, hx, hy, rfl⟩⟩
  · walk_at "zz"
    refine cell_ok ns 0 (by decide) (by decide) fun z => ?_
    walk_at "zz"
    refine ⟨by decide, digits_ok z [8, 8, 12, 28, 12, 28, 6, 6] (by decide) (by decide) fun l hl => ?_⟩
    obtain ⟨s0, r, rfl, a0, b0, hl⟩ := dig_cons hl
    obtain ⟨s1, r, rfl, a1, b1, hl⟩ := dig_cons hl
    obtain ⟨s2, r, rfl, a2, b2, hl⟩ := dig_cons hl
    obtain ⟨s3, r, rfl, a3, b3, hl⟩ := dig_cons hl
    obtain ⟨s4, r, rfl, a4, b4, hl⟩ := dig_cons hl
    obtain ⟨s5, r, rfl, a5, b5, hl⟩ := dig_cons hl
    obtain ⟨s6, r, rfl, a6, b6, hl⟩ := dig_cons hl
    obtain ⟨s7, r, rfl, a7, b7, hl⟩ := dig_cons hl
    have e := dig_nil hl
    subst e
    exact hN _ ⟨s0, s1, s2, s3, s4, s5, s6, s7, ⟨a2, b2⟩, ⟨a3, b3⟩, ⟨a4, b4⟩, ⟨a5, b5⟩, ⟨a6, b6⟩, ⟨a7, b7⟩, rfl⟩
end
end K01

namespace K01
open PySem PySem.Spec PyProof.Rows L2 Z Sg
local macro_rules | `(tactic| walk_at "zz") => `(tactic| try simp only [Z.sNext, Z.sSeq, Z.sSet, Z.sSetF, Z.sAsg, Z.sIf, Z.sRet, Z.sRetF, Z.sRetO, Z.sRetN, Z.sDrop, Z.sBrk, Z.sCont, Z.sFrz, Z.sApp, Z.sSetIx, Z.eVar, Z.eC, Z.eOp, Z.eUn, Z.eCh, Z.tBl, Z.tTr, Z.tAnd, Z.tOr, Z.tNot, Z.eAnd, Z.eOr, Z.eNot, Z.eIf, Z.aNil, Z.aCons, Z.eTup, Z.fLst, Z.eF, Z.eCB, Z.fCB, Z.eCall, Z.fCall, Z.gN, Z.gTup, Z.gsCons, Z.gsNil, Z.iSeq, Z.iRng1, Z.iRng2, Z.eIxO, Z.eLenO, Z.startD, Z.wipeD, Z.d_lst, Z.d_ins, Z.d_dk, Z.d_dt, Z.tYes, Z.isBl_bl, Z.caseB_t, Z.caseB_f, Z.truP_bl, Z.truP_int, Z.truP_non, Z.truP_lst, Z.truP_tup, Z.oI_int, Z.oC_int, Z.oNeg_int, Z.oAdd_int, Z.oAdd_str, Z.oAdd_lst, Z.oAdd_tup, Z.oEq_int, Z.oNe_int, Z.oEq_str, Z.oNe_str, Z.oEq_lst, Z.oNe_lst, Z.oEq_tup, Z.oNe_tup, Z.oIn_tup, Z.oIn_lst, Z.oIx_lst, Z.oIx_tup, Z.oIx_scr, Z.oIx_str, Z.cLen_lst, Z.cLen_tup, Z.cLen_scr, Z.cLen_str, Z.cAbs_int, Z.cInt_int, Z.cInt_bl, Z.cMax_2, Z.cMin_2, Z.cMax_l, Z.cMin_l, Z.cTup_lst, Z.cTup_tup, Z.cLst_lst, Z.cLst_tup, Z.cLst_scr, Z.cGcd_int, Z.itemsD_lst, Z.itemsD_tup, Z.itemsD_scr, Z.rng1_int, Z.rng2_int, Z.asTup_tup, Z.oEq_bl, Z.oNe_bl, Z.ixD_int, List.map_cons, List.map_nil, List.length_cons, List.length_nil, List.replicate, List.cons_append, List.nil_append, List.set_cons_zero, List.set_cons_succ, List.getElem?_cons_zero, List.getElem?_cons_succ, Option.some.injEq, Z.Sl.val.injEq, Z.Sl.own.injEq, Z.Ow.lst.injEq, Z.D.int.injEq, exists_eq_left', exists_eq_left, true_and, and_true, if_true, if_false, Bool.false_eq_true, decide_eq_true_eq, Bool.not_true, Bool.not_false, Bool.not_eq_true', decide_eq_false_iff_not, Z.eInO, Z.sPutO, Z.eGetO, Z.eLenD, Z.sFldS, Z.eFldO, Z.eAttr, Z.eMake, Z.eMakeL, Z.eCm, Z.sRaise0, Z.sRaiseI, Z.aStar, Z.fZip, Z.fRep, Z.eRoot, Z.eIxP, Z.eLenP, Z.sAppP, Z.sSetIxP, Z.eMethG, Z.eBinG, Z.eEqG, Z.eBor, Z.tBor, Z.fBor, Z.zipD_tup, Z.cMaxG_2, Z.startI, Z.sTryAs, reduceIte, reduceCtorEq, decide_true, decide_false, not_true_eq_false, not_false_eq_true, Bool.or_true, Bool.true_or, Bool.or_false, Bool.false_or, Bool.and_true, Bool.true_and, Bool.and_false, Bool.false_and, Z.lk0, Z.ex_some, Z.at0, Z.at1, Z.at2, Z.at3, Z.at4, Z.at5, Z.at6, Z.at7, Z.at8, Z.at9, Z.at10, Z.at11, Z.lenO_lst, Z.oIs_eq, Z.oIsnot_eq, Z.isNon_non, Z.isNon_bl, Z.isNon_int, Z.isNon_str, Z.isNon_tup, Z.isNon_lst, Z.isNon_ins, Z.eSl, Z.pNo, Z.pSome, Z.oSl, Z.sIns, K01.a_marks, K01.a_size, K01.a_cells, K01.i_NoneType_Sight, K01.i_NoneType_SizesDiffer, K01.i_NoneType_NoDeals, K01.i_NoneType_BadLength, K01.i_bool_Sight, K01.i_bool_SizesDiffer, K01.i_bool_NoDeals, K01.i_bool_BadLength, K01.i_int_Sight, K01.i_int_SizesDiffer, K01.i_int_NoDeals, K01.i_int_BadLength, K01.i_str_Sight, K01.i_str_SizesDiffer, K01.i_str_NoDeals, K01.i_str_BadLength, K01.i_list_Sight, K01.i_list_SizesDiffer, K01.i_list_NoDeals, K01.i_list_BadLength, K01.i_tuple_Sight, K01.i_tuple_SizesDiffer, K01.i_tuple_NoDeals, K01.i_tuple_BadLength, K01.i_Sight_Sight, K01.i_Sight_SizesDiffer, K01.i_Sight_NoDeals, K01.i_Sight_BadLength, K01.i_Sight_list, K01.i_Sight_tuple, K01.i_Sight_int, K01.i_Sight_bool, K01.i_Sight_ValueError, K01.i_NoDeals_SizesDiffer, K01.i_NoDeals_NoDeals, K01.i_NoDeals_BadLength, K01.i_NoDeals_Sight, K01.i_NoDeals_list, K01.i_NoDeals_tuple, K01.i_NoDeals_int, K01.i_NoDeals_bool, K01.i_NoDeals_ValueError, K01.i_SizesDiffer_SizesDiffer, K01.i_SizesDiffer_NoDeals, K01.i_SizesDiffer_BadLength, K01.i_SizesDiffer_Sight, K01.i_SizesDiffer_list, K01.i_SizesDiffer_tuple, K01.i_SizesDiffer_int, K01.i_SizesDiffer_bool, K01.i_SizesDiffer_ValueError, K01.i_NoneType_bool, K01.i_NoneType_int, K01.i_NoneType_list, K01.i_NoneType_tuple, K01.i_NoneType_str, K01.i_bool_bool, K01.i_bool_int, K01.i_bool_list, K01.i_bool_tuple, K01.i_bool_str, K01.i_int_bool, K01.i_int_int, K01.i_int_list, K01.i_int_tuple, K01.i_int_str, K01.i_str_bool, K01.i_str_int, K01.i_str_list, K01.i_str_tuple, K01.i_str_str, K01.i_list_bool, K01.i_list_int, K01.i_list_list, K01.i_list_tuple, K01.i_list_str, K01.i_tuple_bool, K01.i_tuple_int, K01.i_tuple_list, K01.i_tuple_tuple, K01.i_tuple_str, K01.i_NoneType_list_tuple, K01.i_bool_list_tuple, K01.i_int_list_tuple, K01.i_str_list_tuple, K01.i_list_list_tuple, K01.i_tuple_list_tuple, K01.i_Sight_list_tuple, K01.i_NoDeals_list_tuple, K01.i_SizesDiffer_list_tuple, K01.i_NoneType_NoDeals_BadLength, K01.i_bool_NoDeals_BadLength, K01.i_int_NoDeals_BadLength, K01.i_str_NoDeals_BadLength, K01.i_list_NoDeals_BadLength, K01.i_tuple_NoDeals_BadLength, K01.i_Sight_NoDeals_BadLength, K01.i_NoDeals_NoDeals_BadLength, K01.i_SizesDiffer_NoDeals_BadLength])
section
variable {P : D → Prop} {Xp : Xd} {PL : List D → Prop} {r s : List Nat}
theorem deals_ok (ns : List Int) (n : Nat) (h0 : 0 < n) (hz : n ≤ 9000) (h : ∀ l : List Nat, 0 < l.length → l.length ≤ n → (∀ i ∈ l, i < n) → P (.lst (nL l))) : w__law_deals [.scr (ns.map D.int), nI n] P Xp := by
  have hsz : sizeLine = 2 ^ 24 := rfl
  unfold w__law_deals t__law_deals
  walk_at "zz"
  refine cell_ok ns 3 (by decide) (by decide) fun c => ⟨by decide, ?_⟩
  refine lc_rng n (fun k => .int ((k : Int) + 1)) (by omega) (fun P Xp q => ?_) (fun j hj A hA => ?_) ?_
  · walk_at "zz"
    exact ⟨by omega, by omega, q⟩
  · walk_at "zz"
    exact hA
  refine ⟨by simp; omega, ?_⟩
  have es : nI n :: (List.range n).map (fun k : Nat => D.int ((k : Int) + 1)) = ((n : Int) :: (List.range n).map fun k : Nat => (k : Int) + 1).map D.int := by rw [List.map_cons, List.map_map]; rfl
  walk_at "zz"
  rw [es]
  refine digits_ok c _ (fun z hz => ?_) (by simp; omega) fun t ht => ?_
  · rcases List.mem_cons.mp hz with rfl | hz
    · omega
    · obtain ⟨k, hk, rfl⟩ := List.mem_map.mp hz
      have := List.mem_range.mp hk
      omega
  have htl : t.length = n + 1 := by rw [ht.1]; simp
  have t0 := getAt (l := t) (i := 0) (by omega)
  have b0 := ht.2 0 _ _ t0 rfl
  refine ⟨by decide, ?_⟩
  refine for_rng n (fun i ρ' => ∃ (l : List Nat) (y : Sl), l.length = i ∧ (∀ x ∈ l, x < n) ∧ ρ' = [.val (.scr (ns.map D.int)), .val (nI n), .val (.lst (t.map D.int)), .own (.lst (nL l)), y]) (fun P Xp q => by
    walk_at "zz"
    exact ⟨by omega, by omega, q⟩) ⟨[], _, rfl, fun x hx => by simp at hx, rfl⟩ ?_ ?_
  · rintro i ρ' hi ⟨l, y, hl, hm, rfl⟩
    have e1 := getAt (l := t) (i := i + 1) (by omega)
    have b1 : 0 ≤ t[i + 1] ∧ t[i + 1] < (i : Int) + 1 := ht.2 (i + 1) _ _ e1 (by rw [List.getElem?_cons_succ, List.getElem?_map, List.getElem?_range hi]; rfl)
    walk_at "zz"
    refine ⟨_, atI_pos (j := i + 1) (by omega) (get_map e1), ?_⟩
    obtain ⟨k, hk⟩ : ∃ k : Nat, t[i + 1] = (k : Int) := ⟨_, (Int.toNat_of_nonneg b1.1).symm⟩
    rw [hk]
    walk_at "zz"
    refine ⟨by rw [List.length_map]; omega, by omega, by omega, l.take k ++ [i] ++ l.drop k, .val (nI i), ?_, ?_, ?_⟩
    · simp only [List.length_append, List.length_take, List.length_drop, List.length_cons, List.length_nil]; omega
    · intro x hx
      simp only [List.mem_append, List.mem_cons, List.not_mem_nil, or_false] at hx
      rcases hx with (hx | rfl) | hx
      · exact hm x (List.mem_of_mem_take hx)
      · exact hi
      · exact hm x (List.mem_of_mem_drop hx)
    · rw [Int.toNat_natCast]
      show _ = [_, _, _, Sl.own (Ow.lst ((l.take k ++ [i] ++ l.drop k).map nI)), _]
      rw [List.map_append, List.map_append, List.map_take, List.map_drop]
      rfl
  · rintro ρ' ⟨l, y, hl, hm, rfl⟩
    walk_at "zz"
    refine ⟨_, atI_pos (j := 0) rfl (get_map t0), ?_⟩
    obtain ⟨k, hk⟩ : ∃ k : Nat, t[0] = (k : Int) := ⟨_, (Int.toNat_of_nonneg b0.1).symm⟩
    rw [hk] at b0
    walk_at "zz"
    rw [hk]
    have ec : Z.cutD (nL l) none (some ((k : Int) + 1)) = nL (l.take (k + 1)) := by
      unfold Z.cutD
      rw [show ((k : Int) + 1) = ((k + 1 : Nat) : Int) by omega, HT.sIx_nat, HT.sIx_none, List.drop_zero, Nat.sub_zero, List.length_map, ← List.map_take]
      rw [show min (k + 1) l.length = k + 1 by omega]
    rw [ec]
    refine h _ (by rw [List.length_take]; omega) (by rw [List.length_take]; omega) fun x hx => hm x (List.mem_of_mem_take hx)
theorem restricted_ok {d : D} {lk : List Nat} (hd : d = .lst (nL lk) ∨ d = .tup (nL lk)) (h0 : 0 < lk.length) (hz : lk.length < sizeLine) (hl : ∀ i ∈ lk, i < r.length) (h : P (sgt (num (lk.map fun i => r.getD i 0)))) : w_restricted [sgt r, d] P Xp := by
  unfold w_restricted t_restricted
  have key : fLc (iSeq (eVar 1)) (gN 2) tYes (eOp oIx (eAttr at_marks "marks" (eVar 0)) (eVar 2)) [2] [.val (sgt r), .val d, .em] (fun l => w_Sight___init__ [.lst l] (fun fs => P (.ins "Sight" fs)) Xp) Xp := by
    refine lc_map lk nI (fun i => nI (r.getD i 0)) (by omega) (fun P Xp q => ?_) (fun j i hi A hA => ?_) ?_
    · rcases hd with rfl | rfl <;> exact ⟨_, rfl, q⟩
    · have e := getAt (l := r) (i := i) (hl i (List.mem_of_getElem? hi))
      rw [getD_of e] at hA
      walk_at "zz"
      exact ⟨_, by rw [atN]; exact get_map e, hA⟩
    · rw [show lk.map (fun i => nI (r.getD i 0)) = (iL (lk.map fun i => r.getD i 0)).map D.int by rw [← nL_ints]; show _ = List.map nI (List.map _ lk); rw [List.map_map]; rfl]
      refine init_ok (.l _) (by simpa using h0) (by simp; omega) ?_
      rw [num_iL]
      exact h
  walk_at "zz"
  exact key
end
end K01

namespace K01
open PySem PySem.Spec PyProof.Rows L2 Z Sg
local macro_rules | `(tactic| walk_at "zz") => `(tactic| try simp only [Z.sNext, Z.sSeq, Z.sSet, Z.sSetF, Z.sAsg, Z.sIf, Z.sRet, Z.sRetF, Z.sRetO, Z.sRetN, Z.sDrop, Z.sBrk, Z.sCont, Z.sFrz, Z.sApp, Z.sSetIx, Z.eVar, Z.eC, Z.eOp, Z.eUn, Z.eCh, Z.tBl, Z.tTr, Z.tAnd, Z.tOr, Z.tNot, Z.eAnd, Z.eOr, Z.eNot, Z.eIf, Z.aNil, Z.aCons, Z.eTup, Z.fLst, Z.eF, Z.eCB, Z.fCB, Z.eCall, Z.fCall, Z.gN, Z.gTup, Z.gsCons, Z.gsNil, Z.iSeq, Z.iRng1, Z.iRng2, Z.eIxO, Z.eLenO, Z.startD, Z.wipeD, Z.d_lst, Z.d_ins, Z.d_dk, Z.d_dt, Z.tYes, Z.isBl_bl, Z.caseB_t, Z.caseB_f, Z.truP_bl, Z.truP_int, Z.truP_non, Z.truP_lst, Z.truP_tup, Z.oI_int, Z.oC_int, Z.oNeg_int, Z.oAdd_int, Z.oAdd_str, Z.oAdd_lst, Z.oAdd_tup, Z.oEq_int, Z.oNe_int, Z.oEq_str, Z.oNe_str, Z.oEq_lst, Z.oNe_lst, Z.oEq_tup, Z.oNe_tup, Z.oIn_tup, Z.oIn_lst, Z.oIx_lst, Z.oIx_tup, Z.oIx_scr, Z.oIx_str, Z.cLen_lst, Z.cLen_tup, Z.cLen_scr, Z.cLen_str, Z.cAbs_int, Z.cInt_int, Z.cInt_bl, Z.cMax_2, Z.cMin_2, Z.cMax_l, Z.cMin_l, Z.cTup_lst, Z.cTup_tup, Z.cLst_lst, Z.cLst_tup, Z.cLst_scr, Z.cGcd_int, Z.itemsD_lst, Z.itemsD_tup, Z.itemsD_scr, Z.rng1_int, Z.rng2_int, Z.asTup_tup, Z.oEq_bl, Z.oNe_bl, Z.ixD_int, List.map_cons, List.map_nil, List.length_cons, List.length_nil, List.replicate, List.cons_append, List.nil_append, List.set_cons_zero, List.set_cons_succ, List.getElem?_cons_zero, List.getElem?_cons_succ, Option.some.injEq, Z.Sl.val.injEq, Z.Sl.own.injEq, Z.Ow.lst.injEq, Z.D.int.injEq, exists_eq_left', exists_eq_left, true_and, and_true, if_true, if_false, Bool.false_eq_true, decide_eq_true_eq, Bool.not_true, Bool.not_false, Bool.not_eq_true', decide_eq_false_iff_not, Z.eInO, Z.sPutO, Z.eGetO, Z.eLenD, Z.sFldS, Z.eFldO, Z.eAttr, Z.eMake, Z.eMakeL, Z.eCm, Z.sRaise0, Z.sRaiseI, Z.aStar, Z.fZip, Z.fRep, Z.eRoot, Z.eIxP, Z.eLenP, Z.sAppP, Z.sSetIxP, Z.eMethG, Z.eBinG, Z.eEqG, Z.eBor, Z.tBor, Z.fBor, Z.zipD_tup, Z.cMaxG_2, Z.startI, Z.sTryAs, reduceIte, reduceCtorEq, decide_true, decide_false, not_true_eq_false, not_false_eq_true, Bool.or_true, Bool.true_or, Bool.or_false, Bool.false_or, Bool.and_true, Bool.true_and, Bool.and_false, Bool.false_and, Z.lk0, Z.ex_some, Z.at0, Z.at1, Z.at2, Z.at3, Z.at4, Z.at5, Z.at6, Z.at7, Z.at8, Z.at9, Z.at10, Z.at11, Z.lenO_lst, Z.oIs_eq, Z.oIsnot_eq, Z.isNon_non, Z.isNon_bl, Z.isNon_int, Z.isNon_str, Z.isNon_tup, Z.isNon_lst, Z.isNon_ins, Z.eSl, Z.pNo, Z.pSome, Z.oSl, Z.sIns, K01.a_marks, K01.a_size, K01.a_cells, K01.i_NoneType_Sight, K01.i_NoneType_SizesDiffer, K01.i_NoneType_NoDeals, K01.i_NoneType_BadLength, K01.i_bool_Sight, K01.i_bool_SizesDiffer, K01.i_bool_NoDeals, K01.i_bool_BadLength, K01.i_int_Sight, K01.i_int_SizesDiffer, K01.i_int_NoDeals, K01.i_int_BadLength, K01.i_str_Sight, K01.i_str_SizesDiffer, K01.i_str_NoDeals, K01.i_str_BadLength, K01.i_list_Sight, K01.i_list_SizesDiffer, K01.i_list_NoDeals, K01.i_list_BadLength, K01.i_tuple_Sight, K01.i_tuple_SizesDiffer, K01.i_tuple_NoDeals, K01.i_tuple_BadLength, K01.i_Sight_Sight, K01.i_Sight_SizesDiffer, K01.i_Sight_NoDeals, K01.i_Sight_BadLength, K01.i_Sight_list, K01.i_Sight_tuple, K01.i_Sight_int, K01.i_Sight_bool, K01.i_Sight_ValueError, K01.i_NoDeals_SizesDiffer, K01.i_NoDeals_NoDeals, K01.i_NoDeals_BadLength, K01.i_NoDeals_Sight, K01.i_NoDeals_list, K01.i_NoDeals_tuple, K01.i_NoDeals_int, K01.i_NoDeals_bool, K01.i_NoDeals_ValueError, K01.i_SizesDiffer_SizesDiffer, K01.i_SizesDiffer_NoDeals, K01.i_SizesDiffer_BadLength, K01.i_SizesDiffer_Sight, K01.i_SizesDiffer_list, K01.i_SizesDiffer_tuple, K01.i_SizesDiffer_int, K01.i_SizesDiffer_bool, K01.i_SizesDiffer_ValueError, K01.i_NoneType_bool, K01.i_NoneType_int, K01.i_NoneType_list, K01.i_NoneType_tuple, K01.i_NoneType_str, K01.i_bool_bool, K01.i_bool_int, K01.i_bool_list, K01.i_bool_tuple, K01.i_bool_str, K01.i_int_bool, K01.i_int_int, K01.i_int_list, K01.i_int_tuple, K01.i_int_str, K01.i_str_bool, K01.i_str_int, K01.i_str_list, K01.i_str_tuple, K01.i_str_str, K01.i_list_bool, K01.i_list_int, K01.i_list_list, K01.i_list_tuple, K01.i_list_str, K01.i_tuple_bool, K01.i_tuple_int, K01.i_tuple_list, K01.i_tuple_tuple, K01.i_tuple_str, K01.i_NoneType_list_tuple, K01.i_bool_list_tuple, K01.i_int_list_tuple, K01.i_str_list_tuple, K01.i_list_list_tuple, K01.i_tuple_list_tuple, K01.i_Sight_list_tuple, K01.i_NoDeals_list_tuple, K01.i_SizesDiffer_list_tuple, K01.i_NoneType_NoDeals_BadLength, K01.i_bool_NoDeals_BadLength, K01.i_int_NoDeals_BadLength, K01.i_str_NoDeals_BadLength, K01.i_list_NoDeals_BadLength, K01.i_tuple_NoDeals_BadLength, K01.i_Sight_NoDeals_BadLength, K01.i_NoDeals_NoDeals_BadLength, K01.i_SizesDiffer_NoDeals_BadLength])
section
variable {P : D → Prop} {Xp : Xd} {PL : List D → Prop} {r s : List Nat}
theorem crossed_ok (hr : SOk r) (hs : SOk s) (hn : ∀ x ∈ s, x < s.length) (hz : r.length * s.length < sizeLine) (h : P (sgt (num (prs r s)))) : w_crossed [sgt r, sgt s] P Xp := by
  have hsz : sizeLine = 2 ^ 24 := rfl
  unfold w_crossed t_crossed
  walk_at "zz"
  refine lc2_of r nI s nI (fun a b => nI (a * s.length + b)) (fun a => [.val (sgt r), .val (sgt s), .val (nI a), .em]) (by omega) (fun P Xp q => by walk_at "zz"; exact q) (fun i a ha A hA => hA) (fun i a ha P q => by walk_at "zz"; exact q) (fun i j a b ha hb A hA => ?_) ?_
  · have := hr.lt a (List.mem_of_getElem? ha)
    have := hs.len
    walk_at "zz"
    refine ⟨small_mul (b64 (by omega)) (b64 (by omega)), ?_⟩
    have e : ((a * s.length + b : Nat) : Int) = (a : Int) * (s.length : Nat) + (b : Nat) := by rw [Int.natCast_add, Int.natCast_mul]
    have hA' : A (.int ((a * s.length + b : Nat) : Int)) := hA
    rw [e] at hA'
    exact hA'
  · have e : (r.flatMap fun a => s.map fun b => nI (a * s.length + b)) = (iL (enc r s)).map D.int := by
      rw [← nL_ints]
      show _ = List.map nI (List.map _ (List.flatMap _ r))
      rw [List.map_flatMap, List.map_flatMap]
      congr 1
      funext a
      rw [List.map_map, List.map_map]
      rfl
    rw [e]
    have el : (enc r s).length = r.length * s.length := by unfold enc; rw [List.length_map, prs_length]
    refine init_ok (.l _) (by rw [List.length_map, el]; exact Nat.mul_pos hr.pos hs.pos) (by rw [List.length_map, el]; omega) ?_
    rw [num_iL, enc_num hn]
    exact h
theorem b_eq {b : Bool} (hr : r.length < sizeLine) (h : P (.bl (decide (r = s)))) : eqGD tab tb___eq__ oEq (sgt r) (sgt s) P Xp :=
  ⟨w_Sight___eq__, .c "Sight", true, by unfold tb___eq__; rw [if_pos rfl], rfl, by decide +kernel, .inl rfl, eq_sgt hr h⟩
theorem num_lt_len {κ : Type} [DecidableEq κ] (l : List κ) : ∀ x ∈ num l, x < (num l).length := fun x hx => by
  have := num_lt hx
  have := fst_length_le l
  rw [num_length]; omega
theorem isNon_decide {x : Option (Nat × Nat)} {q : Prop} [Decidable q] (h : x = none ↔ q) : isNon (optD x) = decide q := by
  rw [isNon_opt]
  by_cases c : q
  · rw [decide_eq_true c, decide_eq_true (h.mpr c)]
  · rw [decide_eq_false c, decide_eq_false fun z => c (h.mp z)]
theorem parta_ok (ns : List Int) (h : P (.bl true)) : w__law_parta [.scr (ns.map D.int)] P Xp := by
  have hsz : sizeLine = 2 ^ 24 := rfl
  unfold w__law_parta t__law_parta
  walk_at "zz"
  refine draw_ok ns fun a b ⟨hl, h0, hz, ha, hb⟩ => ?_
  have hr := ok_num h0 (by omega : a.length < sizeLine)
  have hs := ok_num (l := b) (by omega) (by omega)
  have nr : num (num a) = num a := num_num a
  have nss : num (num b) = num b := num_num b
  have hlr : (num a).length = a.length := num_length a
  have hls : (num b).length = b.length := num_length b
  have sa : SameK a (num a) := num_same a
  have sb : SameK b (num b) := num_same b
  walk_at "zz"
  refine cell_ok ns 5 (by decide) (by decide) fun low => ?_
  refine lc_map a D.int (fun x => .int (low - x)) (by omega) (fun P Xp q => by walk_at "zz"; exact q) (fun j x hx A hA => by walk_at "zz"; exact hA) ?_
  rw [show a.map (fun x => D.int (low - x)) = (a.map fun x => low - x).map D.int by rw [List.map_map]; rfl]
  refine init_ok (.l _) (by simpa using h0) (by simp; omega) ?_
  rw [num_map (fun x y e => by omega)]
  simp only [fold_sgt]
  refine lc_map b D.int (fun x => .int (low + 2 * x)) (by omega) (fun P Xp q => by walk_at "zz"; exact q) (fun j x hx A hA => by
    have := hb x (List.mem_of_getElem? hx)
    walk_at "zz"; exact ⟨small_mul (b64 (by omega)) (b64 (by omega)), hA⟩) ?_
  rw [show b.map (fun x => D.int (low + 2 * x)) = (b.map fun x => low + 2 * x).map D.int by rw [List.map_map]; rfl]
  walk_at "zz"
  refine init_ok (.t _) (by simp; omega) (by simp; omega) ?_
  rw [num_map (fun x y e => by omega)]
  simp only [fold_sgt]
  refine pair_ok hl (by omega) fun x hx => ?_
  refine pair_ok hl.symm (by omega) fun y hy => ?_
  have fx := hx.same hl sa sb
  have fy := hy.same hl.symm sb sa
  have hlrs : (num a).length = (num b).length := by omega
  generalize hra : num a = r at *
  generalize hsb : num b = s at *
  have tx := tells_iff fx
  have ty := tells_iff fy
  have e1 : num (r.zip s) = r ↔ x = none := (and_tells hlrs nr).trans tx.symm
  have e2 : num (comL r s) = s ↔ x = none := (or_tells hlrs nss).trans tx.symm
  have e3 : num (r.zip s) = s ↔ y = none := by
    rw [← swap_and]; exact (and_tells hlrs.symm nss).trans ty.symm
  have e4 : num (comL r s) = r ↔ y = none := by
    rw [com_comm hlrs]; exact (or_tells hlrs.symm nr).trans ty.symm
  have p9 : SOk (num (r.zip s)) := ok_num (by simp; omega) (by simp; omega)
  have c9 : SOk (num (comL r s)) := ok_num (by rw [comL_length]; omega) (by rw [comL_length]; omega)
  have nd : ∀ {q : Prop} [Decidable q] {z : Option (Nat × Nat)}, (q ↔ z = none) → ¬ ¬ decide q = isNon (optD z) := fun {q} _ {z} e h => h (isNon_decide e.symm).symm
  refine asks_ok hr nr hlrs fx ?_
  walk_at "zz"
  refine asks_ok hs nss hlrs.symm fy ?_
  walk_at "zz"
  refine b_and (and_ok hr hlrs (b_eq (b := true) p9.len ?_))
  walk_at "zz"
  rw [if_neg (nd e1)]
  refine b_or (or_ok hr hlrs (b_eq (b := true) c9.len ?_))
  walk_at "zz"
  rw [if_neg (nd e2)]
  refine b_and (and_ok hr hlrs (b_eq (b := true) p9.len ?_))
  walk_at "zz"
  rw [if_neg (nd e3)]
  refine b_or (or_ok hr hlrs (b_eq (b := true) c9.len ?_))
  walk_at "zz"
  rw [if_neg (nd e4)]
  have hla : (a.map D.int).length = r.length := by rw [List.length_map, hlr]
  rw [hla]
  have hrp := hr.pos
  have hrl := hr.len
  have z9 : SOk (List.replicate r.length 0) := ⟨by simpa using hrp, by simpa using hrl, fun x hx => by rw [(List.mem_replicate.mp hx).2]; omega⟩
  have g9 : SOk (List.range r.length) := ⟨by simpa using hrp, by simpa using hrl, fun x hx => by have := List.mem_range.mp hx; omega⟩
  refine for_of ([r, num (comL r s), num (comL r s), List.replicate r.length 0].map sgt) (fun i ρ' => ∃ z, ρ' = [Sl.val (D.scr (List.map D.int ns)), Sl.val (D.lst [D.lst (List.map D.int a), D.lst (List.map D.int b)]),
      Sl.val (D.int r.length), Sl.val (D.int low), Sl.val (sgt r), Sl.val (sgt s), Sl.val (optD x), Sl.val (optD y), z, Sl.em, Sl.em]) (fun P Xp q => ?_) ⟨_, rfl⟩ ?_ ?_
  · walk_at "zz"
    refine b_or (or_ok hr hlrs (b_or (or_ok hs hlrs.symm ?_)))
    rw [com_comm hlrs.symm]
    refine nothing_ok _ hrp hrl ?_
    exact ⟨by decide, q⟩
  · rintro i z ρ' hz ⟨y0, rfl⟩
    obtain ⟨t, ht, rfl⟩ := map_get hz
    have tt : r.length = t.length ∧ Tells r t := by
      have hm := List.mem_of_getElem? ht
      simp only [List.mem_cons, List.not_mem_nil, or_false] at hm
      rcases hm with rfl | rfl | rfl | rfl
      · exact ⟨rfl, tells_refl _⟩
      · exact ⟨by rw [num_length, comL_length], tells_com hlrs⟩
      · exact ⟨by rw [num_length, comL_length], tells_com hlrs⟩
      · exact ⟨by simp, tells_const r _ rfl⟩
    walk_at "zz"
    refine asks_ok (x := none) hr nr tt.1 (tells_none.mpr tt.2) ?_
    walk_at "zz"
    exact ⟨_, rfl⟩
  rintro ρ' ⟨y0, rfl⟩
  walk_at "zz"
  refine for_of ([s, num (r.zip s), num (r.zip s), List.range r.length].map sgt) (fun i ρ' => ∃ z, ρ' = [Sl.val (D.scr (List.map D.int ns)), Sl.val (D.lst [D.lst (List.map D.int a), D.lst (List.map D.int b)]),
      Sl.val (D.int r.length), Sl.val (D.int low), Sl.val (sgt r), Sl.val (sgt s), Sl.val (optD x), Sl.val (optD y), z, Sl.em, Sl.em]) (fun P Xp q => ?_) ⟨_, rfl⟩ ?_ ?_
  · walk_at "zz"
    refine b_and (and_ok hr hlrs (b_and (and_ok hs hlrs.symm ?_)))
    rw [swap_and r s]
    refine everything_ok _ hrp hrl ?_
    exact ⟨by decide, q⟩
  · rintro i z ρ' hz ⟨y0, rfl⟩
    obtain ⟨t, ht, rfl⟩ := map_get hz
    have tt : SOk t ∧ num t = t ∧ t.length = s.length ∧ Tells t s := by
      have hm := List.mem_of_getElem? ht
      simp only [List.mem_cons, List.not_mem_nil, or_false] at hm
      rcases hm with rfl | rfl | rfl | rfl
      · exact ⟨hs, nss, rfl, tells_refl _⟩
      · exact ⟨p9, num_num _, by rw [num_length]; simp; omega, zip_tells hlrs⟩
      · exact ⟨p9, num_num _, by rw [num_length]; simp; omega, zip_tells hlrs⟩
      · exact ⟨g9, num_range _, by simpa using hlrs, by rw [hlrs]; exact range_tells s⟩
    walk_at "zz"
    refine asks_ok (x := none) tt.1 tt.2.1 tt.2.2.1 (tells_none.mpr tt.2.2.2) ?_
    walk_at "zz"
    exact ⟨_, rfl⟩
  rintro ρ' ⟨y0, rfl⟩
  walk_at "zz"
  have a0 := getAt (l := a) (i := 0) h0
  refine ⟨_, atI_pos (j := 0) rfl (get_map a0), by decide, ?_⟩
  walk_at "zz"
  refine ⟨by rw [List.length_map]; omega, ?_⟩
  rw [show a.map D.int ++ [D.int a[0]] = (a ++ [a[0]]).map D.int by rw [List.map_append]; rfl]
  have hlo : (a ++ [a[0]]).length = r.length + 1 := by simp; omega
  refine init_ok (.l _) (by omega) (by omega) ?_
  simp only [fold_sgt]
  have ht : (num (a ++ [a[0]])).length = r.length + 1 := by rw [num_length, hlo]
  generalize num (a ++ [a[0]]) = t at *
  rw [show ((r.length : Nat) : Int) + 1 = ((t.length : Nat) : Int) by omega]
  refine differs_ok (by omega) ?_
  walk_at "zz"
  rw [show ((r.length : Nat) : Int) = ((s.length : Nat) : Int) by omega]
  refine differs_ok (by omega) ?_
  walk_at "zz"
  refine asks_ok hr nr hlrs fx ?_
  walk_at "zz"
  refine asks_ok hs nss hlrs.symm fy ?_
  exact h
end
end K01

namespace K01
open PySem PySem.Spec PyProof.Rows L2 Z Sg
local macro_rules | `(tactic| walk_at "zz") => `(tactic| try simp only [Z.sNext, Z.sSeq, Z.sSet, Z.sSetF, Z.sAsg, Z.sIf, Z.sRet, Z.sRetF, Z.sRetO, Z.sRetN, Z.sDrop, Z.sBrk, Z.sCont, Z.sFrz, Z.sApp, Z.sSetIx, Z.eVar, Z.eC, Z.eOp, Z.eUn, Z.eCh, Z.tBl, Z.tTr, Z.tAnd, Z.tOr, Z.tNot, Z.eAnd, Z.eOr, Z.eNot, Z.eIf, Z.aNil, Z.aCons, Z.eTup, Z.fLst, Z.eF, Z.eCB, Z.fCB, Z.eCall, Z.fCall, Z.gN, Z.gTup, Z.gsCons, Z.gsNil, Z.iSeq, Z.iRng1, Z.iRng2, Z.eIxO, Z.eLenO, Z.startD, Z.wipeD, Z.d_lst, Z.d_ins, Z.d_dk, Z.d_dt, Z.tYes, Z.isBl_bl, Z.caseB_t, Z.caseB_f, Z.truP_bl, Z.truP_int, Z.truP_non, Z.truP_lst, Z.truP_tup, Z.oI_int, Z.oC_int, Z.oNeg_int, Z.oAdd_int, Z.oAdd_str, Z.oAdd_lst, Z.oAdd_tup, Z.oEq_int, Z.oNe_int, Z.oEq_str, Z.oNe_str, Z.oEq_lst, Z.oNe_lst, Z.oEq_tup, Z.oNe_tup, Z.oIn_tup, Z.oIn_lst, Z.oIx_lst, Z.oIx_tup, Z.oIx_scr, Z.oIx_str, Z.cLen_lst, Z.cLen_tup, Z.cLen_scr, Z.cLen_str, Z.cAbs_int, Z.cInt_int, Z.cInt_bl, Z.cMax_2, Z.cMin_2, Z.cMax_l, Z.cMin_l, Z.cTup_lst, Z.cTup_tup, Z.cLst_lst, Z.cLst_tup, Z.cLst_scr, Z.cGcd_int, Z.itemsD_lst, Z.itemsD_tup, Z.itemsD_scr, Z.rng1_int, Z.rng2_int, Z.asTup_tup, Z.oEq_bl, Z.oNe_bl, Z.ixD_int, List.map_cons, List.map_nil, List.length_cons, List.length_nil, List.replicate, List.cons_append, List.nil_append, List.set_cons_zero, List.set_cons_succ, List.getElem?_cons_zero, List.getElem?_cons_succ, Option.some.injEq, Z.Sl.val.injEq, Z.Sl.own.injEq, Z.Ow.lst.injEq, Z.D.int.injEq, exists_eq_left', exists_eq_left, true_and, and_true, if_true, if_false, Bool.false_eq_true, decide_eq_true_eq, Bool.not_true, Bool.not_false, Bool.not_eq_true', decide_eq_false_iff_not, Z.eInO, Z.sPutO, Z.eGetO, Z.eLenD, Z.sFldS, Z.eFldO, Z.eAttr, Z.eMake, Z.eMakeL, Z.eCm, Z.sRaise0, Z.sRaiseI, Z.aStar, Z.fZip, Z.fRep, Z.eRoot, Z.eIxP, Z.eLenP, Z.sAppP, Z.sSetIxP, Z.eMethG, Z.eBinG, Z.eEqG, Z.eBor, Z.tBor, Z.fBor, Z.zipD_tup, Z.cMaxG_2, Z.startI, Z.sTryAs, reduceIte, reduceCtorEq, decide_true, decide_false, not_true_eq_false, not_false_eq_true, Bool.or_true, Bool.true_or, Bool.or_false, Bool.false_or, Bool.and_true, Bool.true_and, Bool.and_false, Bool.false_and, Z.lk0, Z.ex_some, Z.at0, Z.at1, Z.at2, Z.at3, Z.at4, Z.at5, Z.at6, Z.at7, Z.at8, Z.at9, Z.at10, Z.at11, Z.lenO_lst, Z.oIs_eq, Z.oIsnot_eq, Z.isNon_non, Z.isNon_bl, Z.isNon_int, Z.isNon_str, Z.isNon_tup, Z.isNon_lst, Z.isNon_ins, Z.eSl, Z.pNo, Z.pSome, Z.oSl, Z.sIns, K01.a_marks, K01.a_size, K01.a_cells, K01.i_NoneType_Sight, K01.i_NoneType_SizesDiffer, K01.i_NoneType_NoDeals, K01.i_NoneType_BadLength, K01.i_bool_Sight, K01.i_bool_SizesDiffer, K01.i_bool_NoDeals, K01.i_bool_BadLength, K01.i_int_Sight, K01.i_int_SizesDiffer, K01.i_int_NoDeals, K01.i_int_BadLength, K01.i_str_Sight, K01.i_str_SizesDiffer, K01.i_str_NoDeals, K01.i_str_BadLength, K01.i_list_Sight, K01.i_list_SizesDiffer, K01.i_list_NoDeals, K01.i_list_BadLength, K01.i_tuple_Sight, K01.i_tuple_SizesDiffer, K01.i_tuple_NoDeals, K01.i_tuple_BadLength, K01.i_Sight_Sight, K01.i_Sight_SizesDiffer, K01.i_Sight_NoDeals, K01.i_Sight_BadLength, K01.i_Sight_list, K01.i_Sight_tuple, K01.i_Sight_int, K01.i_Sight_bool, K01.i_Sight_ValueError, K01.i_NoDeals_SizesDiffer, K01.i_NoDeals_NoDeals, K01.i_NoDeals_BadLength, K01.i_NoDeals_Sight, K01.i_NoDeals_list, K01.i_NoDeals_tuple, K01.i_NoDeals_int, K01.i_NoDeals_bool, K01.i_NoDeals_ValueError, K01.i_SizesDiffer_SizesDiffer, K01.i_SizesDiffer_NoDeals, K01.i_SizesDiffer_BadLength, K01.i_SizesDiffer_Sight, K01.i_SizesDiffer_list, K01.i_SizesDiffer_tuple, K01.i_SizesDiffer_int, K01.i_SizesDiffer_bool, K01.i_SizesDiffer_ValueError, K01.i_NoneType_bool, K01.i_NoneType_int, K01.i_NoneType_list, K01.i_NoneType_tuple, K01.i_NoneType_str, K01.i_bool_bool, K01.i_bool_int, K01.i_bool_list, K01.i_bool_tuple, K01.i_bool_str, K01.i_int_bool, K01.i_int_int, K01.i_int_list, K01.i_int_tuple, K01.i_int_str, K01.i_str_bool, K01.i_str_int, K01.i_str_list, K01.i_str_tuple, K01.i_str_str, K01.i_list_bool, K01.i_list_int, K01.i_list_list, K01.i_list_tuple, K01.i_list_str, K01.i_tuple_bool, K01.i_tuple_int, K01.i_tuple_list, K01.i_tuple_tuple, K01.i_tuple_str, K01.i_NoneType_list_tuple, K01.i_bool_list_tuple, K01.i_int_list_tuple, K01.i_str_list_tuple, K01.i_list_list_tuple, K01.i_tuple_list_tuple, K01.i_Sight_list_tuple, K01.i_NoDeals_list_tuple, K01.i_SizesDiffer_list_tuple, K01.i_NoneType_NoDeals_BadLength, K01.i_bool_NoDeals_BadLength, K01.i_int_NoDeals_BadLength, K01.i_str_NoDeals_BadLength, K01.i_list_NoDeals_BadLength, K01.i_tuple_NoDeals_BadLength, K01.i_Sight_NoDeals_BadLength, K01.i_NoDeals_NoDeals_BadLength, K01.i_SizesDiffer_NoDeals_BadLength])
section
variable {P : D → Prop} {Xp : Xd} {PL : List D → Prop}
theorem key_pairs (r s : List Nat) : (prs (iL r) (iL s)).map dkPair.key = r.flatMap fun m => s.map fun o => D.tup [nI m, nI o] := by
  unfold prs
  rw [List.map_flatMap, List.flatMap_map]
  congr 1
  funext m
  rw [List.map_map, List.map_map]
  rfl
theorem num_prs (r s : List Nat) : num (prs (iL r) (iL s)) = num (prs r s) := by
  have : prs (iL r) (iL s) = (prs r s).map fun p => ((p.1 : Int), (p.2 : Int)) := prs_map _ _ r s
  rw [this]
  exact (num_eq (sameK_map (fun a b e => by
    have := Prod.ext_iff.mp e
    exact Prod.ext (by have := this.1; simp only at this; omega) (by have := this.2; simp only at this; omega)) (prs r s))).symm
def PK (r s : List Nat) : List D := (prs (iL r) (iL s)).map dkPair.key
theorem pk_len (r s : List Nat) : (PK r s).length = r.length * s.length := by unfold PK; rw [List.length_map, prs_length, List.length_map, List.length_map]
theorem pk_snoc (r s : List Nat) (m : Nat) : PK (r ++ [m]) s = PK r s ++ s.map fun o => D.tup [nI m, nI o] := by
  unfold PK
  rw [key_pairs, key_pairs, List.flatMap_append]
  simp
theorem partb_ok (ns : List Int) (h : P (.bl true)) : w__law_partb [.scr (ns.map D.int)] P Xp := by
  have hsz : sizeLine = 2 ^ 24 := rfl
  unfold w__law_partb t__law_partb
  walk_at "zz"
  refine draw_x_ok ns fun a b ⟨h0, h1, hza, hzb, hzz, ha, hb⟩ => ?_
  have hr := ok_num h0 (by omega : a.length < sizeLine)
  have hs := ok_num (l := b) h1 (by omega)
  have nr : num (num a) = num a := num_num a
  have nss : num (num b) = num b := num_num b
  have hlr : (num a).length = a.length := num_length a
  have hls : (num b).length = b.length := num_length b
  have lr := num_lt_len a
  have ls := num_lt_len b
  walk_at "zz"
  refine marks_ok dkInt a (by omega) ?_
  refine marks_ok dkInt b (by omega) ?_
  refine cell_ok ns 6 (by decide) (by decide) fun low => ?_
  refine lc_map a D.int (fun x => .int (low + x)) (by omega) (fun P Xp q => by walk_at "zz"; exact q) (fun j x hx A hA => by walk_at "zz"; exact hA) ?_
  rw [show a.map (fun x => D.int (low + x)) = (a.map fun x => low + x).map D.int by rw [List.map_map]; rfl]
  refine init_ok (.l _) (by simpa using h0) (by simp; omega) ?_
  rw [num_map (fun x y e => by omega)]
  simp only [fold_sgt]
  refine lc_map b D.int (fun x => .int (x - low)) (by omega) (fun P Xp q => by walk_at "zz"; exact q) (fun j x hx A hA => by walk_at "zz"; exact hA) ?_
  rw [show b.map (fun x => D.int (x - low)) = (b.map fun x => x - low).map D.int by rw [List.map_map]; rfl]
  walk_at "zz"
  refine init_ok (.t _) (by simpa using h1) (by simp; omega) ?_
  rw [num_map (fun x y e => by omega)]
  simp only [fold_sgt]
  generalize num a = r at *
  generalize num b = s at *
  have hrp := hr.pos
  have hsp := hs.pos
  have hrs : r.length * s.length < sizeLine := by rw [hlr, hls]; omega
  have hnr : (nL r).length = r.length := List.length_map _
  have hns : (nL s).length = s.length := List.length_map _
  rw [hnr]
  refine deals_ok ns r.length hrp (by omega) fun lk k0 k1 k2 => ?_
  walk_at "zz"
  have dl : SOk (num (lk.map fun i => r.getD i 0)) := ok_num (by simpa using k0) (by simp; omega)
  refine lc_map lk nI (fun i => nI (r.getD i 0)) (by omega) (fun P Xp q => by walk_at "zz"; exact q) (fun j i hi A hA => ?_) ?_
  · have e := getAt (l := r) (i := i) (k2 i (List.mem_of_getElem? hi))
    rw [getD_of e] at hA
    walk_at "zz"
    exact ⟨_, by rw [atN]; exact get_map e, hA⟩
  rw [show lk.map (fun i => nI (r.getD i 0)) = (iL (lk.map fun i => r.getD i 0)).map D.int by rw [← nL_ints]; show _ = List.map nI (List.map _ lk); rw [List.map_map]; rfl]
  refine marks_ok dkInt _ (by simp; omega) ?_
  rw [num_iL]
  refine restricted_ok (.inl rfl) k0 (by omega) k2 (agrees_ok dl.pos dl.len dl.lt ?_)
  walk_at "zz"
  refine restricted_ok (.inr rfl) k0 (by omega) k2 (agrees_ok dl.pos dl.len dl.lt ?_)
  walk_at "zz"
  refine ⟨by decide, ?_⟩
  refine ⟨by decide, ?_⟩
  have hsr : s.length * r.length < sizeLine := by rw [Nat.mul_comm]; exact hrs
  refine for_of (nL r) (fun i ρ' => ∃ z, ρ' = [Sl.val (D.scr (List.map D.int ns)), Sl.val (D.lst [D.lst (List.map D.int a), D.lst (List.map D.int b)]), Sl.val (D.lst (nL r)), Sl.val (D.lst (nL s)), Sl.val (D.int low), Sl.val (sgt r), Sl.val (sgt s), Sl.val (D.lst (nL lk)), Sl.val (D.lst (nL lk)), Sl.val (D.lst (nL (num (lk.map fun i => r.getD i 0)))), Sl.val (D.lst (PK (r.take i) s)), Sl.val (D.lst []), z, Sl.em, Sl.em, Sl.em, Sl.em, Sl.em, Sl.em]) (fun P Xp q => by walk_at "zz"; exact q) ⟨_, by rfl⟩ ?_ ?_
  · rintro i x ρ' hx ⟨z, rfl⟩
    obtain ⟨m, hm, rfl⟩ := map_get hx
    have hi := get_lt hm
    walk_at "zz"
    refine lc_map s nI (fun o => D.tup [nI m, nI o]) (by have := hs.len; omega) (fun P Xp q => by walk_at "zz"; exact q) (fun j o ho A hA => by walk_at "zz"; exact ⟨by decide, hA⟩) ?_
    refine ⟨?_, .val (nI m), ?_⟩
    · rw [pk_len, List.length_take, List.length_map]
      have : (i + 1) * s.length ≤ r.length * s.length := Nat.mul_le_mul_right _ hi
      rw [Nat.succ_mul] at this
      rw [show min i r.length = i by omega]
      omega
    · rw [take_next hm, pk_snoc]
  rintro ρ' ⟨z, rfl⟩
  rw [List.length_map, List.take_length]
  walk_at "zz"
  refine for_of (nL s) (fun i ρ' => ∃ z, ρ' = [Sl.val (D.scr (List.map D.int ns)), Sl.val (D.lst [D.lst (List.map D.int a), D.lst (List.map D.int b)]), Sl.val (D.lst (nL r)), Sl.val (D.lst (nL s)), Sl.val (D.int low), Sl.val (sgt r), Sl.val (sgt s), Sl.val (D.lst (nL lk)), Sl.val (D.lst (nL lk)), Sl.val (D.lst (nL (num (lk.map fun i => r.getD i 0)))), Sl.val (D.lst (PK r s)), Sl.val (D.lst (PK (s.take i) r)), z, Sl.em, Sl.em, Sl.em, Sl.em, Sl.em, Sl.em]) (fun P Xp q => by walk_at "zz"; exact q) ⟨_, by rfl⟩ ?_ ?_
  · rintro i x ρ' hx ⟨z, rfl⟩
    obtain ⟨m, hm, rfl⟩ := map_get hx
    have hi := get_lt hm
    walk_at "zz"
    refine lc_map r nI (fun o => D.tup [nI m, nI o]) (by have := hr.len; omega) (fun P Xp q => by walk_at "zz"; exact q) (fun j o ho A hA => by walk_at "zz"; exact ⟨by decide, hA⟩) ?_
    refine ⟨?_, .val (nI m), ?_⟩
    · rw [pk_len, List.length_take, List.length_map]
      have : (i + 1) * r.length ≤ s.length * r.length := Nat.mul_le_mul_right _ hi
      rw [Nat.succ_mul] at this
      rw [show min i s.length = i by omega]
      omega
    · rw [take_next hm, pk_snoc]
  rintro ρ' ⟨z, rfl⟩
  rw [List.length_map, List.take_length]
  walk_at "zz"
  have q1 : (prs r s).length = r.length * s.length := prs_length r s
  have q2 : (prs s r).length = s.length * r.length := prs_length s r
  have q0 : 0 < r.length * s.length := Nat.mul_pos hrp hsp
  have q0' : 0 < s.length * r.length := Nat.mul_pos hsp hrp
  have o1 : SOk (num (prs r s)) := ok_num (by omega) (by omega)
  have o2 : SOk (num (prs s r)) := ok_num (by omega) (by omega)
  have el : (num (prs r s)).length = r.length * s.length := by rw [num_length, q1]
  refine crossed_ok hr hs ls hrs ?_
  refine marks_ok dkPair (prs (iL r) (iL s)) (by rw [prs_length, List.length_map, List.length_map]; omega) ?_
  rw [num_prs]
  refine agrees_ok o1.pos o1.len o1.lt ?_
  walk_at "zz"
  refine crossed_ok hs hr lr hsr ?_
  refine marks_ok dkPair (prs (iL s) (iL r)) (by rw [prs_length, List.length_map, List.length_map]; omega) ?_
  rw [num_prs]
  refine agrees_ok o2.pos o2.len o2.lt ?_
  walk_at "zz"
  refine cell_ok ns 4 (by decide) (by decide) fun c4 => ?_
  walk_at "zz"
  rw [hns, hnr]
  have m4 := modpos (a := c4) (b := (s.length : Int)) (by omega)
  obtain ⟨j, hj⟩ : ∃ j : Nat, c4.fmod (s.length : Int) = (j : Int) := ⟨_, (Int.toNat_of_nonneg m4.1).symm⟩
  rw [hj] at m4 ⊢
  refine ⟨by omega, cell_ok ns 5 (by decide) (by decide) fun c5 => ?_⟩
  walk_at "zz"
  have m5 := modpos (a := c5) (b := (r.length : Int)) (by omega)
  obtain ⟨i, hi⟩ : ∃ i : Nat, c5.fmod (r.length : Int) = (i : Int) := ⟨_, (Int.toNat_of_nonneg m5.1).symm⟩
  rw [hi] at m5 ⊢
  refine ⟨by omega, ?_⟩
  have below : ∀ k o : Nat, k < r.length → o < s.length → k * s.length + o < r.length * s.length := fun k o hk ho => by
    have : (k + 1) * s.length ≤ r.length * s.length := Nat.mul_le_mul_right _ hk
    rw [Nat.succ_mul] at this; omega
  have cast : ∀ k o : Nat, ((k * s.length + o : Nat) : Int) = (k : Int) * (s.length : Nat) + (o : Nat) := fun k o => by rw [Int.natCast_add, Int.natCast_mul]
  have hrl := hr.len
  have hsl := hs.len
  refine lc_rng r.length (fun k => nI (k * s.length + j)) (by omega) (fun P Xp q => ?_) (fun k hk A hA => ?_) ?_
  · walk_at "zz"
    rw [hnr]
    exact ⟨by omega, by omega, q⟩
  · walk_at "zz"
    have hA' : A (.int ((k * s.length + j : Nat) : Int)) := hA
    rw [cast] at hA'
    rw [hns]
    exact ⟨small_mul (b64 (by omega)) (b64 (by omega)), hA'⟩
  refine restricted_ok (lk := (List.range r.length).map fun k => k * s.length + j) (.inl (by show _ = D.lst (List.map nI (List.map _ _)); rw [List.map_map]; rfl)) (by simpa using hrp) (by simpa using hrl) (fun i hi => by
    obtain ⟨k, hk, rfl⟩ := List.mem_map.mp hi
    rw [el]; exact below k j (List.mem_range.mp hk) (by omega)) ?_
  rw [show num (List.map (fun i => (num (prs r s)).getD i 0) _) = _ from pick_row (by omega : j < s.length), nr]
  refine agrees_ok hr.pos hr.len hr.lt ?_
  walk_at "zz"
  refine lc_rng s.length (fun k => nI (i * s.length + k)) (by omega) (fun P Xp q => ?_) (fun k hk A hA => ?_) ?_
  · walk_at "zz"
    rw [hns]
    exact ⟨by omega, by omega, q⟩
  · walk_at "zz"
    have hA' : A (.int ((i * s.length + k : Nat) : Int)) := hA
    rw [cast] at hA'
    rw [hns]
    exact ⟨small_mul (b64 (by omega)) (b64 (by omega)), hA'⟩
  refine restricted_ok (lk := (List.range s.length).map fun k => i * s.length + k) (.inl (by show _ = D.lst (List.map nI (List.map _ _)); rw [List.map_map]; rfl)) (by simpa using hsp) (by simpa using hsl) (fun x hx => by
    obtain ⟨k, hk, rfl⟩ := List.mem_map.mp hx
    rw [el]; exact below i k (by omega) (List.mem_range.mp hk)) ?_
  rw [show num (List.map (fun i => (num (prs r s)).getD i 0) _) = _ from pick_col (by omega : i < r.length), nss]
  refine agrees_ok hs.pos hs.len hs.lt ?_
  walk_at "zz"
  refine lc_rng r.length nI (by omega) (fun P Xp q => ?_) (fun k hk A hA => ?_) ?_
  · walk_at "zz"
    rw [hnr]
    exact ⟨by omega, by omega, q⟩
  · walk_at "zz"
    exact hA
  refine restricted_ok (lk := List.range r.length) (.inl rfl) (by simpa using hrp) (by simpa using hrl) (fun i hi => List.mem_range.mp hi) ?_
  rw [show num (List.map (fun i => r.getD i 0) (List.range r.length)) = num r from congrArg num (pick_all r), nr]
  refine agrees_ok hr.pos hr.len hr.lt ?_
  walk_at "zz"
  refine ⟨okl _, okl _, ?_⟩
  rw [eqD_refl (okT_lst (n := 0) (okT_nats lk))]
  walk_at "zz"
  refine restricted_ok (.inl rfl) k0 (by omega) k2 (agrees_ok dl.pos dl.len dl.lt ?_)
  walk_at "zz"
  refine marks_ok dkPair (prs (iL r) (iL s)) (by rw [prs_length, List.length_map, List.length_map]; omega) ?_
  rw [num_prs]
  refine agrees_ok o1.pos o1.len o1.lt ?_
  walk_at "zz"
  refine agrees_ok hr.pos hr.len hr.lt ?_
  walk_at "zz"
  exact agrees_ok hs.pos hs.len hs.lt h
theorem law_true (ns : List Int) (hns : ns.length ≤ 63) : w_law [.scr (ns.map D.int)] (fun d => d = .bl true) NoX := by
  unfold w_law t_law
  walk_at "zz"
  refine parta_ok ns ?_
  walk_at "zz"
  exact partb_ok ns rfl
end
end K01

/-! ### the end -/
namespace K01
open PySem PySem.Spec PyProof.Rows L2 Z
def spLaw (K : PySem.W.Frag) : Sp := fun vs H Q _ => ∃ (a : Addr) (ns : List Int), vs = [.ref a] ∧ SqL K H a (ns.map V.int) ∧ ns.length ≤ 63 ∧ ∀ H', Q (.bl true) H'
theorem law_ok {P : Program} {w : World} {K : PySem.W.Frag} {mg : Str → Option Value} {base : Heap} (T : Txt K mg) : FnOk P w K mg base (L2N.CX P w) 8 T.a_law T.d_law ["_law_script"] (spLaw K) :=
  (ok_law T).imp fun vs H Q E ⟨a, ns, e, hS, hl, q⟩ => by
    subst e
    exact ⟨rfl, H, [.scr (ns.map D.int)], fun d => d = .bl true, NoX, Same.refl _, .cons (.scr hS (Reps.ints ns)) .nil, law_true ns hl, fun d hd v S' H' _ r => by subst hd; cases r; exact q H', fun _ _ h => h.elim⟩
theorem all_mk {P : Program} {w : World} {K : PySem.W.Frag} {h : Heap} {mg : Str → Option Value} {fa : Addr} (X : K.In h) (G : h.Ns mainGlobals mg) (hfa : mg "law" = some (.ref fa))
    {C_DealError : Addr}
    {C_NoDeals : Addr}
    {C_SizesDiffer : Addr}
    {C_BadLength : Addr}
    {C_Sight : Addr}
    {f__law_digits : Addr} {od__law_digits an__law_digits : Option Addr} {sl__law_digits : Array (Option Value)} {oc__law_digits kV__law_digits dc__law_digits pm__law_digits cd__law_digits ct__law_digits : Value}
    {f__law_cell : Addr} {od__law_cell an__law_cell : Option Addr} {sl__law_cell : Array (Option Value)} {oc__law_cell kV__law_cell dc__law_cell pm__law_cell cd__law_cell ct__law_cell : Value}
    {f__law_draw_x : Addr} {od__law_draw_x an__law_draw_x : Option Addr} {sl__law_draw_x : Array (Option Value)} {oc__law_draw_x kV__law_draw_x dc__law_draw_x pm__law_draw_x cd__law_draw_x ct__law_draw_x : Value}
    {f__law_marks : Addr} {od__law_marks an__law_marks : Option Addr} {sl__law_marks : Array (Option Value)} {oc__law_marks kV__law_marks dc__law_marks pm__law_marks cd__law_marks ct__law_marks : Value}
    {f_frozen : Addr} {od_frozen an_frozen : Option Addr} {sl_frozen : Array (Option Value)} {oc_frozen kV_frozen dc_frozen pm_frozen cd_frozen ct_frozen : Value}
    {f_numbered : Addr} {od_numbered an_numbered : Option Addr} {sl_numbered : Array (Option Value)} {oc_numbered kV_numbered dc_numbered pm_numbered cd_numbered ct_numbered : Value}
    {f_Sight___init__ : Addr} {od_Sight___init__ an_Sight___init__ : Option Addr} {sl_Sight___init__ : Array (Option Value)} {oc_Sight___init__ kV_Sight___init__ dc_Sight___init__ pm_Sight___init__ cd_Sight___init__ ct_Sight___init__ : Value}
    {f__law_deals : Addr} {od__law_deals an__law_deals : Option Addr} {sl__law_deals : Array (Option Value)} {oc__law_deals kV__law_deals dc__law_deals pm__law_deals cd__law_deals ct__law_deals : Value}
    {f_crossed : Addr} {od_crossed an_crossed : Option Addr} {sl_crossed : Array (Option Value)} {oc_crossed kV_crossed dc_crossed pm_crossed cd_crossed ct_crossed : Value}
    {f__law_groups : Addr} {od__law_groups an__law_groups : Option Addr} {sl__law_groups : Array (Option Value)} {oc__law_groups kV__law_groups dc__law_groups pm__law_groups cd__law_groups ct__law_groups : Value}
    {f_Sight_cells : Addr} {od_Sight_cells an_Sight_cells : Option Addr} {sl_Sight_cells : Array (Option Value)} {oc_Sight_cells kV_Sight_cells dc_Sight_cells pm_Sight_cells cd_Sight_cells ct_Sight_cells : Value}
    {q_Sight_cells : Addr} {rs_Sight_cells : List Value}
    {f__law_whole : Addr} {od__law_whole an__law_whole : Option Addr} {sl__law_whole : Array (Option Value)} {oc__law_whole kV__law_whole dc__law_whole pm__law_whole cd__law_whole ct__law_whole : Value}
    {f__law_numbers : Addr} {od__law_numbers an__law_numbers : Option Addr} {sl__law_numbers : Array (Option Value)} {oc__law_numbers kV__law_numbers dc__law_numbers pm__law_numbers cd__law_numbers ct__law_numbers : Value}
    {f__law_agrees : Addr} {od__law_agrees an__law_agrees : Option Addr} {sl__law_agrees : Array (Option Value)} {oc__law_agrees kV__law_agrees dc__law_agrees pm__law_agrees cd__law_agrees ct__law_agrees : Value}
    {f_restricted : Addr} {od_restricted an_restricted : Option Addr} {sl_restricted : Array (Option Value)} {oc_restricted kV_restricted dc_restricted pm_restricted cd_restricted ct_restricted : Value}
    {f__law_partb : Addr} {od__law_partb an__law_partb : Option Addr} {sl__law_partb : Array (Option Value)} {oc__law_partb kV__law_partb dc__law_partb pm__law_partb cd__law_partb ct__law_partb : Value}
    {f__law_draw : Addr} {od__law_draw an__law_draw : Option Addr} {sl__law_draw : Array (Option Value)} {oc__law_draw kV__law_draw dc__law_draw pm__law_draw cd__law_draw ct__law_draw : Value}
    {f__law_pair : Addr} {od__law_pair an__law_pair : Option Addr} {sl__law_pair : Array (Option Value)} {oc__law_pair kV__law_pair dc__law_pair pm__law_pair cd__law_pair ct__law_pair : Value}
    {f_SizesDiffer___init__ : Addr} {od_SizesDiffer___init__ an_SizesDiffer___init__ : Option Addr} {sl_SizesDiffer___init__ : Array (Option Value)} {oc_SizesDiffer___init__ kV_SizesDiffer___init__ dc_SizesDiffer___init__ pm_SizesDiffer___init__ cd_SizesDiffer___init__ ct_SizesDiffer___init__ : Value}
    {f_joined : Addr} {od_joined an_joined : Option Addr} {sl_joined : Array (Option Value)} {oc_joined kV_joined dc_joined pm_joined cd_joined ct_joined : Value}
    {f_Sight___or__ : Addr} {od_Sight___or__ an_Sight___or__ : Option Addr} {sl_Sight___or__ : Array (Option Value)} {oc_Sight___or__ kV_Sight___or__ dc_Sight___or__ pm_Sight___or__ cd_Sight___or__ ct_Sight___or__ : Value}
    {f_Sight_nothing : Addr} {od_Sight_nothing an_Sight_nothing : Option Addr} {sl_Sight_nothing : Array (Option Value)} {oc_Sight_nothing kV_Sight_nothing dc_Sight_nothing pm_Sight_nothing cd_Sight_nothing ct_Sight_nothing : Value}
    {q_Sight_nothing : Addr} {rs_Sight_nothing : List Value}
    {f_Sight___and__ : Addr} {od_Sight___and__ an_Sight___and__ : Option Addr} {sl_Sight___and__ : Array (Option Value)} {oc_Sight___and__ kV_Sight___and__ dc_Sight___and__ pm_Sight___and__ cd_Sight___and__ ct_Sight___and__ : Value}
    {f_Sight_everything : Addr} {od_Sight_everything an_Sight_everything : Option Addr} {sl_Sight_everything : Array (Option Value)} {oc_Sight_everything kV_Sight_everything dc_Sight_everything pm_Sight_everything cd_Sight_everything ct_Sight_everything : Value}
    {q_Sight_everything : Addr} {rs_Sight_everything : List Value}
    {f_Sight_alike : Addr} {od_Sight_alike an_Sight_alike : Option Addr} {sl_Sight_alike : Array (Option Value)} {oc_Sight_alike kV_Sight_alike dc_Sight_alike pm_Sight_alike cd_Sight_alike ct_Sight_alike : Value}
    {f_unlike_pair : Addr} {od_unlike_pair an_unlike_pair : Option Addr} {sl_unlike_pair : Array (Option Value)} {oc_unlike_pair kV_unlike_pair dc_unlike_pair pm_unlike_pair cd_unlike_pair ct_unlike_pair : Value}
    {f_tells : Addr} {od_tells an_tells : Option Addr} {sl_tells : Array (Option Value)} {oc_tells kV_tells dc_tells pm_tells cd_tells ct_tells : Value}
    {f__law_asks : Addr} {od__law_asks an__law_asks : Option Addr} {sl__law_asks : Array (Option Value)} {oc__law_asks kV__law_asks dc__law_asks pm__law_asks cd__law_asks ct__law_asks : Value}
    {f_Sight___eq__ : Addr} {od_Sight___eq__ an_Sight___eq__ : Option Addr} {sl_Sight___eq__ : Array (Option Value)} {oc_Sight___eq__ kV_Sight___eq__ dc_Sight___eq__ pm_Sight___eq__ cd_Sight___eq__ ct_Sight___eq__ : Value}
    {f__law_error : Addr} {od__law_error an__law_error : Option Addr} {sl__law_error : Array (Option Value)} {oc__law_error kV__law_error dc__law_error pm__law_error cd__law_error ct__law_error : Value}
    {f__law_differs : Addr} {od__law_differs an__law_differs : Option Addr} {sl__law_differs : Array (Option Value)} {oc__law_differs kV__law_differs dc__law_differs pm__law_differs cd__law_differs ct__law_differs : Value}
    {f__law_parta : Addr} {od__law_parta an__law_parta : Option Addr} {sl__law_parta : Array (Option Value)} {oc__law_parta kV__law_parta dc__law_parta pm__law_parta cd__law_parta ct__law_parta : Value}
    {f_law : Addr} {od_law an_law : Option Addr} {sl_law : Array (Option Value)} {oc_law kV_law dc_law pm_law cd_law ct_law : Value}
    {nm_SizesDiffer qn_SizesDiffer : Str} {N_SizesDiffer : Addr} {bs_SizesDiffer bm_SizesDiffer : List Value} {sn_SizesDiffer : List Str} {su_SizesDiffer : List Value} {ab_SizesDiffer : Bool} {co_SizesDiffer : Option Bool} {dd_SizesDiffer : Option Addr} {k0_SizesDiffer k1_SizesDiffer k2_SizesDiffer k3_SizesDiffer k5_SizesDiffer : Option Value}
    (n_DealError : PySem.W.nsIn K mainGlobals "DealError" = some (some (.ref C_DealError)))
    (n_NoDeals : PySem.W.nsIn K mainGlobals "NoDeals" = some (some (.ref C_NoDeals)))
    (n_SizesDiffer : PySem.W.nsIn K mainGlobals "SizesDiffer" = some (some (.ref C_SizesDiffer)))
    (n_BadLength : PySem.W.nsIn K mainGlobals "BadLength" = some (some (.ref C_BadLength)))
    (n_Sight : PySem.W.nsIn K mainGlobals "Sight" = some (some (.ref C_Sight)))
    (ki_BadLength : PySem.W.isClsIn K C_BadLength = true)
    (kt_BadLength : PySem.W.typeIn K (.ref C_BadLength) = some (.type "type"))
    (ks_BadLength : PySem.W.subIn K (.ref C_BadLength) (.ref C_BadLength) = some true)
    (ki_DealError : PySem.W.isClsIn K C_DealError = true)
    (kt_DealError : PySem.W.typeIn K (.ref C_DealError) = some (.type "type"))
    (ks_DealError : PySem.W.subIn K (.ref C_DealError) (.ref C_DealError) = some true)
    (ki_NoDeals : PySem.W.isClsIn K C_NoDeals = true)
    (kt_NoDeals : PySem.W.typeIn K (.ref C_NoDeals) = some (.type "type"))
    (ks_NoDeals : PySem.W.subIn K (.ref C_NoDeals) (.ref C_NoDeals) = some true)
    (ki_Sight : PySem.W.isClsIn K C_Sight = true)
    (kt_Sight : PySem.W.typeIn K (.ref C_Sight) = some (.type "type"))
    (ks_Sight : PySem.W.subIn K (.ref C_Sight) (.ref C_Sight) = some true)
    (ki_SizesDiffer : PySem.W.isClsIn K C_SizesDiffer = true)
    (kt_SizesDiffer : PySem.W.typeIn K (.ref C_SizesDiffer) = some (.type "type"))
    (ks_SizesDiffer : PySem.W.subIn K (.ref C_SizesDiffer) (.ref C_SizesDiffer) = some true)
    (pg_Sight : PySem.W.plainGet K C_Sight Str.empty = true)
    (hd_Sight : PySem.W.hasDictIn K C_Sight = true)
    (po_Sight : PySem.W.plainOver K C_Sight = true)
    (sa_Sight : PySem.W.findIn K (.ref C_Sight) "__setattr__" = some (some (.builtin "object.__setattr__")))
    (fc_Sight : PySem.W.findIn K (.ref C_Sight) "__class__" = some (some (.builtin "object.__class__")))
    (spc : PySem.W.specialIn K (.builtin "object.__class__") "__get__" = some (some (.builtin "getset_descriptor.__get__")))
    (tkc : PySem.W.takesIn K (.builtin "object.__class__") = some true)
    (mo_Sight : PySem.W.mroIn K C_Sight (.type "object") = some true)
    (ga_DealError : PySem.W.findIn K (.ref C_DealError) "__getattribute__" = some (some (.builtin "BaseException.__getattribute__")))
    (gg_DealError : PySem.W.findIn K (.ref C_DealError) "__getattr__" = some none)
    (eb_DealError : PySem.W.subIn K (.ref C_DealError) (.type "BaseException") = some true)
    (hd_DealError : PySem.W.hasDictIn K C_DealError = true)
    (fc_DealError : PySem.W.findIn K (.ref C_DealError) "__class__" = some (some (.builtin "object.__class__")))
    (mo_DealError : PySem.W.mroIn K C_DealError (.type "object") = some true)
    (ga_NoDeals : PySem.W.findIn K (.ref C_NoDeals) "__getattribute__" = some (some (.builtin "BaseException.__getattribute__")))
    (gg_NoDeals : PySem.W.findIn K (.ref C_NoDeals) "__getattr__" = some none)
    (eb_NoDeals : PySem.W.subIn K (.ref C_NoDeals) (.type "BaseException") = some true)
    (hd_NoDeals : PySem.W.hasDictIn K C_NoDeals = true)
    (fc_NoDeals : PySem.W.findIn K (.ref C_NoDeals) "__class__" = some (some (.builtin "object.__class__")))
    (mo_NoDeals : PySem.W.mroIn K C_NoDeals (.type "object") = some true)
    (ga_SizesDiffer : PySem.W.findIn K (.ref C_SizesDiffer) "__getattribute__" = some (some (.builtin "BaseException.__getattribute__")))
    (gg_SizesDiffer : PySem.W.findIn K (.ref C_SizesDiffer) "__getattr__" = some none)
    (eb_SizesDiffer : PySem.W.subIn K (.ref C_SizesDiffer) (.type "BaseException") = some true)
    (hd_SizesDiffer : PySem.W.hasDictIn K C_SizesDiffer = true)
    (fc_SizesDiffer : PySem.W.findIn K (.ref C_SizesDiffer) "__class__" = some (some (.builtin "object.__class__")))
    (mo_SizesDiffer : PySem.W.mroIn K C_SizesDiffer (.type "object") = some true)
    (a__law_digits : PySem.W.nsIn K mainGlobals "_law_digits" = some (some (.ref f__law_digits)))
    (l__law_digits : K.lookup f__law_digits = some ⟨oc__law_digits, od__law_digits, .func (PySem.W.fnOf "_law_digits" "_law_digits" (defArgs st__law_digits) (defBody st__law_digits) (defScope st__law_digits) .none kV__law_digits dc__law_digits pm__law_digits an__law_digits cd__law_digits ct__law_digits), sl__law_digits⟩)
    (cc__law_digits : PySem.W.codeIn K cd__law_digits "_law_digits" = true)
    (k__law_digits : PySem.W.keepIn K (.ref f__law_digits) = true)
    (a__law_cell : PySem.W.nsIn K mainGlobals "_law_cell" = some (some (.ref f__law_cell)))
    (l__law_cell : K.lookup f__law_cell = some ⟨oc__law_cell, od__law_cell, .func (PySem.W.fnOf "_law_cell" "_law_cell" (defArgs st__law_cell) (defBody st__law_cell) (defScope st__law_cell) .none kV__law_cell dc__law_cell pm__law_cell an__law_cell cd__law_cell ct__law_cell), sl__law_cell⟩)
    (cc__law_cell : PySem.W.codeIn K cd__law_cell "_law_cell" = true)
    (k__law_cell : PySem.W.keepIn K (.ref f__law_cell) = true)
    (a__law_draw_x : PySem.W.nsIn K mainGlobals "_law_draw_x" = some (some (.ref f__law_draw_x)))
    (l__law_draw_x : K.lookup f__law_draw_x = some ⟨oc__law_draw_x, od__law_draw_x, .func (PySem.W.fnOf "_law_draw_x" "_law_draw_x" (defArgs st__law_draw_x) (defBody st__law_draw_x) (defScope st__law_draw_x) .none kV__law_draw_x dc__law_draw_x pm__law_draw_x an__law_draw_x cd__law_draw_x ct__law_draw_x), sl__law_draw_x⟩)
    (cc__law_draw_x : PySem.W.codeIn K cd__law_draw_x "_law_draw_x" = true)
    (k__law_draw_x : PySem.W.keepIn K (.ref f__law_draw_x) = true)
    (a__law_marks : PySem.W.nsIn K mainGlobals "_law_marks" = some (some (.ref f__law_marks)))
    (l__law_marks : K.lookup f__law_marks = some ⟨oc__law_marks, od__law_marks, .func (PySem.W.fnOf "_law_marks" "_law_marks" (defArgs st__law_marks) (defBody st__law_marks) (defScope st__law_marks) .none kV__law_marks dc__law_marks pm__law_marks an__law_marks cd__law_marks ct__law_marks), sl__law_marks⟩)
    (cc__law_marks : PySem.W.codeIn K cd__law_marks "_law_marks" = true)
    (k__law_marks : PySem.W.keepIn K (.ref f__law_marks) = true)
    (a_frozen : PySem.W.nsIn K mainGlobals "frozen" = some (some (.ref f_frozen)))
    (l_frozen : K.lookup f_frozen = some ⟨oc_frozen, od_frozen, .func (PySem.W.fnOf "frozen" "frozen" (defArgs st_frozen) (defBody st_frozen) (defScope st_frozen) .none kV_frozen dc_frozen pm_frozen an_frozen cd_frozen ct_frozen), sl_frozen⟩)
    (cc_frozen : PySem.W.codeIn K cd_frozen "frozen" = true)
    (k_frozen : PySem.W.keepIn K (.ref f_frozen) = true)
    (a_numbered : PySem.W.nsIn K mainGlobals "numbered" = some (some (.ref f_numbered)))
    (l_numbered : K.lookup f_numbered = some ⟨oc_numbered, od_numbered, .func (PySem.W.fnOf "numbered" "numbered" (defArgs st_numbered) (defBody st_numbered) (defScope st_numbered) .none kV_numbered dc_numbered pm_numbered an_numbered cd_numbered ct_numbered), sl_numbered⟩)
    (cc_numbered : PySem.W.codeIn K cd_numbered "numbered" = true)
    (k_numbered : PySem.W.keepIn K (.ref f_numbered) = true)
    (a_Sight___init__ : PySem.W.findIn K (.ref C_Sight) "__init__" = some (some (.ref f_Sight___init__)))
    (l_Sight___init__ : K.lookup f_Sight___init__ = some ⟨oc_Sight___init__, od_Sight___init__, .func (PySem.W.fnOf "__init__" "Sight.__init__" (defArgs st_Sight___init__) (defBody st_Sight___init__) (defScope st_Sight___init__) .none kV_Sight___init__ dc_Sight___init__ pm_Sight___init__ an_Sight___init__ cd_Sight___init__ ct_Sight___init__), sl_Sight___init__⟩)
    (cc_Sight___init__ : PySem.W.codeIn K cd_Sight___init__ "Sight.__init__" = true)
    (k_Sight___init__ : PySem.W.keepIn K (.ref f_Sight___init__) = true)
    (a__law_deals : PySem.W.nsIn K mainGlobals "_law_deals" = some (some (.ref f__law_deals)))
    (l__law_deals : K.lookup f__law_deals = some ⟨oc__law_deals, od__law_deals, .func (PySem.W.fnOf "_law_deals" "_law_deals" (defArgs st__law_deals) (defBody st__law_deals) (defScope st__law_deals) .none kV__law_deals dc__law_deals pm__law_deals an__law_deals cd__law_deals ct__law_deals), sl__law_deals⟩)
    (cc__law_deals : PySem.W.codeIn K cd__law_deals "_law_deals" = true)
    (k__law_deals : PySem.W.keepIn K (.ref f__law_deals) = true)
    (a_crossed : PySem.W.nsIn K mainGlobals "crossed" = some (some (.ref f_crossed)))
    (l_crossed : K.lookup f_crossed = some ⟨oc_crossed, od_crossed, .func (PySem.W.fnOf "crossed" "crossed" (defArgs st_crossed) (defBody st_crossed) (defScope st_crossed) .none kV_crossed dc_crossed pm_crossed an_crossed cd_crossed ct_crossed), sl_crossed⟩)
    (cc_crossed : PySem.W.codeIn K cd_crossed "crossed" = true)
    (k_crossed : PySem.W.keepIn K (.ref f_crossed) = true)
    (a__law_groups : PySem.W.nsIn K mainGlobals "_law_groups" = some (some (.ref f__law_groups)))
    (l__law_groups : K.lookup f__law_groups = some ⟨oc__law_groups, od__law_groups, .func (PySem.W.fnOf "_law_groups" "_law_groups" (defArgs st__law_groups) (defBody st__law_groups) (defScope st__law_groups) .none kV__law_groups dc__law_groups pm__law_groups an__law_groups cd__law_groups ct__law_groups), sl__law_groups⟩)
    (cc__law_groups : PySem.W.codeIn K cd__law_groups "_law_groups" = true)
    (k__law_groups : PySem.W.keepIn K (.ref f__law_groups) = true)
    (a_Sight_cells : PySem.W.findIn K (.ref C_Sight) "cells" = some (some (.ref q_Sight_cells)))
    (rc_Sight_cells : PySem.W.recIn K q_Sight_cells "property" = some (.ref f_Sight_cells :: rs_Sight_cells))
    (pt_Sight_cells : PySem.W.specialIn K (.ref q_Sight_cells) "__get__" = some (some (.builtin "property.__get__")))
    (pk_Sight_cells : PySem.W.takesIn K (.ref q_Sight_cells) = some true)
    (l_Sight_cells : K.lookup f_Sight_cells = some ⟨oc_Sight_cells, od_Sight_cells, .func (PySem.W.fnOf "cells" "Sight.cells" (defArgs st_Sight_cells) (defBody st_Sight_cells) (defScope st_Sight_cells) .none kV_Sight_cells dc_Sight_cells pm_Sight_cells an_Sight_cells cd_Sight_cells ct_Sight_cells), sl_Sight_cells⟩)
    (cc_Sight_cells : PySem.W.codeIn K cd_Sight_cells "Sight.cells" = true)
    (k_Sight_cells : PySem.W.keepIn K (.ref f_Sight_cells) = true)
    (a__law_whole : PySem.W.nsIn K mainGlobals "_law_whole" = some (some (.ref f__law_whole)))
    (l__law_whole : K.lookup f__law_whole = some ⟨oc__law_whole, od__law_whole, .func (PySem.W.fnOf "_law_whole" "_law_whole" (defArgs st__law_whole) (defBody st__law_whole) (defScope st__law_whole) .none kV__law_whole dc__law_whole pm__law_whole an__law_whole cd__law_whole ct__law_whole), sl__law_whole⟩)
    (cc__law_whole : PySem.W.codeIn K cd__law_whole "_law_whole" = true)
    (k__law_whole : PySem.W.keepIn K (.ref f__law_whole) = true)
    (a__law_numbers : PySem.W.nsIn K mainGlobals "_law_numbers" = some (some (.ref f__law_numbers)))
    (l__law_numbers : K.lookup f__law_numbers = some ⟨oc__law_numbers, od__law_numbers, .func (PySem.W.fnOf "_law_numbers" "_law_numbers" (defArgs st__law_numbers) (defBody st__law_numbers) (defScope st__law_numbers) .none kV__law_numbers dc__law_numbers pm__law_numbers an__law_numbers cd__law_numbers ct__law_numbers), sl__law_numbers⟩)
    (cc__law_numbers : PySem.W.codeIn K cd__law_numbers "_law_numbers" = true)
    (k__law_numbers : PySem.W.keepIn K (.ref f__law_numbers) = true)
    (a__law_agrees : PySem.W.nsIn K mainGlobals "_law_agrees" = some (some (.ref f__law_agrees)))
    (l__law_agrees : K.lookup f__law_agrees = some ⟨oc__law_agrees, od__law_agrees, .func (PySem.W.fnOf "_law_agrees" "_law_agrees" (defArgs st__law_agrees) (defBody st__law_agrees) (defScope st__law_agrees) .none kV__law_agrees dc__law_agrees pm__law_agrees an__law_agrees cd__law_agrees ct__law_agrees), sl__law_agrees⟩)
    (cc__law_agrees : PySem.W.codeIn K cd__law_agrees "_law_agrees" = true)
    (k__law_agrees : PySem.W.keepIn K (.ref f__law_agrees) = true)
    (a_restricted : PySem.W.nsIn K mainGlobals "restricted" = some (some (.ref f_restricted)))
    (l_restricted : K.lookup f_restricted = some ⟨oc_restricted, od_restricted, .func (PySem.W.fnOf "restricted" "restricted" (defArgs st_restricted) (defBody st_restricted) (defScope st_restricted) .none kV_restricted dc_restricted pm_restricted an_restricted cd_restricted ct_restricted), sl_restricted⟩)
    (cc_restricted : PySem.W.codeIn K cd_restricted "restricted" = true)
    (k_restricted : PySem.W.keepIn K (.ref f_restricted) = true)
    (a__law_partb : PySem.W.nsIn K mainGlobals "_law_partb" = some (some (.ref f__law_partb)))
    (l__law_partb : K.lookup f__law_partb = some ⟨oc__law_partb, od__law_partb, .func (PySem.W.fnOf "_law_partb" "_law_partb" (defArgs st__law_partb) (defBody st__law_partb) (defScope st__law_partb) .none kV__law_partb dc__law_partb pm__law_partb an__law_partb cd__law_partb ct__law_partb), sl__law_partb⟩)
    (cc__law_partb : PySem.W.codeIn K cd__law_partb "_law_partb" = true)
    (k__law_partb : PySem.W.keepIn K (.ref f__law_partb) = true)
    (a__law_draw : PySem.W.nsIn K mainGlobals "_law_draw" = some (some (.ref f__law_draw)))
    (l__law_draw : K.lookup f__law_draw = some ⟨oc__law_draw, od__law_draw, .func (PySem.W.fnOf "_law_draw" "_law_draw" (defArgs st__law_draw) (defBody st__law_draw) (defScope st__law_draw) .none kV__law_draw dc__law_draw pm__law_draw an__law_draw cd__law_draw ct__law_draw), sl__law_draw⟩)
    (cc__law_draw : PySem.W.codeIn K cd__law_draw "_law_draw" = true)
    (k__law_draw : PySem.W.keepIn K (.ref f__law_draw) = true)
    (a__law_pair : PySem.W.nsIn K mainGlobals "_law_pair" = some (some (.ref f__law_pair)))
    (l__law_pair : K.lookup f__law_pair = some ⟨oc__law_pair, od__law_pair, .func (PySem.W.fnOf "_law_pair" "_law_pair" (defArgs st__law_pair) (defBody st__law_pair) (defScope st__law_pair) .none kV__law_pair dc__law_pair pm__law_pair an__law_pair cd__law_pair ct__law_pair), sl__law_pair⟩)
    (cc__law_pair : PySem.W.codeIn K cd__law_pair "_law_pair" = true)
    (k__law_pair : PySem.W.keepIn K (.ref f__law_pair) = true)
    (a_SizesDiffer___init__ : PySem.W.findIn K (.ref C_SizesDiffer) "__init__" = some (some (.ref f_SizesDiffer___init__)))
    (l_SizesDiffer___init__ : K.lookup f_SizesDiffer___init__ = some ⟨oc_SizesDiffer___init__, od_SizesDiffer___init__, .func (PySem.W.fnOf "__init__" "SizesDiffer.__init__" (defArgs st_SizesDiffer___init__) (defBody st_SizesDiffer___init__) (defScope st_SizesDiffer___init__) .none kV_SizesDiffer___init__ dc_SizesDiffer___init__ pm_SizesDiffer___init__ an_SizesDiffer___init__ cd_SizesDiffer___init__ ct_SizesDiffer___init__), sl_SizesDiffer___init__⟩)
    (cc_SizesDiffer___init__ : PySem.W.codeIn K cd_SizesDiffer___init__ "SizesDiffer.__init__" = true)
    (k_SizesDiffer___init__ : PySem.W.keepIn K (.ref f_SizesDiffer___init__) = true)
    (a_joined : PySem.W.nsIn K mainGlobals "joined" = some (some (.ref f_joined)))
    (l_joined : K.lookup f_joined = some ⟨oc_joined, od_joined, .func (PySem.W.fnOf "joined" "joined" (defArgs st_joined) (defBody st_joined) (defScope st_joined) .none kV_joined dc_joined pm_joined an_joined cd_joined ct_joined), sl_joined⟩)
    (cc_joined : PySem.W.codeIn K cd_joined "joined" = true)
    (k_joined : PySem.W.keepIn K (.ref f_joined) = true)
    (a_Sight___or__ : PySem.W.findIn K (.ref C_Sight) "__or__" = some (some (.ref f_Sight___or__)))
    (l_Sight___or__ : K.lookup f_Sight___or__ = some ⟨oc_Sight___or__, od_Sight___or__, .func (PySem.W.fnOf "__or__" "Sight.__or__" (defArgs st_Sight___or__) (defBody st_Sight___or__) (defScope st_Sight___or__) .none kV_Sight___or__ dc_Sight___or__ pm_Sight___or__ an_Sight___or__ cd_Sight___or__ ct_Sight___or__), sl_Sight___or__⟩)
    (cc_Sight___or__ : PySem.W.codeIn K cd_Sight___or__ "Sight.__or__" = true)
    (k_Sight___or__ : PySem.W.keepIn K (.ref f_Sight___or__) = true)
    (fn_Sight___or__ : PySem.W.isFn K (.ref f_Sight___or__) = true)
    (a_Sight_nothing : PySem.W.findCls K (.ref C_Sight) (.type "type") "nothing" = some (.get (.builtin "classmethod.__get__") (.ref q_Sight_nothing) .none (.ref C_Sight)))
    (rc_Sight_nothing : PySem.W.recIn K q_Sight_nothing "classmethod" = some (.ref f_Sight_nothing :: rs_Sight_nothing))
    (fi_Sight_nothing : PySem.W.fnIn K f_Sight_nothing = true)
    (l_Sight_nothing : K.lookup f_Sight_nothing = some ⟨oc_Sight_nothing, od_Sight_nothing, .func (PySem.W.fnOf "nothing" "Sight.nothing" (defArgs st_Sight_nothing) (defBody st_Sight_nothing) (defScope st_Sight_nothing) .none kV_Sight_nothing dc_Sight_nothing pm_Sight_nothing an_Sight_nothing cd_Sight_nothing ct_Sight_nothing), sl_Sight_nothing⟩)
    (cc_Sight_nothing : PySem.W.codeIn K cd_Sight_nothing "Sight.nothing" = true)
    (k_Sight_nothing : PySem.W.keepIn K (.ref f_Sight_nothing) = true)
    (a_Sight___and__ : PySem.W.findIn K (.ref C_Sight) "__and__" = some (some (.ref f_Sight___and__)))
    (l_Sight___and__ : K.lookup f_Sight___and__ = some ⟨oc_Sight___and__, od_Sight___and__, .func (PySem.W.fnOf "__and__" "Sight.__and__" (defArgs st_Sight___and__) (defBody st_Sight___and__) (defScope st_Sight___and__) .none kV_Sight___and__ dc_Sight___and__ pm_Sight___and__ an_Sight___and__ cd_Sight___and__ ct_Sight___and__), sl_Sight___and__⟩)
    (cc_Sight___and__ : PySem.W.codeIn K cd_Sight___and__ "Sight.__and__" = true)
    (k_Sight___and__ : PySem.W.keepIn K (.ref f_Sight___and__) = true)
    (fn_Sight___and__ : PySem.W.isFn K (.ref f_Sight___and__) = true)
    (a_Sight_everything : PySem.W.findCls K (.ref C_Sight) (.type "type") "everything" = some (.get (.builtin "classmethod.__get__") (.ref q_Sight_everything) .none (.ref C_Sight)))
    (rc_Sight_everything : PySem.W.recIn K q_Sight_everything "classmethod" = some (.ref f_Sight_everything :: rs_Sight_everything))
    (fi_Sight_everything : PySem.W.fnIn K f_Sight_everything = true)
    (l_Sight_everything : K.lookup f_Sight_everything = some ⟨oc_Sight_everything, od_Sight_everything, .func (PySem.W.fnOf "everything" "Sight.everything" (defArgs st_Sight_everything) (defBody st_Sight_everything) (defScope st_Sight_everything) .none kV_Sight_everything dc_Sight_everything pm_Sight_everything an_Sight_everything cd_Sight_everything ct_Sight_everything), sl_Sight_everything⟩)
    (cc_Sight_everything : PySem.W.codeIn K cd_Sight_everything "Sight.everything" = true)
    (k_Sight_everything : PySem.W.keepIn K (.ref f_Sight_everything) = true)
    (a_Sight_alike : PySem.W.findIn K (.ref C_Sight) "alike" = some (some (.ref f_Sight_alike)))
    (l_Sight_alike : K.lookup f_Sight_alike = some ⟨oc_Sight_alike, od_Sight_alike, .func (PySem.W.fnOf "alike" "Sight.alike" (defArgs st_Sight_alike) (defBody st_Sight_alike) (defScope st_Sight_alike) .none kV_Sight_alike dc_Sight_alike pm_Sight_alike an_Sight_alike cd_Sight_alike ct_Sight_alike), sl_Sight_alike⟩)
    (cc_Sight_alike : PySem.W.codeIn K cd_Sight_alike "Sight.alike" = true)
    (k_Sight_alike : PySem.W.keepIn K (.ref f_Sight_alike) = true)
    (fn_Sight_alike : PySem.W.isFn K (.ref f_Sight_alike) = true)
    (a_unlike_pair : PySem.W.nsIn K mainGlobals "unlike_pair" = some (some (.ref f_unlike_pair)))
    (l_unlike_pair : K.lookup f_unlike_pair = some ⟨oc_unlike_pair, od_unlike_pair, .func (PySem.W.fnOf "unlike_pair" "unlike_pair" (defArgs st_unlike_pair) (defBody st_unlike_pair) (defScope st_unlike_pair) .none kV_unlike_pair dc_unlike_pair pm_unlike_pair an_unlike_pair cd_unlike_pair ct_unlike_pair), sl_unlike_pair⟩)
    (cc_unlike_pair : PySem.W.codeIn K cd_unlike_pair "unlike_pair" = true)
    (k_unlike_pair : PySem.W.keepIn K (.ref f_unlike_pair) = true)
    (a_tells : PySem.W.nsIn K mainGlobals "tells" = some (some (.ref f_tells)))
    (l_tells : K.lookup f_tells = some ⟨oc_tells, od_tells, .func (PySem.W.fnOf "tells" "tells" (defArgs st_tells) (defBody st_tells) (defScope st_tells) .none kV_tells dc_tells pm_tells an_tells cd_tells ct_tells), sl_tells⟩)
    (cc_tells : PySem.W.codeIn K cd_tells "tells" = true)
    (k_tells : PySem.W.keepIn K (.ref f_tells) = true)
    (a__law_asks : PySem.W.nsIn K mainGlobals "_law_asks" = some (some (.ref f__law_asks)))
    (l__law_asks : K.lookup f__law_asks = some ⟨oc__law_asks, od__law_asks, .func (PySem.W.fnOf "_law_asks" "_law_asks" (defArgs st__law_asks) (defBody st__law_asks) (defScope st__law_asks) .none kV__law_asks dc__law_asks pm__law_asks an__law_asks cd__law_asks ct__law_asks), sl__law_asks⟩)
    (cc__law_asks : PySem.W.codeIn K cd__law_asks "_law_asks" = true)
    (k__law_asks : PySem.W.keepIn K (.ref f__law_asks) = true)
    (a_Sight___eq__ : PySem.W.findIn K (.ref C_Sight) "__eq__" = some (some (.ref f_Sight___eq__)))
    (l_Sight___eq__ : K.lookup f_Sight___eq__ = some ⟨oc_Sight___eq__, od_Sight___eq__, .func (PySem.W.fnOf "__eq__" "Sight.__eq__" (defArgs st_Sight___eq__) (defBody st_Sight___eq__) (defScope st_Sight___eq__) .none kV_Sight___eq__ dc_Sight___eq__ pm_Sight___eq__ an_Sight___eq__ cd_Sight___eq__ ct_Sight___eq__), sl_Sight___eq__⟩)
    (cc_Sight___eq__ : PySem.W.codeIn K cd_Sight___eq__ "Sight.__eq__" = true)
    (k_Sight___eq__ : PySem.W.keepIn K (.ref f_Sight___eq__) = true)
    (fn_Sight___eq__ : PySem.W.isFn K (.ref f_Sight___eq__) = true)
    (a__law_error : PySem.W.nsIn K mainGlobals "_law_error" = some (some (.ref f__law_error)))
    (l__law_error : K.lookup f__law_error = some ⟨oc__law_error, od__law_error, .func (PySem.W.fnOf "_law_error" "_law_error" (defArgs st__law_error) (defBody st__law_error) (defScope st__law_error) .none kV__law_error dc__law_error pm__law_error an__law_error cd__law_error ct__law_error), sl__law_error⟩)
    (cc__law_error : PySem.W.codeIn K cd__law_error "_law_error" = true)
    (k__law_error : PySem.W.keepIn K (.ref f__law_error) = true)
    (a__law_differs : PySem.W.nsIn K mainGlobals "_law_differs" = some (some (.ref f__law_differs)))
    (l__law_differs : K.lookup f__law_differs = some ⟨oc__law_differs, od__law_differs, .func (PySem.W.fnOf "_law_differs" "_law_differs" (defArgs st__law_differs) (defBody st__law_differs) (defScope st__law_differs) .none kV__law_differs dc__law_differs pm__law_differs an__law_differs cd__law_differs ct__law_differs), sl__law_differs⟩)
    (cc__law_differs : PySem.W.codeIn K cd__law_differs "_law_differs" = true)
    (k__law_differs : PySem.W.keepIn K (.ref f__law_differs) = true)
    (a__law_parta : PySem.W.nsIn K mainGlobals "_law_parta" = some (some (.ref f__law_parta)))
    (l__law_parta : K.lookup f__law_parta = some ⟨oc__law_parta, od__law_parta, .func (PySem.W.fnOf "_law_parta" "_law_parta" (defArgs st__law_parta) (defBody st__law_parta) (defScope st__law_parta) .none kV__law_parta dc__law_parta pm__law_parta an__law_parta cd__law_parta ct__law_parta), sl__law_parta⟩)
    (cc__law_parta : PySem.W.codeIn K cd__law_parta "_law_parta" = true)
    (k__law_parta : PySem.W.keepIn K (.ref f__law_parta) = true)
    (a_law : PySem.W.nsIn K mainGlobals "law" = some (some (.ref f_law)))
    (l_law : K.lookup f_law = some ⟨oc_law, od_law, .func (PySem.W.fnOf "law" "law" (defArgs st_law) (defBody st_law) (defScope st_law) .none kV_law dc_law pm_law an_law cd_law ct_law), sl_law⟩)
    (cc_law : PySem.W.codeIn K cd_law "law" = true)
    (k_law : PySem.W.keepIn K (.ref f_law) = true)
    (rd_Sight : PySem.W.readsIn K C_Sight (.type "type") = true)
    (rg_Sight : PySem.W.specialIn K (.ref C_Sight) "__getattribute__" = some (some (.builtin "type.__getattribute__")))
    (sf_Sight : PySem.W.selfFirst K C_Sight = true)
    (x_NoDeals : PySem.W.excIn K C_NoDeals bmVE "ValueError.__new__" = true)
    (kc_NoDeals : PySem.W.keepIn K (.ref C_NoDeals) = true)
    (xl_SizesDiffer : K.lookup C_SizesDiffer = some (excClassObj nm_SizesDiffer qn_SizesDiffer C_SizesDiffer N_SizesDiffer bs_SizesDiffer bm_SizesDiffer true sn_SizesDiffer su_SizesDiffer ab_SizesDiffer co_SizesDiffer dd_SizesDiffer k0_SizesDiffer k1_SizesDiffer k2_SizesDiffer k3_SizesDiffer k5_SizesDiffer "ValueError.__new__"))
    (rv_SizesDiffer : PySem.HandSPX.refsVE bm_SizesDiffer = true)
    (sa_SizesDiffer : PySem.W.findIn K (.ref C_SizesDiffer) "__setattr__" = some (some (.builtin "object.__setattr__")))
    (kc_SizesDiffer : PySem.W.keepIn K (.ref C_SizesDiffer) = true)
    (xt_SizesDiffer___init__ : PySem.W.typeIn K (.ref f_SizesDiffer___init__) = some (.type "function"))
    (ne_SizesDiffer_one : PySem.W.findIn K (.ref C_SizesDiffer) "one" = some none)
    (ne_SizesDiffer_two : PySem.W.findIn K (.ref C_SizesDiffer) "two" = some none)
    (mk_Sight : PySem.W.makesIn K C_Sight = true)
    (fn_Sight___init__ : PySem.W.isFn K (.ref f_Sight___init__) = true)
    (kc_Sight : PySem.W.keepIn K (.ref C_Sight) = true)
    (na_Sight_marks : PySem.W.findIn K (.ref C_Sight) "marks" = some none)
    (na_Sight_size : PySem.W.findIn K (.ref C_Sight) "size" = some none)
    (z_ValueError : PySem.W.nsIn K mainGlobals "ValueError" = some none)
    (z_bool : PySem.W.nsIn K mainGlobals "bool" = some none)
    (z_int : PySem.W.nsIn K mainGlobals "int" = some none)
    (z_isinstance : PySem.W.nsIn K mainGlobals "isinstance" = some none)
    (z_len : PySem.W.nsIn K mainGlobals "len" = some none)
    (z_list : PySem.W.nsIn K mainGlobals "list" = some none)
    (z_max : PySem.W.nsIn K mainGlobals "max" = some none)
    (z_min : PySem.W.nsIn K mainGlobals "min" = some none)
    (z_range : PySem.W.nsIn K mainGlobals "range" = some none)
    (z_tuple : PySem.W.nsIn K mainGlobals "tuple" = some none)
    (z_zip : PySem.W.nsIn K mainGlobals "zip" = some none)
    (sub_NoneType_Sight : PySem.W.subIn K (.type "NoneType") (.ref C_Sight) = some false)
    (sub_NoneType_SizesDiffer : PySem.W.subIn K (.type "NoneType") (.ref C_SizesDiffer) = some false)
    (sub_NoneType_NoDeals : PySem.W.subIn K (.type "NoneType") (.ref C_NoDeals) = some false)
    (sub_NoneType_BadLength : PySem.W.subIn K (.type "NoneType") (.ref C_BadLength) = some false)
    (sub_bool_Sight : PySem.W.subIn K (.type "bool") (.ref C_Sight) = some false)
    (sub_bool_SizesDiffer : PySem.W.subIn K (.type "bool") (.ref C_SizesDiffer) = some false)
    (sub_bool_NoDeals : PySem.W.subIn K (.type "bool") (.ref C_NoDeals) = some false)
    (sub_bool_BadLength : PySem.W.subIn K (.type "bool") (.ref C_BadLength) = some false)
    (sub_int_Sight : PySem.W.subIn K (.type "int") (.ref C_Sight) = some false)
    (sub_int_SizesDiffer : PySem.W.subIn K (.type "int") (.ref C_SizesDiffer) = some false)
    (sub_int_NoDeals : PySem.W.subIn K (.type "int") (.ref C_NoDeals) = some false)
    (sub_int_BadLength : PySem.W.subIn K (.type "int") (.ref C_BadLength) = some false)
    (sub_str_Sight : PySem.W.subIn K (.type "str") (.ref C_Sight) = some false)
    (sub_str_SizesDiffer : PySem.W.subIn K (.type "str") (.ref C_SizesDiffer) = some false)
    (sub_str_NoDeals : PySem.W.subIn K (.type "str") (.ref C_NoDeals) = some false)
    (sub_str_BadLength : PySem.W.subIn K (.type "str") (.ref C_BadLength) = some false)
    (sub_list_Sight : PySem.W.subIn K (.type "list") (.ref C_Sight) = some false)
    (sub_list_SizesDiffer : PySem.W.subIn K (.type "list") (.ref C_SizesDiffer) = some false)
    (sub_list_NoDeals : PySem.W.subIn K (.type "list") (.ref C_NoDeals) = some false)
    (sub_list_BadLength : PySem.W.subIn K (.type "list") (.ref C_BadLength) = some false)
    (sub_tuple_Sight : PySem.W.subIn K (.type "tuple") (.ref C_Sight) = some false)
    (sub_tuple_SizesDiffer : PySem.W.subIn K (.type "tuple") (.ref C_SizesDiffer) = some false)
    (sub_tuple_NoDeals : PySem.W.subIn K (.type "tuple") (.ref C_NoDeals) = some false)
    (sub_tuple_BadLength : PySem.W.subIn K (.type "tuple") (.ref C_BadLength) = some false)
    (sub_Sight_SizesDiffer : PySem.W.subIn K (.ref C_Sight) (.ref C_SizesDiffer) = some false)
    (sub_Sight_NoDeals : PySem.W.subIn K (.ref C_Sight) (.ref C_NoDeals) = some false)
    (sub_Sight_BadLength : PySem.W.subIn K (.ref C_Sight) (.ref C_BadLength) = some false)
    (sub_Sight_list : PySem.W.subIn K (.ref C_Sight) (.type "list") = some false)
    (sub_Sight_tuple : PySem.W.subIn K (.ref C_Sight) (.type "tuple") = some false)
    (sub_Sight_int : PySem.W.subIn K (.ref C_Sight) (.type "int") = some false)
    (sub_Sight_bool : PySem.W.subIn K (.ref C_Sight) (.type "bool") = some false)
    (sub_Sight_ValueError : PySem.W.subIn K (.ref C_Sight) (.type "ValueError") = some false)
    (sub_NoDeals_SizesDiffer : PySem.W.subIn K (.ref C_NoDeals) (.ref C_SizesDiffer) = some false)
    (sub_NoDeals_BadLength : PySem.W.subIn K (.ref C_NoDeals) (.ref C_BadLength) = some false)
    (sub_NoDeals_Sight : PySem.W.subIn K (.ref C_NoDeals) (.ref C_Sight) = some false)
    (sub_NoDeals_list : PySem.W.subIn K (.ref C_NoDeals) (.type "list") = some false)
    (sub_NoDeals_tuple : PySem.W.subIn K (.ref C_NoDeals) (.type "tuple") = some false)
    (sub_NoDeals_int : PySem.W.subIn K (.ref C_NoDeals) (.type "int") = some false)
    (sub_NoDeals_bool : PySem.W.subIn K (.ref C_NoDeals) (.type "bool") = some false)
    (sub_NoDeals_ValueError : PySem.W.subIn K (.ref C_NoDeals) (.type "ValueError") = some true)
    (sub_SizesDiffer_NoDeals : PySem.W.subIn K (.ref C_SizesDiffer) (.ref C_NoDeals) = some false)
    (sub_SizesDiffer_BadLength : PySem.W.subIn K (.ref C_SizesDiffer) (.ref C_BadLength) = some false)
    (sub_SizesDiffer_Sight : PySem.W.subIn K (.ref C_SizesDiffer) (.ref C_Sight) = some false)
    (sub_SizesDiffer_list : PySem.W.subIn K (.ref C_SizesDiffer) (.type "list") = some false)
    (sub_SizesDiffer_tuple : PySem.W.subIn K (.ref C_SizesDiffer) (.type "tuple") = some false)
    (sub_SizesDiffer_int : PySem.W.subIn K (.ref C_SizesDiffer) (.type "int") = some false)
    (sub_SizesDiffer_bool : PySem.W.subIn K (.ref C_SizesDiffer) (.type "bool") = some false)
    (sub_SizesDiffer_ValueError : PySem.W.subIn K (.ref C_SizesDiffer) (.type "ValueError") = some true)
    (sub_NoDeals_DealError : PySem.W.subIn K (.ref C_NoDeals) (.ref C_DealError) = some true)
    (sub_SizesDiffer_DealError : PySem.W.subIn K (.ref C_SizesDiffer) (.ref C_DealError) = some true) :
    ∃ fd : FuncData, (∀ (s : Shared) (v : Value), BindsTo s fd ⟨[v], []⟩ [("_law_script", v)]) ∧ ∀ base : Heap, K.In base → base.Ns mainGlobals mg → FnOk P w K mg base (L2N.CX P w) 8 fa fd ["_law_script"] (spLaw K) := by
  have e := hfa.symm.trans (PySem.W.mg_of X G a_law)
  cases e
  have F__law_digits := fun_mk (st := st__law_digits) l__law_digits cc__law_digits k__law_digits
  have F__law_cell := fun_mk (st := st__law_cell) l__law_cell cc__law_cell k__law_cell
  have F__law_draw_x := fun_mk (st := st__law_draw_x) l__law_draw_x cc__law_draw_x k__law_draw_x
  have F__law_marks := fun_mk (st := st__law_marks) l__law_marks cc__law_marks k__law_marks
  have F_frozen := fun_mk (st := st_frozen) l_frozen cc_frozen k_frozen
  have F_numbered := fun_mk (st := st_numbered) l_numbered cc_numbered k_numbered
  have F_Sight___init__ := fun_mk (st := st_Sight___init__) l_Sight___init__ cc_Sight___init__ k_Sight___init__
  have F__law_deals := fun_mk (st := st__law_deals) l__law_deals cc__law_deals k__law_deals
  have F_crossed := fun_mk (st := st_crossed) l_crossed cc_crossed k_crossed
  have F__law_groups := fun_mk (st := st__law_groups) l__law_groups cc__law_groups k__law_groups
  have F_Sight_cells := fun_mk (st := st_Sight_cells) l_Sight_cells cc_Sight_cells k_Sight_cells
  have F__law_whole := fun_mk (st := st__law_whole) l__law_whole cc__law_whole k__law_whole
  have F__law_numbers := fun_mk (st := st__law_numbers) l__law_numbers cc__law_numbers k__law_numbers
  have F__law_agrees := fun_mk (st := st__law_agrees) l__law_agrees cc__law_agrees k__law_agrees
  have F_restricted := fun_mk (st := st_restricted) l_restricted cc_restricted k_restricted
  have F__law_partb := fun_mk (st := st__law_partb) l__law_partb cc__law_partb k__law_partb
  have F__law_draw := fun_mk (st := st__law_draw) l__law_draw cc__law_draw k__law_draw
  have F__law_pair := fun_mk (st := st__law_pair) l__law_pair cc__law_pair k__law_pair
  have F_SizesDiffer___init__ := fun_mk (st := st_SizesDiffer___init__) l_SizesDiffer___init__ cc_SizesDiffer___init__ k_SizesDiffer___init__
  have F_joined := fun_mk (st := st_joined) l_joined cc_joined k_joined
  have F_Sight___or__ := fun_mk (st := st_Sight___or__) l_Sight___or__ cc_Sight___or__ k_Sight___or__
  have F_Sight_nothing := fun_mk (st := st_Sight_nothing) l_Sight_nothing cc_Sight_nothing k_Sight_nothing
  have F_Sight___and__ := fun_mk (st := st_Sight___and__) l_Sight___and__ cc_Sight___and__ k_Sight___and__
  have F_Sight_everything := fun_mk (st := st_Sight_everything) l_Sight_everything cc_Sight_everything k_Sight_everything
  have F_Sight_alike := fun_mk (st := st_Sight_alike) l_Sight_alike cc_Sight_alike k_Sight_alike
  have F_unlike_pair := fun_mk (st := st_unlike_pair) l_unlike_pair cc_unlike_pair k_unlike_pair
  have F_tells := fun_mk (st := st_tells) l_tells cc_tells k_tells
  have F__law_asks := fun_mk (st := st__law_asks) l__law_asks cc__law_asks k__law_asks
  have F_Sight___eq__ := fun_mk (st := st_Sight___eq__) l_Sight___eq__ cc_Sight___eq__ k_Sight___eq__
  have F__law_error := fun_mk (st := st__law_error) l__law_error cc__law_error k__law_error
  have F__law_differs := fun_mk (st := st__law_differs) l__law_differs cc__law_differs k__law_differs
  have F__law_parta := fun_mk (st := st__law_parta) l__law_parta cc__law_parta k__law_parta
  have F_law := fun_mk (st := st_law) l_law cc_law k_law
  have B__law_digits := F__law_digits.binds (ps := ["_law_cell_here", "_law_sizes"]) fun _ _ _ _ _ _ us hl => match us, hl with | [_, _], _ => rfl
  have B__law_cell := F__law_cell.binds (ps := ["_law_script", "_law_k"]) fun _ _ _ _ _ _ us hl => match us, hl with | [_, _], _ => rfl
  have B__law_draw_x := F__law_draw_x.binds (ps := ["_law_script"]) fun _ _ _ _ _ _ us hl => match us, hl with | [_], _ => rfl
  have B__law_marks := F__law_marks.binds (ps := ["_law_marks_here"]) fun _ _ _ _ _ _ us hl => match us, hl with | [_], _ => rfl
  have B_frozen := F_frozen.binds (ps := ["value"]) fun _ _ _ _ _ _ us hl => match us, hl with | [_], _ => rfl
  have B_numbered := F_numbered.binds (ps := ["marks"]) fun _ _ _ _ _ _ us hl => match us, hl with | [_], _ => rfl
  have B_Sight___init__ := F_Sight___init__.binds (ps := ["self", "marks"]) fun _ _ _ _ _ _ us hl => match us, hl with | [_, _], _ => rfl
  have B__law_deals := F__law_deals.binds (ps := ["_law_script", "_law_size"]) fun _ _ _ _ _ _ us hl => match us, hl with | [_, _], _ => rfl
  have B_crossed := F_crossed.binds (ps := ["one", "two"]) fun _ _ _ _ _ _ us hl => match us, hl with | [_, _], _ => rfl
  have B__law_groups := F__law_groups.binds (ps := ["_law_row"]) fun _ _ _ _ _ _ us hl => match us, hl with | [_], _ => rfl
  have B_Sight_cells := F_Sight_cells.binds (ps := ["self"]) fun _ _ _ _ _ _ us hl => match us, hl with | [_], _ => rfl
  have B__law_whole := F__law_whole.binds (ps := ["_law_value"]) fun _ _ _ _ _ _ us hl => match us, hl with | [_], _ => rfl
  have B__law_numbers := F__law_numbers.binds (ps := ["_law_actual", "_law_due"]) fun _ _ _ _ _ _ us hl => match us, hl with | [_, _], _ => rfl
  have B__law_agrees := F__law_agrees.binds (ps := ["_law_actual", "_law_row"]) fun _ _ _ _ _ _ us hl => match us, hl with | [_, _], _ => rfl
  have B_restricted := F_restricted.binds (ps := ["sight", "deals"]) fun _ _ _ _ _ _ us hl => match us, hl with | [_, _], _ => rfl
  have B__law_partb := F__law_partb.binds (ps := ["_law_script"]) fun _ _ _ _ _ _ us hl => match us, hl with | [_], _ => rfl
  have B__law_draw := F__law_draw.binds (ps := ["_law_script"]) fun _ _ _ _ _ _ us hl => match us, hl with | [_], _ => rfl
  have B__law_pair := F__law_pair.binds (ps := ["_law_first", "_law_second"]) fun _ _ _ _ _ _ us hl => match us, hl with | [_, _], _ => rfl
  have B_SizesDiffer___init__ := F_SizesDiffer___init__.binds (ps := ["self", "one", "two"]) fun _ _ _ _ _ _ us hl => match us, hl with | [_, _, _], _ => rfl
  have B_joined := F_joined.binds (ps := ["one", "two"]) fun _ _ _ _ _ _ us hl => match us, hl with | [_, _], _ => rfl
  have B_Sight___or__ := F_Sight___or__.binds (ps := ["self", "other"]) fun _ _ _ _ _ _ us hl => match us, hl with | [_, _], _ => rfl
  have B_Sight_nothing := F_Sight_nothing.binds (ps := ["cls", "size"]) fun _ _ _ _ _ _ us hl => match us, hl with | [_, _], _ => rfl
  have B_Sight___and__ := F_Sight___and__.binds (ps := ["self", "other"]) fun _ _ _ _ _ _ us hl => match us, hl with | [_, _], _ => rfl
  have B_Sight_everything := F_Sight_everything.binds (ps := ["cls", "size"]) fun _ _ _ _ _ _ us hl => match us, hl with | [_, _], _ => rfl
  have B_Sight_alike := F_Sight_alike.binds (ps := ["self", "one", "two"]) fun _ _ _ _ _ _ us hl => match us, hl with | [_, _, _], _ => rfl
  have B_unlike_pair := F_unlike_pair.binds (ps := ["one", "two"]) fun _ _ _ _ _ _ us hl => match us, hl with | [_, _], _ => rfl
  have B_tells := F_tells.binds (ps := ["one", "two"]) fun _ _ _ _ _ _ us hl => match us, hl with | [_, _], _ => rfl
  have B__law_asks := F__law_asks.binds (ps := ["_law_one", "_law_two", "_law_due"]) fun _ _ _ _ _ _ us hl => match us, hl with | [_, _, _], _ => rfl
  have B_Sight___eq__ := F_Sight___eq__.binds (ps := ["self", "other"]) fun _ _ _ _ _ _ us hl => match us, hl with | [_, _], _ => rfl
  have B__law_error := F__law_error.binds (ps := ["_law_error_here", "_law_size", "_law_other"]) fun _ _ _ _ _ _ us hl => match us, hl with | [_, _, _], _ => rfl
  have B__law_differs := F__law_differs.binds (ps := ["_law_one", "_law_other", "_law_left", "_law_right"]) fun _ _ _ _ _ _ us hl => match us, hl with | [_, _, _, _], _ => rfl
  have B__law_parta := F__law_parta.binds (ps := ["_law_script"]) fun _ _ _ _ _ _ us hl => match us, hl with | [_], _ => rfl
  have B_law := F_law.binds (ps := ["_law_script"]) fun _ _ _ _ _ _ us hl => match us, hl with | [_], _ => rfl
  let T : Txt K mg := { c_DealError := C_DealError, g_DealError := PySem.W.mg_of X G n_DealError, c_NoDeals := C_NoDeals, g_NoDeals := PySem.W.mg_of X G n_NoDeals, c_SizesDiffer := C_SizesDiffer, g_SizesDiffer := PySem.W.mg_of X G n_SizesDiffer, c_BadLength := C_BadLength, g_BadLength := PySem.W.mg_of X G n_BadLength, c_Sight := C_Sight, g_Sight := PySem.W.mg_of X G n_Sight, ck_BadLength := ⟨ki_BadLength, kt_BadLength, ks_BadLength⟩, ck_DealError := ⟨ki_DealError, kt_DealError, ks_DealError⟩, ck_NoDeals := ⟨ki_NoDeals, kt_NoDeals, ks_NoDeals⟩, ck_Sight := ⟨ki_Sight, kt_Sight, ks_Sight⟩, ck_SizesDiffer := ⟨ki_SizesDiffer, kt_SizesDiffer, ks_SizesDiffer⟩, cl_Sight := ⟨pg_Sight, hd_Sight, po_Sight, sa_Sight⟩, ci_Sight := ⟨⟨pg_Sight, hd_Sight, po_Sight, sa_Sight⟩, fc_Sight, spc, tkc, mo_Sight⟩, ce_DealError := ⟨ga_DealError, gg_DealError, eb_DealError, hd_DealError, fc_DealError, spc, tkc, mo_DealError⟩, ce_NoDeals := ⟨ga_NoDeals, gg_NoDeals, eb_NoDeals, hd_NoDeals, fc_NoDeals, spc, tkc, mo_NoDeals⟩, ce_SizesDiffer := ⟨ga_SizesDiffer, gg_SizesDiffer, eb_SizesDiffer, hd_SizesDiffer, fc_SizesDiffer, spc, tkc, mo_SizesDiffer⟩, a__law_digits := f__law_digits, d__law_digits := _, F__law_digits := F__law_digits, b__law_digits := B__law_digits, g__law_digits := PySem.W.mg_of X G a__law_digits, a__law_cell := f__law_cell, d__law_cell := _, F__law_cell := F__law_cell, b__law_cell := B__law_cell, g__law_cell := PySem.W.mg_of X G a__law_cell, a__law_draw_x := f__law_draw_x, d__law_draw_x := _, F__law_draw_x := F__law_draw_x, b__law_draw_x := B__law_draw_x, g__law_draw_x := PySem.W.mg_of X G a__law_draw_x, a__law_marks := f__law_marks, d__law_marks := _, F__law_marks := F__law_marks, b__law_marks := B__law_marks, g__law_marks := PySem.W.mg_of X G a__law_marks, a_frozen := f_frozen, d_frozen := _, F_frozen := F_frozen, b_frozen := B_frozen, g_frozen := PySem.W.mg_of X G a_frozen, a_numbered := f_numbered, d_numbered := _, F_numbered := F_numbered, b_numbered := B_numbered, g_numbered := PySem.W.mg_of X G a_numbered, a_Sight___init__ := f_Sight___init__, d_Sight___init__ := _, F_Sight___init__ := F_Sight___init__, b_Sight___init__ := B_Sight___init__, a__law_deals := f__law_deals, d__law_deals := _, F__law_deals := F__law_deals, b__law_deals := B__law_deals, g__law_deals := PySem.W.mg_of X G a__law_deals, a_crossed := f_crossed, d_crossed := _, F_crossed := F_crossed, b_crossed := B_crossed, g_crossed := PySem.W.mg_of X G a_crossed, a__law_groups := f__law_groups, d__law_groups := _, F__law_groups := F__law_groups, b__law_groups := B__law_groups, g__law_groups := PySem.W.mg_of X G a__law_groups, a_Sight_cells := f_Sight_cells, d_Sight_cells := _, F_Sight_cells := F_Sight_cells, b_Sight_cells := B_Sight_cells, q_Sight_cells := q_Sight_cells, pr_Sight_cells := ⟨a_Sight_cells, pt_Sight_cells, pk_Sight_cells, ⟨_, rc_Sight_cells⟩⟩, a__law_whole := f__law_whole, d__law_whole := _, F__law_whole := F__law_whole, b__law_whole := B__law_whole, g__law_whole := PySem.W.mg_of X G a__law_whole, a__law_numbers := f__law_numbers, d__law_numbers := _, F__law_numbers := F__law_numbers, b__law_numbers := B__law_numbers, g__law_numbers := PySem.W.mg_of X G a__law_numbers, a__law_agrees := f__law_agrees, d__law_agrees := _, F__law_agrees := F__law_agrees, b__law_agrees := B__law_agrees, g__law_agrees := PySem.W.mg_of X G a__law_agrees, a_restricted := f_restricted, d_restricted := _, F_restricted := F_restricted, b_restricted := B_restricted, g_restricted := PySem.W.mg_of X G a_restricted, a__law_partb := f__law_partb, d__law_partb := _, F__law_partb := F__law_partb, b__law_partb := B__law_partb, g__law_partb := PySem.W.mg_of X G a__law_partb, a__law_draw := f__law_draw, d__law_draw := _, F__law_draw := F__law_draw, b__law_draw := B__law_draw, g__law_draw := PySem.W.mg_of X G a__law_draw, a__law_pair := f__law_pair, d__law_pair := _, F__law_pair := F__law_pair, b__law_pair := B__law_pair, g__law_pair := PySem.W.mg_of X G a__law_pair, a_SizesDiffer___init__ := f_SizesDiffer___init__, d_SizesDiffer___init__ := _, F_SizesDiffer___init__ := F_SizesDiffer___init__, b_SizesDiffer___init__ := B_SizesDiffer___init__, a_joined := f_joined, d_joined := _, F_joined := F_joined, b_joined := B_joined, g_joined := PySem.W.mg_of X G a_joined, a_Sight___or__ := f_Sight___or__, d_Sight___or__ := _, F_Sight___or__ := F_Sight___or__, b_Sight___or__ := B_Sight___or__, me_Sight___or__ := ⟨a_Sight___or__, fn_Sight___or__, k_Sight___or__⟩, a_Sight_nothing := f_Sight_nothing, d_Sight_nothing := _, F_Sight_nothing := F_Sight_nothing, b_Sight_nothing := B_Sight_nothing, q_Sight_nothing := q_Sight_nothing, cm_Sight_nothing := ⟨a_Sight_nothing, ⟨_, rc_Sight_nothing⟩, fi_Sight_nothing⟩, a_Sight___and__ := f_Sight___and__, d_Sight___and__ := _, F_Sight___and__ := F_Sight___and__, b_Sight___and__ := B_Sight___and__, me_Sight___and__ := ⟨a_Sight___and__, fn_Sight___and__, k_Sight___and__⟩, a_Sight_everything := f_Sight_everything, d_Sight_everything := _, F_Sight_everything := F_Sight_everything, b_Sight_everything := B_Sight_everything, q_Sight_everything := q_Sight_everything, cm_Sight_everything := ⟨a_Sight_everything, ⟨_, rc_Sight_everything⟩, fi_Sight_everything⟩, a_Sight_alike := f_Sight_alike, d_Sight_alike := _, F_Sight_alike := F_Sight_alike, b_Sight_alike := B_Sight_alike, me_Sight_alike := ⟨a_Sight_alike, fn_Sight_alike, k_Sight_alike⟩, a_unlike_pair := f_unlike_pair, d_unlike_pair := _, F_unlike_pair := F_unlike_pair, b_unlike_pair := B_unlike_pair, g_unlike_pair := PySem.W.mg_of X G a_unlike_pair, a_tells := f_tells, d_tells := _, F_tells := F_tells, b_tells := B_tells, g_tells := PySem.W.mg_of X G a_tells, a__law_asks := f__law_asks, d__law_asks := _, F__law_asks := F__law_asks, b__law_asks := B__law_asks, g__law_asks := PySem.W.mg_of X G a__law_asks, a_Sight___eq__ := f_Sight___eq__, d_Sight___eq__ := _, F_Sight___eq__ := F_Sight___eq__, b_Sight___eq__ := B_Sight___eq__, me_Sight___eq__ := ⟨a_Sight___eq__, fn_Sight___eq__, k_Sight___eq__⟩, a__law_error := f__law_error, d__law_error := _, F__law_error := F__law_error, b__law_error := B__law_error, g__law_error := PySem.W.mg_of X G a__law_error, a__law_differs := f__law_differs, d__law_differs := _, F__law_differs := F__law_differs, b__law_differs := B__law_differs, g__law_differs := PySem.W.mg_of X G a__law_differs, a__law_parta := f__law_parta, d__law_parta := _, F__law_parta := F__law_parta, b__law_parta := B__law_parta, g__law_parta := PySem.W.mg_of X G a__law_parta, a_law := fa, d_law := _, F_law := F_law, b_law := B_law, g_law := PySem.W.mg_of X G a_law, cr_Sight := ⟨rd_Sight, rg_Sight⟩, sf_Sight := sf_Sight, x0_NoDeals := ⟨x_NoDeals, kc_NoDeals, eb_NoDeals, kt_NoDeals⟩, xi_SizesDiffer := ⟨⟨_, _, _, _, _, _, _, _, _, _, _, _, _, _, _, xl_SizesDiffer, rv_SizesDiffer⟩, sa_SizesDiffer, eb_SizesDiffer, kt_SizesDiffer, kc_SizesDiffer⟩, xn_SizesDiffer := a_SizesDiffer___init__, xt_SizesDiffer := xt_SizesDiffer___init__, xf_SizesDiffer := (List.forall_mem_cons.mpr ⟨ne_SizesDiffer_one, (List.forall_mem_cons.mpr ⟨ne_SizesDiffer_two, (fun _ h => absurd h List.not_mem_nil)⟩)⟩), mk_Sight := ⟨mk_Sight, a_Sight___init__, fn_Sight___init__, kc_Sight⟩, na_Sight_marks := na_Sight_marks, na_Sight_size := na_Sight_size, ne_SizesDiffer_one := ne_SizesDiffer_one, ne_SizesDiffer_two := ne_SizesDiffer_two, z_ValueError := PySem.W.mg_none_of X G z_ValueError, z_bool := PySem.W.mg_none_of X G z_bool, z_int := PySem.W.mg_none_of X G z_int, z_isinstance := PySem.W.mg_none_of X G z_isinstance, z_len := PySem.W.mg_none_of X G z_len, z_list := PySem.W.mg_none_of X G z_list, z_max := PySem.W.mg_none_of X G z_max, z_min := PySem.W.mg_none_of X G z_min, z_range := PySem.W.mg_none_of X G z_range, z_tuple := PySem.W.mg_none_of X G z_tuple, z_zip := PySem.W.mg_none_of X G z_zip, sb_NoneType_Sight := sub_NoneType_Sight, sb_NoneType_SizesDiffer := sub_NoneType_SizesDiffer, sb_NoneType_NoDeals := sub_NoneType_NoDeals, sb_NoneType_BadLength := sub_NoneType_BadLength, sb_bool_Sight := sub_bool_Sight, sb_bool_SizesDiffer := sub_bool_SizesDiffer, sb_bool_NoDeals := sub_bool_NoDeals, sb_bool_BadLength := sub_bool_BadLength, sb_int_Sight := sub_int_Sight, sb_int_SizesDiffer := sub_int_SizesDiffer, sb_int_NoDeals := sub_int_NoDeals, sb_int_BadLength := sub_int_BadLength, sb_str_Sight := sub_str_Sight, sb_str_SizesDiffer := sub_str_SizesDiffer, sb_str_NoDeals := sub_str_NoDeals, sb_str_BadLength := sub_str_BadLength, sb_list_Sight := sub_list_Sight, sb_list_SizesDiffer := sub_list_SizesDiffer, sb_list_NoDeals := sub_list_NoDeals, sb_list_BadLength := sub_list_BadLength, sb_tuple_Sight := sub_tuple_Sight, sb_tuple_SizesDiffer := sub_tuple_SizesDiffer, sb_tuple_NoDeals := sub_tuple_NoDeals, sb_tuple_BadLength := sub_tuple_BadLength, sb_Sight_SizesDiffer := sub_Sight_SizesDiffer, sb_Sight_NoDeals := sub_Sight_NoDeals, sb_Sight_BadLength := sub_Sight_BadLength, sb_Sight_list := sub_Sight_list, sb_Sight_tuple := sub_Sight_tuple, sb_Sight_int := sub_Sight_int, sb_Sight_bool := sub_Sight_bool, sb_Sight_ValueError := sub_Sight_ValueError, sb_NoDeals_SizesDiffer := sub_NoDeals_SizesDiffer, sb_NoDeals_BadLength := sub_NoDeals_BadLength, sb_NoDeals_Sight := sub_NoDeals_Sight, sb_NoDeals_list := sub_NoDeals_list, sb_NoDeals_tuple := sub_NoDeals_tuple, sb_NoDeals_int := sub_NoDeals_int, sb_NoDeals_bool := sub_NoDeals_bool, sb_NoDeals_ValueError := sub_NoDeals_ValueError, sb_SizesDiffer_NoDeals := sub_SizesDiffer_NoDeals, sb_SizesDiffer_BadLength := sub_SizesDiffer_BadLength, sb_SizesDiffer_Sight := sub_SizesDiffer_Sight, sb_SizesDiffer_list := sub_SizesDiffer_list, sb_SizesDiffer_tuple := sub_SizesDiffer_tuple, sb_SizesDiffer_int := sub_SizesDiffer_int, sb_SizesDiffer_bool := sub_SizesDiffer_bool, sb_SizesDiffer_ValueError := sub_SizesDiffer_ValueError, sb_NoDeals_DealError := sub_NoDeals_DealError, sb_SizesDiffer_DealError := sub_SizesDiffer_DealError }
  exact ⟨T.d_law, fun s v => .of_eq rfl, fun base _ _ => law_ok T⟩
end K01
open PySem PySem.W PyProof.Rows
set_option maxRecDepth 100000 in
set_option maxHeartbeats 0 in
theorem PySem.Challenge.cw_manysights_k01_tells_restricted_crossed_holds : PySem.Challenge.rw_manysights_k01_tells_restricted_crossed.Holds := by
  w_on; o_law; k_head; (case hw => w_witness2)
  k_fill
  refine L2.walk_of (l := PySem.Challenge.rw_manysights_k01_tells_restricted_crossed) (n := 63) (k := 8) (x := "_law_script") (CX := fun w => L2N.CX PySem.Challenge.rw_manysights_k01_tells_restricted_crossed.prog w) (sp := fun w => K01.spLaw _) rfl (by decide) rfl ⟨rfl, by decide, by decide⟩ (fun w h Y => PySem.W.kIn_of Y) ?F (fun _ _ a ns hl _ hS => ⟨a, ns, rfl, hS, hl, fun _ => rfl⟩) (fun _ _ _ _ _ h => by
    obtain ⟨_, _, _, _, _, _, _, _, _, _, _, _, z⟩ := h
    exact z.elim)
  case F =>
    intro w mg fa h KX G hmg
    refine' K01.all_mk KX G hmg ?n_DealError ?n_NoDeals ?n_SizesDiffer ?n_BadLength ?n_Sight ?ki_BadLength ?kt_BadLength ?ks_BadLength ?ki_DealError ?kt_DealError ?ks_DealError ?ki_NoDeals ?kt_NoDeals ?ks_NoDeals ?ki_Sight ?kt_Sight ?ks_Sight ?ki_SizesDiffer ?kt_SizesDiffer ?ks_SizesDiffer ?pg_Sight ?hd_Sight ?po_Sight ?sa_Sight ?fc_Sight ?spc ?tkc ?mo_Sight ?ga_DealError ?gg_DealError ?eb_DealError ?hd_DealError ?fc_DealError ?mo_DealError ?ga_NoDeals ?gg_NoDeals ?eb_NoDeals ?hd_NoDeals ?fc_NoDeals ?mo_NoDeals ?ga_SizesDiffer ?gg_SizesDiffer ?eb_SizesDiffer ?hd_SizesDiffer ?fc_SizesDiffer ?mo_SizesDiffer ?a__law_digits ?l__law_digits ?cc__law_digits ?k__law_digits ?a__law_cell ?l__law_cell ?cc__law_cell ?k__law_cell ?a__law_draw_x ?l__law_draw_x ?cc__law_draw_x ?k__law_draw_x ?a__law_marks ?l__law_marks ?cc__law_marks ?k__law_marks ?a_frozen ?l_frozen ?cc_frozen ?k_frozen ?a_numbered ?l_numbered ?cc_numbered ?k_numbered ?a_Sight___init__ ?l_Sight___init__ ?cc_Sight___init__ ?k_Sight___init__ ?a__law_deals ?l__law_deals ?cc__law_deals ?k__law_deals ?a_crossed ?l_crossed ?cc_crossed ?k_crossed ?a__law_groups ?l__law_groups ?cc__law_groups ?k__law_groups ?a_Sight_cells ?rc_Sight_cells ?pt_Sight_cells ?pk_Sight_cells ?l_Sight_cells ?cc_Sight_cells ?k_Sight_cells ?a__law_whole ?l__law_whole ?cc__law_whole ?k__law_whole ?a__law_numbers ?l__law_numbers ?cc__law_numbers ?k__law_numbers ?a__law_agrees ?l__law_agrees ?cc__law_agrees ?k__law_agrees ?a_restricted ?l_restricted ?cc_restricted ?k_restricted ?a__law_partb ?l__law_partb ?cc__law_partb ?k__law_partb ?a__law_draw ?l__law_draw ?cc__law_draw ?k__law_draw ?a__law_pair ?l__law_pair ?cc__law_pair ?k__law_pair ?a_SizesDiffer___init__ ?l_SizesDiffer___init__ ?cc_SizesDiffer___init__ ?k_SizesDiffer___init__ ?a_joined ?l_joined ?cc_joined ?k_joined ?a_Sight___or__ ?l_Sight___or__ ?cc_Sight___or__ ?k_Sight___or__ ?fn_Sight___or__ ?a_Sight_nothing ?rc_Sight_nothing ?fi_Sight_nothing ?l_Sight_nothing ?cc_Sight_nothing ?k_Sight_nothing ?a_Sight___and__ ?l_Sight___and__ ?cc_Sight___and__ ?k_Sight___and__ ?fn_Sight___and__ ?a_Sight_everything ?rc_Sight_everything ?fi_Sight_everything ?l_Sight_everything ?cc_Sight_everything ?k_Sight_everything ?a_Sight_alike ?l_Sight_alike ?cc_Sight_alike ?k_Sight_alike ?fn_Sight_alike ?a_unlike_pair ?l_unlike_pair ?cc_unlike_pair ?k_unlike_pair ?a_tells ?l_tells ?cc_tells ?k_tells ?a__law_asks ?l__law_asks ?cc__law_asks ?k__law_asks ?a_Sight___eq__ ?l_Sight___eq__ ?cc_Sight___eq__ ?k_Sight___eq__ ?fn_Sight___eq__ ?a__law_error ?l__law_error ?cc__law_error ?k__law_error ?a__law_differs ?l__law_differs ?cc__law_differs ?k__law_differs ?a__law_parta ?l__law_parta ?cc__law_parta ?k__law_parta ?a_law ?l_law ?cc_law ?k_law ?rd_Sight ?rg_Sight ?sf_Sight ?x_NoDeals ?kc_NoDeals ?xl_SizesDiffer ?rv_SizesDiffer ?sa_SizesDiffer ?kc_SizesDiffer ?xt_SizesDiffer___init__ ?ne_SizesDiffer_one ?ne_SizesDiffer_two ?mk_Sight ?fn_Sight___init__ ?kc_Sight ?na_Sight_marks ?na_Sight_size ?z_ValueError ?z_bool ?z_int ?z_isinstance ?z_len ?z_list ?z_max ?z_min ?z_range ?z_tuple ?z_zip ?sub_NoneType_Sight ?sub_NoneType_SizesDiffer ?sub_NoneType_NoDeals ?sub_NoneType_BadLength ?sub_bool_Sight ?sub_bool_SizesDiffer ?sub_bool_NoDeals ?sub_bool_BadLength ?sub_int_Sight ?sub_int_SizesDiffer ?sub_int_NoDeals ?sub_int_BadLength ?sub_str_Sight ?sub_str_SizesDiffer ?sub_str_NoDeals ?sub_str_BadLength ?sub_list_Sight ?sub_list_SizesDiffer ?sub_list_NoDeals ?sub_list_BadLength ?sub_tuple_Sight ?sub_tuple_SizesDiffer ?sub_tuple_NoDeals ?sub_tuple_BadLength ?sub_Sight_SizesDiffer ?sub_Sight_NoDeals ?sub_Sight_BadLength ?sub_Sight_list ?sub_Sight_tuple ?sub_Sight_int ?sub_Sight_bool ?sub_Sight_ValueError ?sub_NoDeals_SizesDiffer ?sub_NoDeals_BadLength ?sub_NoDeals_Sight ?sub_NoDeals_list ?sub_NoDeals_tuple ?sub_NoDeals_int ?sub_NoDeals_bool ?sub_NoDeals_ValueError ?sub_SizesDiffer_NoDeals ?sub_SizesDiffer_BadLength ?sub_SizesDiffer_Sight ?sub_SizesDiffer_list ?sub_SizesDiffer_tuple ?sub_SizesDiffer_int ?sub_SizesDiffer_bool ?sub_SizesDiffer_ValueError ?sub_NoDeals_DealError ?sub_SizesDiffer_DealError
    (case n_DealError => k_is)
    (case n_NoDeals => k_is)
    (case n_SizesDiffer => k_is)
    (case n_BadLength => k_is)
    (case n_Sight => k_is)
    (case ki_BadLength => k_is)
    (case kt_BadLength => k_is)
    (case ks_BadLength => first | rfl | k_is)
    (case ki_DealError => k_is)
    (case kt_DealError => k_is)
    (case ks_DealError => first | rfl | k_is)
    (case ki_NoDeals => k_is)
    (case kt_NoDeals => k_is)
    (case ks_NoDeals => first | rfl | k_is)
    (case ki_Sight => k_is)
    (case kt_Sight => k_is)
    (case ks_Sight => first | rfl | k_is)
    (case ki_SizesDiffer => k_is)
    (case kt_SizesDiffer => k_is)
    (case ks_SizesDiffer => first | rfl | k_is)
    (case pg_Sight => k_is)
    (case hd_Sight => k_is)
    (case po_Sight => k_is)
    (case sa_Sight => k_is)
    (case fc_Sight => k_is)
    (case spc => k_is)
    (case tkc => k_is)
    (case mo_Sight => k_is)
    (case ga_DealError => k_is)
    (case gg_DealError => k_is)
    (case eb_DealError => k_is)
    (case hd_DealError => k_is)
    (case fc_DealError => k_is)
    (case mo_DealError => k_is)
    (case ga_NoDeals => k_is)
    (case gg_NoDeals => k_is)
    (case eb_NoDeals => k_is)
    (case hd_NoDeals => k_is)
    (case fc_NoDeals => k_is)
    (case mo_NoDeals => k_is)
    (case ga_SizesDiffer => k_is)
    (case gg_SizesDiffer => k_is)
    (case eb_SizesDiffer => k_is)
    (case hd_SizesDiffer => k_is)
    (case fc_SizesDiffer => k_is)
    (case mo_SizesDiffer => k_is)
    (case a__law_digits => k_is)
    (case l__law_digits => k_is)
    (case cc__law_digits => k_is)
    (case k__law_digits => k_is)
    (case a__law_cell => k_is)
    (case l__law_cell => k_is)
    (case cc__law_cell => k_is)
    (case k__law_cell => k_is)
    (case a__law_draw_x => k_is)
    (case l__law_draw_x => k_is)
    (case cc__law_draw_x => k_is)
    (case k__law_draw_x => k_is)
    (case a__law_marks => k_is)
    (case l__law_marks => k_is)
    (case cc__law_marks => k_is)
    (case k__law_marks => k_is)
    (case a_frozen => k_is)
    (case l_frozen => k_is)
    (case cc_frozen => k_is)
    (case k_frozen => k_is)
    (case a_numbered => k_is)
    (case l_numbered => k_is)
    (case cc_numbered => k_is)
    (case k_numbered => k_is)
    (case a_Sight___init__ => k_is)
    (case l_Sight___init__ => k_is)
    (case cc_Sight___init__ => k_is)
    (case k_Sight___init__ => k_is)
    (case a__law_deals => k_is)
    (case l__law_deals => k_is)
    (case cc__law_deals => k_is)
    (case k__law_deals => k_is)
    (case a_crossed => k_is)
    (case l_crossed => k_is)
    (case cc_crossed => k_is)
    (case k_crossed => k_is)
    (case a__law_groups => k_is)
    (case l__law_groups => k_is)
    (case cc__law_groups => k_is)
    (case k__law_groups => k_is)
    (case a_Sight_cells => k_is)
    (case rc_Sight_cells => k_is)
    (case pt_Sight_cells => k_is)
    (case pk_Sight_cells => k_is)
    (case l_Sight_cells => k_is)
    (case cc_Sight_cells => k_is)
    (case k_Sight_cells => k_is)
    (case a__law_whole => k_is)
    (case l__law_whole => k_is)
    (case cc__law_whole => k_is)
    (case k__law_whole => k_is)
    (case a__law_numbers => k_is)
    (case l__law_numbers => k_is)
    (case cc__law_numbers => k_is)
    (case k__law_numbers => k_is)
    (case a__law_agrees => k_is)
    (case l__law_agrees => k_is)
    (case cc__law_agrees => k_is)
    (case k__law_agrees => k_is)
    (case a_restricted => k_is)
    (case l_restricted => k_is)
    (case cc_restricted => k_is)
    (case k_restricted => k_is)
    (case a__law_partb => k_is)
    (case l__law_partb => k_is)
    (case cc__law_partb => k_is)
    (case k__law_partb => k_is)
    (case a__law_draw => k_is)
    (case l__law_draw => k_is)
    (case cc__law_draw => k_is)
    (case k__law_draw => k_is)
    (case a__law_pair => k_is)
    (case l__law_pair => k_is)
    (case cc__law_pair => k_is)
    (case k__law_pair => k_is)
    (case a_SizesDiffer___init__ => k_is)
    (case l_SizesDiffer___init__ => k_is)
    (case cc_SizesDiffer___init__ => k_is)
    (case k_SizesDiffer___init__ => k_is)
    (case a_joined => k_is)
    (case l_joined => k_is)
    (case cc_joined => k_is)
    (case k_joined => k_is)
    (case a_Sight___or__ => k_is)
    (case l_Sight___or__ => k_is)
    (case cc_Sight___or__ => k_is)
    (case k_Sight___or__ => k_is)
    (case fn_Sight___or__ => k_is)
    (case a_Sight_nothing => k_is)
    (case rc_Sight_nothing => k_is)
    (case fi_Sight_nothing => k_is)
    (case l_Sight_nothing => k_is)
    (case cc_Sight_nothing => k_is)
    (case k_Sight_nothing => k_is)
    (case a_Sight___and__ => k_is)
    (case l_Sight___and__ => k_is)
    (case cc_Sight___and__ => k_is)
    (case k_Sight___and__ => k_is)
    (case fn_Sight___and__ => k_is)
    (case a_Sight_everything => k_is)
    (case rc_Sight_everything => k_is)
    (case fi_Sight_everything => k_is)
    (case l_Sight_everything => k_is)
    (case cc_Sight_everything => k_is)
    (case k_Sight_everything => k_is)
    (case a_Sight_alike => k_is)
    (case l_Sight_alike => k_is)
    (case cc_Sight_alike => k_is)
    (case k_Sight_alike => k_is)
    (case fn_Sight_alike => k_is)
    (case a_unlike_pair => k_is)
    (case l_unlike_pair => k_is)
    (case cc_unlike_pair => k_is)
    (case k_unlike_pair => k_is)
    (case a_tells => k_is)
    (case l_tells => k_is)
    (case cc_tells => k_is)
    (case k_tells => k_is)
    (case a__law_asks => k_is)
    (case l__law_asks => k_is)
    (case cc__law_asks => k_is)
    (case k__law_asks => k_is)
    (case a_Sight___eq__ => k_is)
    (case l_Sight___eq__ => k_is)
    (case cc_Sight___eq__ => k_is)
    (case k_Sight___eq__ => k_is)
    (case fn_Sight___eq__ => k_is)
    (case a__law_error => k_is)
    (case l__law_error => k_is)
    (case cc__law_error => k_is)
    (case k__law_error => k_is)
    (case a__law_differs => k_is)
    (case l__law_differs => k_is)
    (case cc__law_differs => k_is)
    (case k__law_differs => k_is)
    (case a__law_parta => k_is)
    (case l__law_parta => k_is)
    (case cc__law_parta => k_is)
    (case k__law_parta => k_is)
    (case a_law => k_is)
    (case l_law => k_is)
    (case cc_law => k_is)
    (case k_law => k_is)
    (case rd_Sight => k_is)
    (case rg_Sight => k_is)
    (case sf_Sight => k_is)
    (case x_NoDeals => k_exc)
    (case kc_NoDeals => k_is)
    (case xl_SizesDiffer => k_is)
    (case rv_SizesDiffer => first | rfl | decide +kernel)
    (case sa_SizesDiffer => k_is)
    (case kc_SizesDiffer => k_is)
    (case xt_SizesDiffer___init__ => k_is)
    (case ne_SizesDiffer_one => k_is)
    (case ne_SizesDiffer_two => k_is)
    (case mk_Sight => k_is)
    (case fn_Sight___init__ => k_is)
    (case kc_Sight => k_is)
    (case na_Sight_marks => k_is)
    (case na_Sight_size => k_is)
    (case z_ValueError => k_is)
    (case z_bool => k_is)
    (case z_int => k_is)
    (case z_isinstance => k_is)
    (case z_len => k_is)
    (case z_list => k_is)
    (case z_max => k_is)
    (case z_min => k_is)
    (case z_range => k_is)
    (case z_tuple => k_is)
    (case z_zip => k_is)
    (case sub_NoneType_Sight => k_is)
    (case sub_NoneType_SizesDiffer => k_is)
    (case sub_NoneType_NoDeals => k_is)
    (case sub_NoneType_BadLength => k_is)
    (case sub_bool_Sight => k_is)
    (case sub_bool_SizesDiffer => k_is)
    (case sub_bool_NoDeals => k_is)
    (case sub_bool_BadLength => k_is)
    (case sub_int_Sight => k_is)
    (case sub_int_SizesDiffer => k_is)
    (case sub_int_NoDeals => k_is)
    (case sub_int_BadLength => k_is)
    (case sub_str_Sight => k_is)
    (case sub_str_SizesDiffer => k_is)
    (case sub_str_NoDeals => k_is)
    (case sub_str_BadLength => k_is)
    (case sub_list_Sight => k_is)
    (case sub_list_SizesDiffer => k_is)
    (case sub_list_NoDeals => k_is)
    (case sub_list_BadLength => k_is)
    (case sub_tuple_Sight => k_is)
    (case sub_tuple_SizesDiffer => k_is)
    (case sub_tuple_NoDeals => k_is)
    (case sub_tuple_BadLength => k_is)
    (case sub_Sight_SizesDiffer => k_is)
    (case sub_Sight_NoDeals => k_is)
    (case sub_Sight_BadLength => k_is)
    (case sub_Sight_list => k_is)
    (case sub_Sight_tuple => k_is)
    (case sub_Sight_int => k_is)
    (case sub_Sight_bool => k_is)
    (case sub_Sight_ValueError => k_is)
    (case sub_NoDeals_SizesDiffer => k_is)
    (case sub_NoDeals_BadLength => k_is)
    (case sub_NoDeals_Sight => k_is)
    (case sub_NoDeals_list => k_is)
    (case sub_NoDeals_tuple => k_is)
    (case sub_NoDeals_int => k_is)
    (case sub_NoDeals_bool => k_is)
    (case sub_NoDeals_ValueError => k_is)
    (case sub_SizesDiffer_NoDeals => k_is)
    (case sub_SizesDiffer_BadLength => k_is)
    (case sub_SizesDiffer_Sight => k_is)
    (case sub_SizesDiffer_list => k_is)
    (case sub_SizesDiffer_tuple => k_is)
    (case sub_SizesDiffer_int => k_is)
    (case sub_SizesDiffer_bool => k_is)
    (case sub_SizesDiffer_ValueError => k_is)
    (case sub_NoDeals_DealError => k_is)
    (case sub_SizesDiffer_DealError => k_is)

