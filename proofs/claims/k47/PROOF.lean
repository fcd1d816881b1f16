import PyProof.Rows.All
import Wide.All
import OpenK.AllK
import Wide.FinOn
import HandS.ForMost
import HandS.Exc
import HandS.IsInst
import HandS.Style
import HandS.TupAny
import HandS.WideBits
import HandS.Wide
import HandS.Deep
import HandS.SetFor
import HandS.Conv
import HandS.SortInts
import HandS.TupMul
import KE.KTupSum
import HandS.Zip
import HandS.EndBits
import KE.GoesEnum
import PyProof.ReprRoads
import PyProof.CallStr
import HandS.TryOnly
import Flt.Len
import PyProof.Rows.IntBool
import HandS.HeadHook3
import KE.GoesZip
import KE.DataMinMax
import KE.SortData
import HandS.List
import PyProof.Rows.Chain
import HandS.More
import PySem.Challenge.RW_shareones_k47_what_is_a_machine
section
set_option Elab.async false
set_option linter.all false
set_option maxRecDepth 100000
namespace DL
open PySem PySem.Spec PyProof.Rows L2

/-! ## data: what a value that nobody changes is worth -/
abbrev D := PyData
abbrev St := List (Option V)
def keyD : Key → D
  | .inl i => .int i
  | .inr z => .str z
/-- an exception's object of the class at C -/
def ExX (C a : Addr) : HO := .ext fun h => ∃ (oe : Obj) (vs : Array Value), h.get? a = some oe ∧ Zc (.ref C) none oe ∧ oe.data = .fields vs
mutual
inductive Rp (K : PySem.W.Frag) (F : Hp) : V → D → Prop
  | non : Rp K F .non .none
  | bl (b : Bool) : Rp K F (.bl b) (.bool b)
  | int (i : Int) : Rp K F (.int i) (.int i)
  | str (z : Str) : Rp K F (.str z) (.str z)
  | lst {p : Addr} {vs : List V} {ds : List D} : F p = some (.lst vs) → RpAll K F vs ds → Rp K F (.ref p) (.list ds)
  | tup {p : Addr} {vs : List V} {ds : List D} : SqT K F p vs → RpAll K F vs ds → Rp K F (.ref p) (.tuple ds)
  | scr {p : Addr} {vs : List V} {ds : List D} : SqL K F p vs → RpAll K F vs ds → Rp K F (.ref p) (.dict [(.none, .list ds)])
  | dic {p : Addr} {ps : List (Key × V)} {ds : List (D × D)} : Rd F p (.dK ps) → RpKv K F ps ds → Rp K F (.ref p) (.dict ds)
  | exc {p C : Addr} {z : Str} : F p = some (ExX C p) → PySem.W.nsIn K mainGlobals z = some (some (.ref C)) → Rp K F (.ref p) (.dict [(.none, .str z)])
inductive RpAll (K : PySem.W.Frag) (F : Hp) : List V → List D → Prop
  | nil : RpAll K F [] []
  | cons {v : V} {vs : List V} {d : D} {ds : List D} : Rp K F v d → RpAll K F vs ds → RpAll K F (v :: vs) (d :: ds)
inductive RpKv (K : PySem.W.Frag) (F : Hp) : List (Key × V) → List (D × D) → Prop
  | nil : RpKv K F [] []
  | cons {k : Key} {v : V} {ps : List (Key × V)} {d : D} {ds : List (D × D)} : Rp K F v d → RpKv K F ps ds → RpKv K F ((k, v) :: ps) ((keyD k, d) :: ds)
end

theorem same_tup {K : PySem.W.Frag} {F F' : Hp} {p : Addr} {vs : List V} (e : Same F F') (h : SqT K F p vs) : SqT K F' p vs := by
  rcases h with (h | ⟨o, h⟩) | h
  · exact .inl (.inl (e _ _ h))
  · exact .inl (.inr ⟨o, e _ _ h⟩)
  · exact .inr h
theorem same_rd {F F' : Hp} {p : Addr} {u : HO} (e : Same F F') (h : Rd F p u) : Rd F' p u := by
  rcases h with h | ⟨o, h⟩
  · exact .inl (e _ _ h)
  · exact .inr ⟨o, e _ _ h⟩
section
variable {K : PySem.W.Frag} {F F' : Hp}
mutual
theorem Rp.mono (e : Same F F') : ∀ (d : D) (v : V), Rp K F v d → Rp K F' v d
  | .none, _, h => by cases h; exact .non
  | .bool b, _, h => by cases h; exact .bl b
  | .int i, _, h => by cases h; exact .int i
  | .str z, _, h => by cases h; exact .str z
  | .list ds, _, h => by
    cases h with
    | lst h1 h2 => exact .lst (e _ _ h1) (RpAll.mono e ds _ h2)
  | .tuple ds, _, h => by
    cases h with
    | tup h1 h2 => exact .tup (same_tup e h1) (RpAll.mono e ds _ h2)
  | .dict ds, _, h => by
    cases h with
    | scr h1 h2 => exact .scr (e.seq h1) (RpAll.mono e _ _ h2)
    | dic h1 h2 => exact .dic (same_rd e h1) (RpKv.mono e ds _ h2)
    | exc h1 h2 => exact .exc (e _ _ h1) h2
theorem RpAll.mono (e : Same F F') : ∀ (ds : List D) (vs : List V), RpAll K F vs ds → RpAll K F' vs ds
  | [], _, h => by cases h; exact .nil
  | d :: ds, _, h => by
    cases h with
    | cons h1 h2 => exact .cons (Rp.mono e d _ h1) (RpAll.mono e ds _ h2)
theorem RpKv.mono (e : Same F F') : ∀ (ds : List (D × D)) (ps : List (Key × V)), RpKv K F ps ds → RpKv K F' ps ds
  | [], _, h => by cases h; exact .nil
  | d :: ds, _, h => by
    cases h with
    | cons h1 h2 => exact .cons (Rp.mono e _ _ h1) (RpKv.mono e ds _ h2)
end
end
theorem Rp.up {K : PySem.W.Frag} {F F' : Hp} {v : V} {d : D} (h : Rp K F v d) (e : Same F F') : Rp K F' v d := Rp.mono e d v h
theorem RpAll.up {K : PySem.W.Frag} {F F' : Hp} {vs : List V} {ds : List D} (h : RpAll K F vs ds) (e : Same F F') : RpAll K F' vs ds := RpAll.mono e ds vs h
theorem RpKv.up {K : PySem.W.Frag} {F F' : Hp} {vs : List (Key × V)} {ds : List (D × D)} (h : RpKv K F vs ds) (e : Same F F') : RpKv K F' vs ds := RpKv.mono e ds vs h
section
variable {K : PySem.W.Frag} {F F' : Hp}
theorem RpAll.length : ∀ {vs : List V} {ds : List D}, RpAll K F vs ds → vs.length = ds.length
  | _, _, .nil => rfl
  | _, _, .cons _ t => congrArg (· + 1) (RpAll.length t)
theorem RpAll.append : ∀ {vs : List V} {ds : List D} {ws : List V} {es : List D}, RpAll K F vs ds → RpAll K F ws es → RpAll K F (vs ++ ws) (ds ++ es)
  | _, _, _, _, .nil, s => s
  | _, _, _, _, .cons a t, s => .cons a (RpAll.append t s)
theorem RpAll.get : ∀ {vs : List V} {ds : List D} {i : Nat} {v : V}, RpAll K F vs ds → vs[i]? = some v → ∃ d, ds[i]? = some d ∧ Rp K F v d
  | _, _, _, _, .nil, e => by simp at e
  | _, _, 0, _, .cons a _, e => by simp at e; subst e; exact ⟨_, rfl, a⟩
  | _, _, i + 1, _, .cons _ t, e => by
    obtain ⟨d, h1, h2⟩ := RpAll.get (i := i) t (by simpa using e)
    exact ⟨d, by simpa using h1, h2⟩
theorem RpAll.getD : ∀ {vs : List V} {ds : List D} {i : Nat} {d : D}, RpAll K F vs ds → ds[i]? = some d → ∃ v, vs[i]? = some v ∧ Rp K F v d
  | _, _, _, _, .nil, e => by simp at e
  | _, _, 0, _, .cons a _, e => by simp at e; subst e; exact ⟨_, rfl, a⟩
  | _, _, i + 1, _, .cons _ t, e => by
    obtain ⟨d, h1, h2⟩ := RpAll.getD (i := i) t (by simpa using e)
    exact ⟨d, by simpa using h1, h2⟩
theorem RpAll.take : ∀ (n : Nat) {vs : List V} {ds : List D}, RpAll K F vs ds → RpAll K F (vs.take n) (ds.take n)
  | 0, _, _, _ => .nil
  | _ + 1, _, _, .nil => .nil
  | n + 1, _, _, .cons a t => .cons a (RpAll.take n t)
theorem RpAll.drop : ∀ (n : Nat) {vs : List V} {ds : List D}, RpAll K F vs ds → RpAll K F (vs.drop n) (ds.drop n)
  | 0, _, _, h => h
  | _ + 1, _, _, .nil => .nil
  | n + 1, _, _, .cons _ t => RpAll.drop n t
theorem RpAll.set : ∀ (n : Nat) {vs : List V} {ds : List D} {v : V} {d : D}, RpAll K F vs ds → Rp K F v d → RpAll K F (vs.set n v) (ds.set n d)
  | _, _, _, _, _, .nil, _ => .nil
  | 0, _, _, _, _, .cons _ t, h => .cons h t
  | n + 1, _, _, _, _, .cons a t, h => .cons a (RpAll.set n t h)
theorem RpAll.reverse : ∀ {vs : List V} {ds : List D}, RpAll K F vs ds → RpAll K F vs.reverse ds.reverse
  | _, _, .nil => .nil
  | _, _, .cons a t => by
    rw [List.reverse_cons, List.reverse_cons]
    exact (RpAll.reverse t).append (.cons a .nil)
theorem RpAll.flat : ∀ (k : Nat) {vs : List V} {ds : List D}, RpAll K F vs ds → RpAll K F (List.replicate k vs).flatten (List.replicate k ds).flatten
  | 0, _, _, _ => .nil
  | k + 1, _, _, h => by
    rw [List.replicate_succ, List.replicate_succ, List.flatten_cons, List.flatten_cons]
    exact h.append (RpAll.flat k h)
theorem RpAll.ints : ∀ (ns : List Int), RpAll K F (ns.map V.int) (ns.map PyData.int)
  | [] => .nil
  | n :: ns => .cons (.int n) (RpAll.ints ns)
/-- a list all of whose data are ints is a list of ints -/
theorem RpAll.ofInts : ∀ {ns : List Int} {vs : List V}, RpAll K F vs (ns.map PyData.int) → vs = ns.map V.int
  | [], _, h => by cases h; rfl
  | n :: ns, _, h => by
    cases h with
    | cons h1 h2 =>
      cases h1
      rw [RpAll.ofInts h2]
      rfl
theorem RpAll.ofStrs : ∀ {ns : List Str} {vs : List V}, RpAll K F vs (ns.map PyData.str) → vs = ns.map V.str
  | [], _, h => by cases h; rfl
  | n :: ns, _, h => by
    cases h with
    | cons h1 h2 =>
      cases h1
      rw [RpAll.ofStrs h2]
      rfl
theorem RpAll.strs : ∀ (ns : List Str), RpAll K F (ns.map V.str) (ns.map PyData.str)
  | [] => .nil
  | n :: ns => .cons (.str n) (RpAll.strs ns)
end

/-! ## what is changed by one owner: its content -/
inductive M where
  | lst (ds : List D)
  | ins (z : Str) (fs : List (Str × D))
inductive RpFs (K : PySem.W.Frag) (F : Hp) : List (Str × V) → List (Str × D) → Prop
  | nil : RpFs K F [] []
  | cons {k : Str} {v : V} {ps : List (Str × V)} {d : D} {ds : List (Str × D)} : Rp K F v d → RpFs K F ps ds → RpFs K F ((k, v) :: ps) ((k, d) :: ds)
theorem RpFs.up {K : PySem.W.Frag} {F F' : Hp} (e : Same F F') : ∀ {ps : List (Str × V)} {ds : List (Str × D)}, RpFs K F ps ds → RpFs K F' ps ds
  | _, _, .nil => .nil
  | _, _, .cons a t => .cons (a.up e) (RpFs.up e t)
/-- the object o holds the content m, its parts read in F -/
def MOk (K : PySem.W.Frag) (F : Hp) (o : HO) : M → Prop
  | .lst ds => ∃ vs, o = .lst vs ∧ RpAll K F vs ds
  | .ins z fs => ∃ C dx vs, PySem.W.nsIn K mainGlobals z = some (some (.ref C)) ∧ o = .ins C dx vs ∧ RpFs K F vs fs
theorem MOk.up {K : PySem.W.Frag} {F F' : Hp} {o : HO} : ∀ {m : M}, MOk K F o m → Same F F' → MOk K F' o m
  | .lst _, ⟨vs, e, h⟩, s => ⟨vs, e, h.up s⟩
  | .ins _ _, ⟨C, dx, vs, n, e, h⟩, s => ⟨C, dx, vs, n, e, RpFs.up s h⟩

/-- what stands in a slot: data that nobody changes; an object of this frame's own; a caller's object, lent to be changed -/
inductive Cell where
  | sh (d : D)
  | own (m : M)
  | io (m : M)
abbrev DSt := List (Option Cell)
def dat : DSt → Nat → Option Cell
  | [], _ => none
  | c :: _, 0 => c
  | _ :: t, i + 1 => dat t i
def dput : DSt → Nat → Option Cell → DSt
  | [], _, _ => []
  | _ :: t, 0, x => x :: t
  | c :: t, i + 1, x => c :: dput t i x
/-- the cells told one by one, ahead of what goes on -/
def nrm : DSt → (DSt → Prop) → Prop
  | [], k => k []
  | c :: t, k => nrm t fun t' => k (c :: t')
theorem nrm_eq : ∀ (r : DSt) (k : DSt → Prop), nrm r k = k r
  | [], _ => rfl
  | c :: t, k => nrm_eq t fun t' => k (c :: t')
theorem nrm_el {r : DSt} {k : DSt → Prop} (h : nrm r k) : k r := by rw [nrm_eq] at h; exact h
theorem dput_len (x : Option Cell) : ∀ (r : DSt) (i : Nat), (dput r i x).length = r.length
  | [], _ => rfl
  | _ :: _, 0 => rfl
  | _ :: t, i + 1 => congrArg (· + 1) (dput_len x t i)
theorem dat_put_ne {x : Option Cell} : ∀ {r : DSt} {i j : Nat}, i ≠ j → dat (dput r i x) j = dat r j
  | [], _, _, _ => rfl
  | _ :: _, 0, 0, h => absurd rfl h
  | _ :: _, 0, _ + 1, _ => rfl
  | _ :: _, _ + 1, 0, _ => rfl
  | _ :: t, i + 1, j + 1, h => dat_put_ne (r := t) (i := i) (j := j) (fun e => h (congrArg (· + 1) e))
theorem dat_put {x : Option Cell} : ∀ {r : DSt} {i : Nat} {c : Cell}, dat (dput r i x) i = some c → x = some c ∧ i < r.length
  | [], _, _, h => by cases h
  | _ :: _, 0, _, h => ⟨h, Nat.succ_pos _⟩
  | _ :: t, i + 1, _, h => ⟨(dat_put (r := t) (i := i) h).1, Nat.succ_lt_succ (dat_put (r := t) (i := i) h).2⟩
theorem dat_lt {c : Cell} : ∀ {r : DSt} {i : Nat}, dat r i = some c → i < r.length
  | [], _, h => by cases h
  | _ :: _, 0, _ => Nat.succ_pos _
  | _ :: t, i + 1, h => Nat.succ_lt_succ (dat_lt (r := t) (i := i) h)

/-- the world of a body: what stood at its begin: F0 the data, H0 all, A what it may change, io the lent ones by slot -/
structure Wd where
  F0 : Hp
  H0 : Hp
  A : Addr → Prop
  io : Nat → Addr → Prop

structure Rel (K : PySem.W.Frag) (W : Wd) (r : DSt) (F : Hp) (σ : St) (H : Hp) : Prop where
  sub : Same F H
  f0 : Same W.F0 F
  keep : ∀ b o, W.H0 b = some o → ¬ W.A b → H b = some o
  there : ∀ b, W.H0 b ≠ none → H b ≠ none
  new : ∀ b, F b ≠ none → W.F0 b ≠ none ∨ W.H0 b = none ∨ W.A b
  sh : ∀ i d, dat r i = some (Cell.sh d) → ∃ v, σ[i]? = some (some v) ∧ Rp K F v d
  own : ∀ i m, dat r i = some (Cell.own m) → ∃ a o, σ[i]? = some (some (V.ref a)) ∧ H a = some o ∧ F a = none ∧ MOk K F o m ∧ (W.A a ∨ W.H0 a = none)
  io : ∀ i m, dat r i = some (Cell.io m) → ∃ a o, σ[i]? = some (some (V.ref a)) ∧ H a = some o ∧ F a = none ∧ MOk K F o m ∧ W.io i a
  ioA : ∀ i a, W.io i a → W.A a
  sep : ∀ i j m n a, (dat r i = some (Cell.own m) ∨ dat r i = some (Cell.io m)) → (dat r j = some (Cell.own n) ∨ dat r j = some (Cell.io n)) → σ[i]? = some (some (V.ref a)) → σ[j]? = some (some (V.ref a)) → i = j
  len : r.length = σ.length

/-- more data stand, and new objects, all else as it was -/
structure Ext (F H F' H' : Hp) : Prop where
  f : Same F F'
  h : Same H H'
  s : Same F' H'
  new : ∀ b, F' b ≠ none → F b ≠ none ∨ H b = none
theorem ne_none {α : Type} {x : Option α} {y : α} (h : x = some y) : x ≠ none := by rw [h]; exact fun z => by cases z
theorem some_of {α : Type} {x : Option α} (h : x ≠ none) : ∃ y, x = some y := by
  cases x with
  | none => exact absurd rfl h
  | some y => exact ⟨y, rfl⟩
theorem Ext.refl {F H : Hp} (h : Same F H) : Ext F H F H := ⟨Same.refl _, Same.refl _, h, fun _ z => .inl z⟩
/-- F + a new object at p -/
theorem ext_new {F H : Hp} {p : Addr} {o : HO} (s : Same F H) (hp : H p = none) : Ext F H (upd F p o) (upd H p o) := by
  refine ⟨fun b u e => ?_, fun b u e => ?_, fun b u e => ?_, fun b e => ?_⟩
  · rw [upd_ne (ne_of_none (s _ _ e) hp)]; exact e
  · rw [upd_ne (ne_of_none e hp)]; exact e
  · by_cases hb : b = p
    · subst hb; rw [upd_same] at e ⊢; exact e
    · rw [upd_ne hb] at e ⊢; exact s _ _ e
  · by_cases hb : b = p
    · subst hb; exact .inr hp
    · rw [upd_ne hb] at e; exact .inl e
/-- H alone gets the new object -/
theorem ext_newH {F H : Hp} {p : Addr} {o : HO} (s : Same F H) (hp : H p = none) : Ext F H F (upd H p o) := by
  refine ⟨Same.refl _, fun b u e => ?_, fun b u e => ?_, fun b e => .inl e⟩
  · rw [upd_ne (ne_of_none e hp)]; exact e
  · rw [upd_ne (ne_of_none (s _ _ e) hp)]; exact s _ _ e
theorem Rel.ext {K : PySem.W.Frag} {W : Wd} {r : DSt} {F F' : Hp} {σ : St} {H H' : Hp} (R : Rel K W r F σ H) (e : Ext F H F' H') : Rel K W r F' σ H' := by
  have fn : ∀ {a : Addr} {o : HO}, H a = some o → F a = none → F' a = none := fun {a o} h n => by
    cases q : F' a with
    | none => rfl
    | some u =>
      rcases e.new a (ne_none q) with z | z
      · exact absurd n z
      · rw [h] at z; cases z
  refine ⟨e.s, R.f0.trans e.f, fun b o h1 h2 => e.h _ _ (R.keep b o h1 h2), fun b h => ?_, fun b h => ?_, fun i d h => ?_, fun i m h => ?_, fun i m h => ?_, R.ioA, R.sep, R.len⟩
  · obtain ⟨o, z⟩ := some_of (R.there b h)
    exact ne_none (e.h _ _ z)
  · rcases e.new b h with z | z
    · exact R.new b z
    · refine .inr (.inl ?_)
      cases q : W.H0 b with
      | none => rfl
      | some u => exact absurd z (R.there b (ne_none q))
  · obtain ⟨v, h1, h2⟩ := R.sh i d h
    exact ⟨v, h1, h2.up e.f⟩
  · obtain ⟨a, o, h1, h2, h3, h4, h5⟩ := R.own i m h
    exact ⟨a, o, h1, e.h _ _ h2, fn h2 h3, h4.up e.f, h5⟩
  · obtain ⟨a, o, h1, h2, h3, h4, h5⟩ := R.io i m h
    exact ⟨a, o, h1, e.h _ _ h2, fn h2 h3, h4.up e.f, h5⟩
end DL
end

section
set_option Elab.async false
set_option linter.all false
set_option maxRecDepth 100000
namespace DL
open PySem PySem.Spec PyProof.Rows L2

/-! ## readings over data -/
abbrev DTE := DSt → (D → DSt → Prop) → Prop
abbrev DTA := DSt → (List D → DSt → Prop) → Prop
abbrev DTT := DSt → (Bool → DSt → Prop) → Prop
abbrev DTO := DSt → (M → DSt → Prop) → Prop
/-- what is wanted of a value: its data -/
def Wish (K : PySem.W.Frag) (W : Wd) (σ : St) (F : Hp) (q : D → DSt → Prop) (Q : VK) : Prop :=
  ∀ d r' v F' H', q d r' → Rel K W r' F' σ H' → Same F F' → Rp K F' v d → Q v H'
def lift (K : PySem.W.Frag) (W : Wd) (t : DTE) : TE := fun σ H Q => ∃ r F q, Rel K W r F σ H ∧ t r q ∧ Wish K W σ F q Q
def liftA (K : PySem.W.Frag) (W : Wd) (t : DTA) : TA := fun σ H Q => ∃ r F q, Rel K W r F σ H ∧ t r q ∧ ∀ ds r' vs F' H', q ds r' → Rel K W r' F' σ H' → Same F F' → RpAll K F' vs ds → Q vs H'
def liftT (K : PySem.W.Frag) (W : Wd) (t : DTT) : TT := fun σ H Q => ∃ r F q, Rel K W r F σ H ∧ t r q ∧ ∀ b r' F' H', q b r' → Rel K W r' F' σ H' → Same F F' → Q b H'
/-- the address is no slot's -/
def Apart (r : DSt) (σ : St) (a : Addr) : Prop := ∀ i m, (dat r i = some (Cell.own m) ∨ dat r i = some (Cell.io m)) → σ[i]? ≠ some (some (V.ref a))
def liftO (K : PySem.W.Frag) (W : Wd) (t : DTO) : TE := fun σ H Q => ∃ r F q, Rel K W r F σ H ∧ t r q ∧
  ∀ m r' a o F' H', q m r' → Rel K W r' F' σ H' → Same F F' → H' a = some o → F' a = none → MOk K F' o m → W.H0 a = none → Apart r' σ a → Q (.ref a) H'
structure DE (X : Cx) (e : Expr) (t : DTE) : Prop where
  run : ∀ W, PE X e (lift X.K W t)
structure DA (X : Cx) (es : List Expr) (t : DTA) : Prop where
  run : ∀ W, PA X es (liftA X.K W t)
structure DT (X : Cx) (e : Expr) (t : DTT) : Prop where
  run : ∀ W, PT X e (liftT X.K W t)
structure DW (X : Cx) (e : Expr) (t : DTT) : Prop where
  run : ∀ W, PW X e (liftT X.K W t)
structure DO (X : Cx) (e : Expr) (t : DTO) : Prop where
  run : ∀ W, PE X e (liftO X.K W t)
theorem pe_weak {X : Cx} {e : Expr} {t t' : TE} (h : PE X e t) (w : ∀ σ H Q, t' σ H Q → t σ H Q) : PE X e t' := ⟨fun pins s σ H Q I q => h.run pins s σ H Q I (w σ H Q q)⟩
theorem pa_weak {X : Cx} {e : List Expr} {t t' : TA} (h : PA X e t) (w : ∀ σ H Q, t' σ H Q → t σ H Q) : PA X e t' := ⟨fun pos pins s σ H Q I q => h.run pos pins s σ H Q I (w σ H Q q)⟩
theorem pt_weak {X : Cx} {e : Expr} {t t' : TT} (h : PT X e t) (w : ∀ σ H Q, t' σ H Q → t σ H Q) : PT X e t' := ⟨fun pins s σ H Q I q => h.run pins s σ H Q I (w σ H Q q)⟩
theorem pw_weak {X : Cx} {e : Expr} {t t' : TT} (h : PW X e t) (w : ∀ σ H Q, t' σ H Q → t σ H Q) : PW X e t' := ⟨fun wh pins s σ H Q I q => h.run wh pins s σ H Q I (w σ H Q q)⟩
theorem ps_weak {X : Cx} {e : Stmt} {t t' : TS} (h : PS X e t) (w : ∀ D σ H, t' D σ H → t D σ H) : PS X e t' := ⟨fun pins s σ H D I q => h.run pins s σ H D I (w D σ H q)⟩
theorem pss_weak {X : Cx} {e : List Stmt} {t t' : TS} (h : PSs X e t) (w : ∀ D σ H, t' D σ H → t D σ H) : PSs X e t' := ⟨fun pins s σ H D I q => h.run pins s σ H D I (w D σ H q)⟩
theorem pg_weak {X : Cx} {e : Expr} {t t' : TG} (h : PG X e t) (w : ∀ v σ H Q, t' v σ H Q → t v σ H Q) : PG X e t' := ⟨fun pins s σ H v u Q I rv q => h.run pins s σ H v u Q I rv (w v σ H Q q)⟩
theorem pgs_weak {X : Cx} {e : List Expr} {t t' : TGs} (h : PGs X e t) (w : ∀ v σ H Q, t' v σ H Q → t v σ H Q) : PGs X e t' := ⟨fun pins s σ H v u Q I rv q => h.run pins s σ H v u Q I rv (w v σ H Q q)⟩
theorem pi_weak {X : Cx} {tg e : Expr} {t t' : TI} (h : PI X tg e t) (w : ∀ σ H Q, t' σ H Q → t σ H Q) : PI X tg e t' := ⟨fun pins s σ H Q I q => h.run pins s σ H Q I (w σ H Q q)⟩

/-! ## names -/
theorem dat_put_same {x : Option Cell} : ∀ {r : DSt} {i : Nat}, i < r.length → dat (dput r i x) i = x
  | [], _, h => absurd h (Nat.not_lt_zero _)
  | _ :: _, 0, _ => rfl
  | _ :: t, i + 1, h => dat_put_same (r := t) (i := i) (Nat.lt_of_succ_lt_succ h)
/-- an owner gives its list away: it's data from now on -/
theorem Rel.freeze {K : PySem.W.Frag} {W : Wd} {r : DSt} {F : Hp} {σ : St} {H : Hp} {i : Nat} {ds : List D} (R : Rel K W r F σ H) (h : dat r i = some (Cell.own (.lst ds))) :
    ∃ a vs, σ[i]? = some (some (V.ref a)) ∧ Same F (upd F a (.lst vs)) ∧ Rel K W (dput r i (some (Cell.sh (.list ds)))) (upd F a (.lst vs)) σ H ∧ Rp K (upd F a (.lst vs)) (.ref a) (.list ds) := by
  obtain ⟨a, o, h1, h2, h3, ⟨vs, rfl, h4⟩, h5⟩ := R.own i _ h
  have sF : Same F (upd F a (.lst vs)) := fun b u e => by rw [upd_ne (ne_of_none e h3)]; exact e
  have rp : Rp K (upd F a (.lst vs)) (.ref a) (.list ds) := .lst upd_same (h4.up sF)
  have oth : ∀ {j : Nat} {c : Cell}, dat (dput r i (some (Cell.sh (.list ds)))) j = some c → (∀ d, c ≠ Cell.sh d) → j ≠ i ∧ dat r j = some c := fun {j c} e ne => by
    by_cases hj : i = j
    · subst hj
      have q := (dat_put e).1
      cases q
      exact absurd rfl (ne _)
    · rw [dat_put_ne hj] at e
      exact ⟨fun z => hj z.symm, e⟩
  refine ⟨a, vs, h1, sF, ⟨fun b u e => ?_, R.f0.trans sF, R.keep, R.there, fun b e => ?_, fun j d e => ?_, fun j m e => ?_, fun j m e => ?_, R.ioA, fun j k m n p e1 e2 e3 e4 => ?_, ?_⟩, rp⟩
  · by_cases hb : b = a
    · subst hb; rw [upd_same] at e; cases e; exact h2
    · rw [upd_ne hb] at e; exact R.sub _ _ e
  · by_cases hb : b = a
    · subst hb
      rcases h5 with z | z
      · exact .inr (.inr z)
      · exact .inr (.inl z)
    · rw [upd_ne hb] at e; exact R.new b e
  · by_cases hj : i = j
    · subst hj
      have q := (dat_put e).1
      cases q
      exact ⟨_, h1, rp⟩
    · rw [dat_put_ne hj] at e
      obtain ⟨v, e1, e2⟩ := R.sh j d e
      exact ⟨v, e1, e2.up sF⟩
  · obtain ⟨hj, e⟩ := oth e (fun d z => by cases z)
    obtain ⟨b, u, e1, e2, e3, e4, e5⟩ := R.own j m e
    have hb : b ≠ a := fun z => hj (R.sep j i _ _ a (.inl e) (.inl h) (z ▸ e1) h1)
    exact ⟨b, u, e1, e2, by rw [upd_ne hb]; exact e3, e4.up sF, e5⟩
  · obtain ⟨hj, e⟩ := oth e (fun d z => by cases z)
    obtain ⟨b, u, e1, e2, e3, e4, e5⟩ := R.io j m e
    have hb : b ≠ a := fun z => hj (R.sep j i _ _ a (.inr e) (.inl h) (z ▸ e1) h1)
    exact ⟨b, u, e1, e2, by rw [upd_ne hb]; exact e3, e4.up sF, e5⟩
  · have f1 : dat r j = some (Cell.own m) ∨ dat r j = some (Cell.io m) := by
      rcases e1 with e | e
      · exact .inl (oth e (fun d z => by cases z)).2
      · exact .inr (oth e (fun d z => by cases z)).2
    have f2 : dat r k = some (Cell.own n) ∨ dat r k = some (Cell.io n) := by
      rcases e2 with e | e
      · exact .inl (oth e (fun d z => by cases z)).2
      · exact .inr (oth e (fun d z => by cases z)).2
    exact R.sep j k m n p f1 f2 e3 e4
  · rw [dput_len]; exact R.len
def eVar (i : Nat) : DTE := fun r q => match dat r i with
  | some (.sh d) => q d r
  | some (.own (.lst ds)) => q (.list ds) (dput r i (some (.sh (.list ds))))
  | _ => False
section
variable {X : Cx}
theorem d_var (i : Nat) {x : Str} {pos : Pos} (hN : X.N[i]? = some x := by rfl) (hv : Vis X.env.scope x := by first | exact Or.inl rfl | exact Or.inr (Or.inl rfl) | exact Or.inr (Or.inr rfl)) (hd : (x == ("__debug__" : Str)) = false := by decide)
    (hcd : (x == ("__classdict__" : Str)) = false := by decide) : DE X (.Name x pos) (eVar i) := by
  refine ⟨fun W => pe_weak (pe_var hN hv hd hcd) fun σ H Q h => ?_⟩
  obtain ⟨r, F, q, R, t, w⟩ := h
  unfold eVar at t
  cases e : dat r i with
  | none => rw [e] at t; exact t.elim
  | some c =>
    rw [e] at t
    cases c with
    | sh d =>
      obtain ⟨v, e1, e2⟩ := R.sh i d e
      exact ⟨v, e1, w d r v F H t R (Same.refl _) e2⟩
    | own m =>
      cases m with
      | lst ds =>
        obtain ⟨a, vs, e1, e2, e3, e4⟩ := R.freeze e
        exact ⟨_, e1, w _ _ _ _ _ t e3 e2 e4⟩
      | ins C fs => exact t.elim
    | io m => exact t.elim
/-! ## constants -/
def eC (d : D) : DTE := fun r q => q d r
theorem d_const {e : Expr} {v : V} {d : D} (h : PE X e (tC v)) (hr : ∀ F, Rp X.K F v d) : DE X e (eC d) := by
  refine ⟨fun W => pe_weak h fun σ H Q h => ?_⟩
  obtain ⟨r, F, q, R, t, w⟩ := h
  exact w d r v F H t R (Same.refl _) (hr F)
theorem d_int {i : Int} {j : Nat} {pos : Pos} : DE X (.Constant (.int i) j pos) (eC (.int i)) := d_const pe_int fun _ => .int i
theorem d_bl {b : Bool} {j : Nat} {pos : Pos} : DE X (.Constant (.bool b) j pos) (eC (.bool b)) := d_const pe_bl fun _ => .bl b
theorem d_non {j : Nat} {pos : Pos} : DE X (.Constant .none j pos) (eC .none) := d_const pe_non fun _ => .non
theorem d_str {z : Str} {j : Nat} {pos : Pos} : DE X (.Constant (.str z) j pos) (eC (.str z)) := d_const pe_str fun _ => .str z
/-- a constant of the module -/
theorem d_glob {x : Str} {pos : Pos} {v : V} {u : Value} {d : D} (hg : Gl X x) (hm : X.mg x = some u) (r : RelV v u) (hr : ∀ F, Rp X.K F v d) (hd : (x == ("__debug__" : Str)) = false := by decide) : DE X (.Name x pos) (eC d) := d_const (pe_glob hg hm r hd) hr

/-! ## operators on values -/
/-- the reading q of data, as a reading of values -/
def Fin2 (K : PySem.W.Frag) (F H : Hp) (q : D → Prop) (Q : VK) : Prop := ∀ d v F' H', q d → Ext F H F' H' → Rp K F' v d → Q v H'
abbrev P1 := D → (D → Prop) → Prop
abbrev P2 := D → D → (D → Prop) → Prop
abbrev PN := List D → (D → Prop) → Prop
def VOp (K : PySem.W.Frag) (r : R2) (p : P2) : Prop := ∀ F H x y dx dy q Q, Same F H → Rp K F x dx → Rp K F y dy → p dx dy q → Fin2 K F H q Q → r x y H Q
def VUn (K : PySem.W.Frag) (r : V → Hp → VK → Prop) (p : P1) : Prop := ∀ F H x dx q Q, Same F H → Rp K F x dx → p dx q → Fin2 K F H q Q → r x H Q
def VCall (K : PySem.W.Frag) (r : List V → Hp → VK → Prop) (p : PN) : Prop := ∀ F H xs ds q Q, Same F H → RpAll K F xs ds → p ds q → Fin2 K F H q Q → r xs H Q
def eOp2 (p : P2) (ta tb : DTE) : DTE := fun r q => ta r fun x r1 => tb r1 fun y r2 => p x y fun d => q d r2
def eOp1 (p : P1) (ta : DTE) : DTE := fun r q => ta r fun x r1 => p x fun d => q d r1
def eCall (p : PN) (ta : DTA) : DTE := fun r q => ta r fun xs r1 => p xs fun d => q d r1
theorem op2_weak {K : PySem.W.Frag} {W : Wd} {r2 : R2} {p : P2} {ta tb : DTE} (hv : VOp K r2 p) (σ : St) (H : Hp) (Q : VK) (h : lift K W (eOp2 p ta tb) σ H Q) : tOp r2 (lift K W ta) (lift K W tb) σ H Q := by
  obtain ⟨r, F, q, R, t, w⟩ := h
  refine ⟨r, F, _, R, t, fun dx r1 v1 F1 H1 t1 R1 s1 p1 => ⟨r1, F1, _, R1, t1, fun dy rr v2 F2 H2 t2 R2' s2 p2 => ?_⟩⟩
  exact hv F2 H2 v1 v2 dx dy _ Q R2'.sub (p1.up s2) p2 t2 fun d v F' H' qd e rp => w d rr v F' H' qd (R2'.ext e) (s1.trans (s2.trans e.f)) rp
theorem d_op {op : Operator} {r2 : R2} {p : P2} {a b : Expr} {ta tb : DTE} {pos : Pos} (ho : OpR X (binaryOp op) r2) (hv : VOp X.K r2 p) (ha : DE X a ta) (hb : DE X b tb) : DE X (.BinOp a op b pos) (eOp2 p ta tb) :=
  ⟨fun W => pe_weak (pe_op ho (ha.run W) (hb.run W)) (op2_weak hv)⟩
theorem d_cmp {op : CmpOp} {r2 : R2} {p : P2} {a b : Expr} {ta tb : DTE} {pos : Pos} (ho : OpR X (compareOp op) r2) (hv : VOp X.K r2 p) (ha : DE X a ta) (hb : DE X b tb) (hm : behindInMarks op b = false) : DE X (.Compare a [op] [b] pos) (eOp2 p ta tb) :=
  ⟨fun W => pe_weak (pe_cmpR ho (ha.run W) (hb.run W) hm) (op2_weak hv)⟩
theorem d_un {op : UnaryOp} {r1 : V → Hp → VK → Prop} {p : P1} {a : Expr} {ta : DTE} {pos : Pos} (ho : UnR X (unaryOp op) r1) (hv : VUn X.K r1 p) (ha : DE X a ta) : DE X (.UnaryOp op a pos) (eOp1 p ta) := by
  refine ⟨fun W => pe_weak (pe_un ho (ha.run W)) fun σ H Q h => ?_⟩
  obtain ⟨r, F, q, R, t, w⟩ := h
  refine ⟨r, F, _, R, t, fun dx r1 v1 F1 H1 t1 R1 s1 p1 => ?_⟩
  exact hv F1 H1 v1 dx _ Q R1.sub p1 t1 fun d v F' H' qd e rp => w d r1 v F' H' qd (R1.ext e) (s1.trans e.f) rp
theorem call_weak {K : PySem.W.Frag} {W : Wd} {rc : List V → Hp → VK → Prop} {p : PN} {ta : DTA} (hv : VCall K rc p) (σ : St) (H : Hp) (Q : VK) (h : lift K W (eCall p ta) σ H Q) : tCB rc (liftA K W ta) σ H Q := by
  obtain ⟨r, F, q, R, t, w⟩ := h
  refine ⟨r, F, _, R, t, fun dx r1 v1 F1 H1 t1 R1 s1 p1 => ?_⟩
  exact hv F1 H1 v1 dx _ Q R1.sub p1 t1 fun d v F' H' qd e rp => w d r1 v F' H' qd (R1.ext e) (s1.trans e.f) rp
theorem d_callB {id : String} {x : Str} {pp pos : Pos} {e : Expr} {es : List Expr} {rc : List V → Hp → VK → Prop} {p : PN} {ta : DTA} (hc : CallR X (.builtin id) rc) (hv : VCall X.K rc p) (hg : Gl X x) (hm : X.mg x = none) (hb : bootBuiltins x = some (.builtin id)) (ha : DA X (e :: es) ta)
    (hn : x ≠ "__name__" := by decide) (hdb : (x == ("__debug__" : Str)) = false := by decide) (he : starEach (e :: es) X.env = (false, eval e X.env) :: starEach es X.env := by rfl) (hpl : (backTo pos (starEach es X.env)).any (·.1) = false := by rfl) :
    DE X (.Call (.Name x pp) (e :: es) [] pos) (eCall p ta) :=
  ⟨fun W => pe_weak (pe_callB hc hg hm hb (ha.run W) hn hdb he hpl) (call_weak hv)⟩
theorem d_callTy {id : String} {x : Str} {pp pos : Pos} {e : Expr} {es : List Expr} {rc : List V → Hp → VK → Prop} {p : PN} {ta : DTA} (hc : CallR X (.type id) rc) (hv : VCall X.K rc p) (hg : Gl X x) (hm : X.mg x = none) (hb : bootBuiltins x = some (.type id)) (ha : DA X (e :: es) ta)
    (hn : x ≠ "__name__" := by decide) (hdb : (x == ("__debug__" : Str)) = false := by decide) (he : starEach (e :: es) X.env = (false, eval e X.env) :: starEach es X.env := by rfl) (hpl : (backTo pos (starEach es X.env)).any (·.1) = false := by rfl) :
    DE X (.Call (.Name x pp) (e :: es) [] pos) (eCall p ta) :=
  ⟨fun W => pe_weak (pe_callTy hc hg hm hb (ha.run W) hn hdb he hpl) (call_weak hv)⟩
/-! ## argument lists, displays -/
def aNil : DTA := fun r q => q [] r
def aCons (ta : DTE) (tr : DTA) : DTA := fun r q => ta r fun x r1 => tr r1 fun xs r2 => q (x :: xs) r2
theorem a_nil : DA X [] aNil := by
  refine ⟨fun W => pa_weak pa_nil fun σ H Q h => ?_⟩
  obtain ⟨r, F, q, R, t, w⟩ := h
  exact w [] r [] F H t R (Same.refl _) .nil
theorem a_cons {e : Expr} {es : List Expr} {ta : DTE} {tr : DTA} (ha : DE X e ta) (hr : DA X es tr) (hs : starEach (e :: es) X.env = (false, eval e X.env) :: starEach es X.env := by rfl) : DA X (e :: es) (aCons ta tr) := by
  refine ⟨fun W => pa_weak (pa_cons (ha.run W) (hr.run W) hs) fun σ H Q h => ?_⟩
  obtain ⟨r, F, q, R, t, w⟩ := h
  refine ⟨r, F, _, R, t, fun dx r1 v1 F1 H1 t1 R1 s1 p1 => ⟨r1, F1, _, R1, t1, fun ds rr vs F2 H2 t2 R2' s2 p2 => ?_⟩⟩
  exact w _ rr _ F2 H2 t2 R2' (s1.trans s2) (.cons (p1.up s2) p2)
def eTup (ta : DTA) : DTE := fun r q => ta r fun xs r1 => xs.length ≤ sizeLine ∧ q (.tuple xs) r1
theorem d_tup {es : List Expr} {k : Nat} {pos : Pos} {ta : DTA} (h : DA X es ta) : DE X (.Tuple es k pos) (eTup ta) := by
  refine ⟨fun W => pe_weak (pe_tup (h.run W)) fun σ H Q h => ?_⟩
  obtain ⟨r, F, q, R, t, w⟩ := h
  refine ⟨r, F, _, R, t, fun ds r1 vs F1 H1 t1 R1 s1 p1 => ⟨p1.length ▸ t1.1, fun p hp => ?_⟩⟩
  have e := ext_new (o := .tup vs) R1.sub hp
  exact w _ r1 _ _ _ t1.2 (R1.ext e) (s1.trans e.f) (.tup (.inl (.inl upd_same)) (p1.up e.f))
/-- a new object in H alone -/
theorem rel_newH {K : PySem.W.Frag} {W : Wd} {r : DSt} {F : Hp} {σ : St} {H : Hp} {p : Addr} {o : HO} (R : Rel K W r F σ H) (hp : H p = none) : Rel K W r F σ (upd H p o) ∧ F p = none ∧ W.H0 p = none ∧ Apart r σ p := by
  refine ⟨R.ext (ext_newH R.sub hp), R.sub.free hp, ?_, fun i m e z => ?_⟩
  · cases q : W.H0 p with
    | none => rfl
    | some u => exact absurd hp (R.there p (ne_none q))
  · rcases e with e | e
    · obtain ⟨a, u, e1, e2, _⟩ := R.own i m e
      rw [z] at e1; cases e1
      rw [hp] at e2; cases e2
    · obtain ⟨a, u, e1, e2, _⟩ := R.io i m e
      rw [z] at e1; cases e1
      rw [hp] at e2; cases e2
def oLst (ta : DTA) : DTO := fun r q => ta r fun xs r1 => xs.length ≤ sizeLine ∧ q (.lst xs) r1
theorem o_lst {es : List Expr} {pos : Pos} {ta : DTA} (h : DA X es ta) : DO X (.List es pos) (oLst ta) := by
  refine ⟨fun W => pe_weak (pe_lst (h.run W)) fun σ H Q h => ?_⟩
  obtain ⟨r, F, q, R, t, w⟩ := h
  refine ⟨r, F, _, R, t, fun ds r1 vs F1 H1 t1 R1 s1 p1 => ⟨p1.length ▸ t1.1, fun p hp => ?_⟩⟩
  obtain ⟨R2', fp, h0, ap⟩ := rel_newH (o := .lst vs) R1 hp
  exact w (.lst ds) r1 p _ F1 _ t1.2 R2' s1 upd_same fp ⟨vs, rfl, p1⟩ h0 ap
/-- an object of one's own, given as data -/
def eFrz (t : DTO) : DTE := fun r q => t r fun m r1 => match m with
  | .lst ds => q (.list ds) r1
  | _ => False
theorem Rel.absorb {K : PySem.W.Frag} {W : Wd} {r : DSt} {F : Hp} {σ : St} {H : Hp} {a : Addr} {o : HO} (R : Rel K W r F σ H) (ha : H a = some o) (fa : F a = none) (h0 : W.H0 a = none) (ap : Apart r σ a) : Rel K W r (upd F a o) σ H ∧ Same F (upd F a o) := by
  have sF : Same F (upd F a o) := fun b u e => by rw [upd_ne (ne_of_none e fa)]; exact e
  refine ⟨⟨fun b u e => ?_, R.f0.trans sF, R.keep, R.there, fun b e => ?_, fun j d e => ?_, fun j m e => ?_, fun j m e => ?_, R.ioA, R.sep, R.len⟩, sF⟩
  · by_cases hb : b = a
    · subst hb; rw [upd_same] at e; cases e; exact ha
    · rw [upd_ne hb] at e; exact R.sub _ _ e
  · by_cases hb : b = a
    · subst hb; exact .inr (.inl h0)
    · rw [upd_ne hb] at e; exact R.new b e
  · obtain ⟨v, e1, e2⟩ := R.sh j d e
    exact ⟨v, e1, e2.up sF⟩
  · obtain ⟨b, u, e1, e2, e3, e4, e5⟩ := R.own j m e
    have hb : b ≠ a := fun z => ap j m (.inl e) (z ▸ e1)
    exact ⟨b, u, e1, e2, by rw [upd_ne hb]; exact e3, e4.up sF, e5⟩
  · obtain ⟨b, u, e1, e2, e3, e4, e5⟩ := R.io j m e
    have hb : b ≠ a := fun z => ap j m (.inr e) (z ▸ e1)
    exact ⟨b, u, e1, e2, by rw [upd_ne hb]; exact e3, e4.up sF, e5⟩
theorem d_frz {e : Expr} {t : DTO} (h : DO X e t) : DE X e (eFrz t) := by
  refine ⟨fun W => pe_weak (h.run W) fun σ H Q h => ?_⟩
  obtain ⟨r, F, q, R, t, w⟩ := h
  refine ⟨r, F, _, R, t, fun m r' a o F' H' t1 R1 s1 ha fa mo h0 ap => ?_⟩
  cases m with
  | ins C fs => exact t1.elim
  | lst ds =>
    obtain ⟨vs, rfl, p1⟩ := mo
    obtain ⟨R2', s2⟩ := R1.absorb ha fa h0 ap
    exact w _ r' _ _ _ t1 R2' (s1.trans s2) (.lst upd_same (p1.up s2))
end
end DL
end

section
set_option Elab.async false
set_option linter.all false
set_option maxRecDepth 100000
namespace DL
open PySem PySem.Spec PyProof.Rows L2

/-! ## tests -/
def tBl (t : DTE) : DTT := fun r q => t r fun d r1 => match d with
  | .bool b => q b r1
  | _ => False
theorem lift_bl {K : PySem.W.Frag} {W : Wd} {t : DTE} {σ : St} {H : Hp} {Q : Bool → Hp → Prop} (h : liftT K W (tBl t) σ H Q) : lift K W t σ H (fun x H' => ∃ k, x = .bl k ∧ Q k H') := by
  obtain ⟨r, F, q, R, t, w⟩ := h
  refine ⟨r, F, _, R, t, fun d r' v F' H' t1 R1 s1 p1 => ?_⟩
  cases d with
  | bool b => cases p1; exact ⟨b, rfl, w b r' F' H' t1 R1 s1⟩
  | _ => exact t1.elim
def tTru (t : DTE) : DTT := fun r q => t r fun d r1 => match d with
  | .none => q false r1
  | .bool b => q b r1
  | .int i => q (i != 0) r1
  | .str z => z.length ≤ sizeLine ∧ q ((z.length : Int) != 0) r1
  | .list xs => q (!xs.isEmpty) r1
  | .tuple xs => q (!xs.isEmpty) r1
  | .dict _ => False
theorem rp_isEmpty {K : PySem.W.Frag} {F : Hp} {vs : List V} {ds : List D} (h : RpAll K F vs ds) : (!ds.isEmpty) = !vs.isEmpty := by
  cases h <;> rfl
def tNt (t : DTT) : DTT := fun r q => t r fun b r1 => q (!b) r1
def tAn (t u : DTT) : DTT := fun r q => t r fun b r1 => if b = true then u r1 q else q false r1
def tOr' (t u : DTT) : DTT := fun r q => t r fun b r1 => if b = true then q true r1 else u r1 q
def eAnd (ta tb : DTE) : DTE := fun r q => ta r fun d r1 => match d with
  | .bool b => if b = true then tb r1 q else q (.bool false) r1
  | _ => False
def eOr (ta tb : DTE) : DTE := fun r q => ta r fun d r1 => match d with
  | .bool b => if b = true then q (.bool true) r1 else tb r1 q
  | _ => False
def eNot (ta : DTE) : DTE := fun r q => ta r fun d r1 => match d with
  | .bool b => q (.bool (!b)) r1
  | _ => False
def eIf (t : DTT) (ta tb : DTE) : DTE := fun r q => t r fun b r1 => if b = true then ta r1 q else tb r1 q
def eChain (p p' : P2) (ta tb tc : DTE) : DTE := fun r q => ta r fun x r1 => tb r1 fun y r2 => p x y fun z => match z with
  | .bool b => if b = true then tc r2 fun u r3 => p' y u fun d => q d r3 else q (.bool false) r2
  | _ => False
section
variable {X : Cx} {a b c e : Expr} {rest : List Expr} {ta tb tc : DTE} {t u : DTT} {pos : Pos}
theorem dt_val (h : DE X e ta) (he : ∀ whole, isTrue e X.env whole = (do let v ← whole; standAt e.pos; holding [v] (truthy v)) := by intro _; rfl) : DT X e (tBl ta) :=
  ⟨fun W => pt_weak (pt_val (h.run W) he) fun _ _ _ h => lift_bl h⟩
theorem dt_tru (h : DE X e ta) (he : ∀ whole, isTrue e X.env whole = (do let v ← whole; standAt e.pos; holding [v] (truthy v)) := by intro _; rfl) : DT X e (tTru ta) := by
  refine ⟨fun W => pt_weak (pt_truth (h.run W) he) fun σ H Q h => ?_⟩
  obtain ⟨r, F, q, R, t, w⟩ := h
  refine ⟨r, F, _, R, t, fun d r' v F' H' t1 R1 s1 p1 => ?_⟩
  cases p1 with
  | non => exact ⟨false, rfl, w false r' F' H' t1 R1 s1⟩
  | bl b => exact ⟨b, rfl, w b r' F' H' t1 R1 s1⟩
  | int i => exact ⟨_, rfl, w _ r' F' H' t1 R1 s1⟩
  | str z => exact ⟨_, ⟨t1.1, rfl⟩, w _ r' F' H' t1.2 R1 s1⟩
  | lst h1 h2 => exact ⟨_, .inl ⟨_, SqL.of (R1.sub _ _ h1), rp_isEmpty h2⟩, w _ r' F' H' t1 R1 s1⟩
  | tup h1 h2 => exact ⟨_, .inr (.inl ⟨_, same_tup R1.sub h1, rp_isEmpty h2⟩), w _ r' F' H' t1 R1 s1⟩
  | scr h1 h2 => exact t1.elim
  | dic h1 h2 => exact t1.elim
  | exc h1 h2 => exact t1.elim
theorem dt_cmp {op : CmpOp} {r2 : R2} {p : P2} (ho : OpR X (compareOp op) r2) (hv : VOp X.K r2 p) (ha : DE X a ta) (hb : DE X b tb) (hm : behindInMarks op b = false) : DT X (.Compare a [op] [b] pos) (tBl (eOp2 p ta tb)) :=
  ⟨fun W => pt_weak (pt_cmpR ho (ha.run W) (hb.run W) hm) fun σ H Q h => op2_weak hv σ H _ (lift_bl h)⟩
theorem dt_not (h : DT X a t) : DT X (.UnaryOp .Not a pos) (tNt t) := by
  refine ⟨fun W => pt_weak (pt_not (h.run W)) fun σ H Q h => ?_⟩
  obtain ⟨r, F, q, R, t, w⟩ := h
  exact ⟨r, F, _, R, t, fun b r' F' H' t1 R1 s1 => w _ r' F' H' t1 R1 s1⟩
theorem dw_and1 (h : DT X a t) : DW X (.BoolOp .And [a] pos) t := ⟨fun W => pw_and1 (h.run W)⟩
theorem dw_or1 (h : DT X a t) : DW X (.BoolOp .Or [a] pos) t := ⟨fun W => pw_or1 (h.run W)⟩
theorem dw_and (ha : DT X a t) (hb : DW X (.BoolOp .And (b :: rest) pos) u) : DW X (.BoolOp .And (a :: b :: rest) pos) (tAn t u) := by
  refine ⟨fun W => pw_weak (pw_and (ha.run W) (hb.run W)) fun σ H Q h => ?_⟩
  obtain ⟨r, F, q, R, t, w⟩ := h
  refine ⟨r, F, _, R, t, fun k r' F' H' t1 R1 s1 => ?_⟩
  cases k with
  | true => exact ⟨r', F', q, R1, t1, fun b r2 F2 H2 t2 R2' s2 => w b r2 F2 H2 t2 R2' (s1.trans s2)⟩
  | false => exact w _ r' F' H' t1 R1 s1
theorem dw_or (ha : DT X a t) (hb : DW X (.BoolOp .Or (b :: rest) pos) u) : DW X (.BoolOp .Or (a :: b :: rest) pos) (tOr' t u) := by
  refine ⟨fun W => pw_weak (pw_or (ha.run W) (hb.run W)) fun σ H Q h => ?_⟩
  obtain ⟨r, F, q, R, t, w⟩ := h
  refine ⟨r, F, _, R, t, fun k r' F' H' t1 R1 s1 => ?_⟩
  cases k with
  | true => exact w _ r' F' H' t1 R1 s1
  | false => exact ⟨r', F', q, R1, t1, fun b r2 F2 H2 t2 R2' s2 => w b r2 F2 H2 t2 R2' (s1.trans s2)⟩
theorem DW.dt (h : DW X a t) : DT X a t := ⟨fun W => (h.run W).pt⟩
theorem d_one {op : BoolOp} (h : DE X a ta) : DE X (.BoolOp op [a] pos) ta := ⟨fun W => pe_one (h.run W)⟩
theorem d_and (ha : DE X a ta) (hb : DE X (.BoolOp .And (b :: rest) pos) tb) : DE X (.BoolOp .And (a :: b :: rest) pos) (eAnd ta tb) := by
  refine ⟨fun W => pe_weak (pe_and (ha.run W) (hb.run W)) fun σ H Q h => ?_⟩
  obtain ⟨r, F, q, R, t, w⟩ := h
  refine ⟨r, F, _, R, t, fun d r' v F' H' t1 R1 s1 p1 => ?_⟩
  cases p1 with
  | bl k =>
    cases k with
    | true => exact ⟨true, rfl, r', F', q, R1, t1, fun d r2 v F2 H2 t2 R2' s2 => w d r2 v F2 H2 t2 R2' (s1.trans s2)⟩
    | false => exact ⟨false, rfl, w _ r' _ F' H' t1 R1 s1 (.bl false)⟩
  | _ => exact t1.elim
theorem d_or (ha : DE X a ta) (hb : DE X (.BoolOp .Or (b :: rest) pos) tb) : DE X (.BoolOp .Or (a :: b :: rest) pos) (eOr ta tb) := by
  refine ⟨fun W => pe_weak (pe_or (ha.run W) (hb.run W)) fun σ H Q h => ?_⟩
  obtain ⟨r, F, q, R, t, w⟩ := h
  refine ⟨r, F, _, R, t, fun d r' v F' H' t1 R1 s1 p1 => ?_⟩
  cases p1 with
  | bl k =>
    cases k with
    | true => exact ⟨true, rfl, w _ r' _ F' H' t1 R1 s1 (.bl true)⟩
    | false => exact ⟨false, rfl, r', F', q, R1, t1, fun d r2 v F2 H2 t2 R2' s2 => w d r2 v F2 H2 t2 R2' (s1.trans s2)⟩
  | _ => exact t1.elim
theorem d_not (ha : DE X a ta) : DE X (.UnaryOp .Not a pos) (eNot ta) := by
  refine ⟨fun W => pe_weak (pe_not (ha.run W)) fun σ H Q h => ?_⟩
  obtain ⟨r, F, q, R, t, w⟩ := h
  refine ⟨r, F, _, R, t, fun d r' v F' H' t1 R1 s1 p1 => ?_⟩
  cases p1 with
  | bl k => exact ⟨k, rfl, w _ r' _ F' H' t1 R1 s1 (.bl _)⟩
  | _ => exact t1.elim
theorem d_if (hc : DT X c t) (ha : DE X a ta) (hb : DE X b tb) : DE X (.IfExp c a b pos) (eIf t ta tb) := by
  refine ⟨fun W => pe_weak (pe_ifExp (hc.run W) (ha.run W) (hb.run W)) fun σ H Q h => ?_⟩
  obtain ⟨r, F, q, R, t, w⟩ := h
  refine ⟨r, F, _, R, t, fun k r' F' H' t1 R1 s1 => ?_⟩
  cases k with
  | true => exact ⟨r', F', q, R1, t1, fun d r2 v F2 H2 t2 R2' s2 => w d r2 v F2 H2 t2 R2' (s1.trans s2)⟩
  | false => exact ⟨r', F', q, R1, t1, fun d r2 v F2 H2 t2 R2' s2 => w d r2 v F2 H2 t2 R2' (s1.trans s2)⟩
theorem chain_weak {K : PySem.W.Frag} {W : Wd} {r2 r2' : R2} {p p' : P2} (hv : VOp K r2 p) (hv' : VOp K r2' p') (σ : St) (H : Hp) (Q : VK) (h : lift K W (eChain p p' ta tb tc) σ H Q) : tChain r2 r2' (lift K W ta) (lift K W tb) (lift K W tc) σ H Q := by
  obtain ⟨r, F, q, R, t, w⟩ := h
  refine ⟨r, F, _, R, t, fun dx r1 v1 F1 H1 t1 R1 s1 p1 => ⟨r1, F1, _, R1, t1, fun dy rr v2 F2 H2 t2 R2' s2 p2 => ?_⟩⟩
  refine hv F2 H2 v1 v2 dx dy _ _ R2'.sub (p1.up s2) p2 t2 fun d v F' H' qd e rp => ?_
  cases rp with
  | bl k =>
    have R3 := R2'.ext e
    have s3 := s1.trans (s2.trans e.f)
    refine ⟨k, rfl, ?_⟩
    cases k with
    | false => exact w _ rr _ F' H' qd R3 s3 (.bl false)
    | true => exact ⟨rr, F', _, R3, qd, fun du r4 v4 F4 H4 t4 R4 s4 p4 => hv' F4 H4 v2 v4 dy du _ Q R4.sub (p2.up (e.f.trans s4)) p4 t4 fun d v F5 H5 q5 e5 rp5 => w d r4 v F5 H5 q5 (R4.ext e5) (s3.trans (s4.trans e5.f)) rp5⟩
  | _ => exact qd.elim
theorem d_chain {op op' : CmpOp} {r2 r2' : R2} {p p' : P2} (ho : OpR X (compareOp op) r2) (hv : VOp X.K r2 p) (ho' : OpR X (compareOp op') r2') (hv' : VOp X.K r2' p') (ha : DE X a ta) (hb : DE X b tb) (hc : DE X c tc)
    (hm : lastMarks [op, op'] [b, c] = false := by with_unfolding_all rfl) : DE X (.Compare a [op, op'] [b, c] pos) (eChain p p' ta tb tc) :=
  ⟨fun W => pe_weak (pe_chain ho ho' (ha.run W) (hb.run W) (hc.run W) hm) (chain_weak hv hv')⟩
theorem dt_chain {op op' : CmpOp} {r2 r2' : R2} {p p' : P2} (ho : OpR X (compareOp op) r2) (hv : VOp X.K r2 p) (ho' : OpR X (compareOp op') r2') (hv' : VOp X.K r2' p') (ha : DE X a ta) (hb : DE X b tb) (hc : DE X c tc)
    (hm : lastMarks [op, op'] [b, c] = false := by with_unfolding_all rfl) : DT X (.Compare a [op, op'] [b, c] pos) (tBl (eChain p p' ta tb tc)) :=
  ⟨fun W => pt_weak (pt_chain ho ho' (ha.run W) (hb.run W) (hc.run W) hm) fun σ H Q h => chain_weak hv hv' σ H _ (lift_bl h)⟩
end

/-! ## slots written -/
section
variable {K : PySem.W.Frag} {W : Wd} {r : DSt} {F : Hp} {σ : St} {H : Hp}
theorem set_get {i j : Nat} {v : V} {x : Option V} (h : i < σ.length) : (σ.set i x)[j]? = if i = j then some x else σ[j]? := by
  by_cases e : i = j
  · subst e; rw [if_pos rfl, List.getElem?_set_self h]
  · rw [if_neg e, List.getElem?_set_ne e]
/-- a slot is written: it holds c, a value v of which c is true -/
theorem Rel.put (R : Rel K W r F σ H) (i : Nat) (c : Option Cell) (v : V)
    (h : match c with
      | none => True
      | some (.sh d) => Rp K F v d
      | some (.own m) => ∃ a o, v = .ref a ∧ H a = some o ∧ F a = none ∧ MOk K F o m ∧ (W.A a ∨ W.H0 a = none) ∧ ∀ j n, j ≠ i → (dat r j = some (Cell.own n) ∨ dat r j = some (Cell.io n)) → σ[j]? ≠ some (some (V.ref a))
      | some (.io _) => False) : Rel K W (dput r i c) F (σ.set i (some v)) H := by
  have back : ∀ {j : Nat} {x : Cell}, dat (dput r i c) j = some x → (i = j ∧ c = some x ∧ i < σ.length) ∨ (i ≠ j ∧ dat r j = some x) := fun {j x} e => by
    by_cases hj : i = j
    · subst hj
      have q := dat_put e
      exact .inl ⟨rfl, q.1, R.len ▸ q.2⟩
    · rw [dat_put_ne hj] at e
      exact .inr ⟨hj, e⟩
  have gs : i < σ.length → (σ.set i (some v))[i]? = some (some v) := fun h => List.getElem?_set_self h
  have gn : ∀ {j : Nat}, i ≠ j → (σ.set i (some v))[j]? = σ[j]? := fun h => List.getElem?_set_ne h
  refine ⟨R.sub, R.f0, R.keep, R.there, R.new, fun j d e => ?_, fun j m e => ?_, fun j m e => ?_, R.ioA, fun j k m n p e1 e2 e3 e4 => ?_, by rw [dput_len, List.length_set]; exact R.len⟩
  · rcases back e with ⟨rfl, rfl, hl⟩ | ⟨hj, e⟩
    · exact ⟨v, gs hl, h⟩
    · rw [gn hj]; exact R.sh j d e
  · rcases back e with ⟨rfl, rfl, hl⟩ | ⟨hj, e⟩
    · obtain ⟨a, o, rfl, h2, h3, h4, h5, _⟩ := h
      exact ⟨a, o, gs hl, h2, h3, h4, h5⟩
    · rw [gn hj]; exact R.own j m e
  · rcases back e with ⟨rfl, rfl, hl⟩ | ⟨hj, e⟩
    · exact h.elim
    · rw [gn hj]; exact R.io j m e
  · have key : ∀ {j : Nat} {m : M}, (dat (dput r i c) j = some (Cell.own m) ∨ dat (dput r i c) j = some (Cell.io m)) → (i = j ∧ i < σ.length ∧ (c = some (Cell.own m))) ∨ (i ≠ j ∧ (dat r j = some (Cell.own m) ∨ dat r j = some (Cell.io m))) := fun {j m} e => by
      rcases e with e | e
      · rcases back e with ⟨a, b, c⟩ | ⟨a, b⟩
        · exact .inl ⟨a, c, b⟩
        · exact .inr ⟨a, .inl b⟩
      · rcases back e with ⟨a, b, c⟩ | ⟨a, b⟩
        · subst b; exact h.elim
        · exact .inr ⟨a, .inr b⟩
    rcases key e1 with ⟨rfl, hl, hc⟩ | ⟨hj, f1⟩
    · rcases key e2 with ⟨rfl, _, _⟩ | ⟨hk, f2⟩
      · rfl
      · subst hc
        obtain ⟨a, o, rfl, h2, h3, h4, h5, h6⟩ := h
        rw [gs hl] at e3; cases e3
        rw [gn hk] at e4
        exact absurd e4 (h6 k n (Ne.symm hk) f2)
    · rw [gn hj] at e3
      rcases key e2 with ⟨rfl, hl, hc⟩ | ⟨hk, f2⟩
      · subst hc
        obtain ⟨a, o, rfl, h2, h3, h4, h5, h6⟩ := h
        rw [gs hl] at e4; cases e4
        exact absurd e3 (h6 j m (Ne.symm hj) f1)
      · rw [gn hk] at e4
        exact R.sep j k m n p f1 f2 e3 e4
/-- an owner's (or a lent) object is changed -/
def isMut (m : M) (io : Bool) : Cell := if io = true then .io m else .own m
theorem Rel.mut {i : Nat} {m : M} {io : Bool} (R : Rel K W r F σ H) (h : dat r i = some (isMut m io)) :
    ∃ a o, σ[i]? = some (some (V.ref a)) ∧ H a = some o ∧ MOk K F o m ∧ F a = none ∧ ∀ o' m', MOk K F o' m' → Rel K W (dput r i (some (isMut m' io))) F σ (upd H a o') := by
  obtain ⟨a, o, h1, h2, h3, h4, h5⟩ : ∃ a o, σ[i]? = some (some (V.ref a)) ∧ H a = some o ∧ F a = none ∧ MOk K F o m ∧ (W.A a ∨ W.H0 a = none) := by
    cases io with
    | false => exact R.own i m h
    | true =>
      obtain ⟨a, o, h1, h2, h3, h4, h5⟩ := R.io i m h
      exact ⟨a, o, h1, h2, h3, h4, .inl (R.ioA i a h5)⟩
  refine ⟨a, o, h1, h2, h4, h3, fun o' m' mo => ?_⟩
  have hil : i < r.length := dat_lt h
  have hio : dat r i = some (Cell.own m) ∨ dat r i = some (Cell.io m) := by
    cases io with
    | false => exact .inl h
    | true => exact .inr h
  have nea : ∀ {j : Nat} {n : M} {b : Addr}, j ≠ i → (dat r j = some (Cell.own n) ∨ dat r j = some (Cell.io n)) → σ[j]? = some (some (V.ref b)) → b ≠ a := fun {j n b} hj e1 e2 z => hj (R.sep j i n m a e1 hio (z ▸ e2) h1)
  have key : ∀ {j : Nat} {x : Cell}, dat (dput r i (some (isMut m' io))) j = some x → (i = j ∧ x = isMut m' io) ∨ (i ≠ j ∧ dat r j = some x) := fun {j x} e => by
    by_cases hj : i = j
    · subst hj
      rw [dat_put_same hil] at e
      exact .inl ⟨rfl, (Option.some.inj e).symm⟩
    · rw [dat_put_ne hj] at e
      exact .inr ⟨hj, e⟩
  have back : ∀ {j : Nat} {n : M}, (dat (dput r i (some (isMut m' io))) j = some (Cell.own n) ∨ dat (dput r i (some (isMut m' io))) j = some (Cell.io n)) → ∃ n', dat r j = some (Cell.own n') ∨ dat r j = some (Cell.io n') := fun {j n} e => by
    rcases e with e | e
    · rcases key e with ⟨rfl, _⟩ | ⟨_, e⟩
      · exact ⟨m, hio⟩
      · exact ⟨n, .inl e⟩
    · rcases key e with ⟨rfl, _⟩ | ⟨_, e⟩
      · exact ⟨m, hio⟩
      · exact ⟨n, .inr e⟩
  refine ⟨fun b u e => ?_, R.f0, fun b u e1 e2 => ?_, fun b e => ?_, R.new, fun j d e => ?_, fun j n e => ?_, fun j n e => ?_, R.ioA, fun j k n n' p e1 e2 e3 e4 => ?_, by rw [dput_len]; exact R.len⟩
  · rw [upd_ne (ne_of_none e h3)]; exact R.sub _ _ e
  · have hb : b ≠ a := fun z => by
      subst z
      rcases h5 with z | z
      · exact e2 z
      · rw [z] at e1; cases e1
    rw [upd_ne hb]; exact R.keep b u e1 e2
  · by_cases hb : b = a
    · subst hb; rw [upd_same]; exact fun z => by cases z
    · rw [upd_ne hb]; exact R.there b e
  · rcases key e with ⟨rfl, e'⟩ | ⟨hj, e⟩
    · cases io <;> cases e'
    · exact R.sh j d e
  · rcases key e with ⟨rfl, e'⟩ | ⟨hj, e⟩
    · cases io with
      | false => cases e'; exact ⟨a, o', h1, upd_same, h3, mo, h5⟩
      | true => cases e'
    · obtain ⟨b, u, e1, e2, e3, e4, e5⟩ := R.own j n e
      exact ⟨b, u, e1, by rw [upd_ne (nea (Ne.symm hj) (.inl e) e1)]; exact e2, e3, e4, e5⟩
  · rcases key e with ⟨rfl, e'⟩ | ⟨hj, e⟩
    · cases io with
      | false => cases e'
      | true =>
        cases e'
        obtain ⟨b, u, e1, e2, e3, e4, e5⟩ := R.io i m h
        rw [h1] at e1; cases e1
        exact ⟨a, o', h1, upd_same, h3, mo, e5⟩
    · obtain ⟨b, u, e1, e2, e3, e4, e5⟩ := R.io j n e
      exact ⟨b, u, e1, by rw [upd_ne (nea (Ne.symm hj) (.inr e) e1)]; exact e2, e3, e4, e5⟩
  · obtain ⟨_, f1⟩ := back e1
    obtain ⟨_, f2⟩ := back e2
    exact R.sep j k _ _ p f1 f2 e3 e4
end
end DL
end

section
set_option Elab.async false
set_option linter.all false
set_option maxRecDepth 100000
namespace DL
open PySem PySem.Spec PyProof.Rows L2

/-! ## statements -/
structure DEnds where
  nx : DSt → Prop
  rt : Cell → DSt → Prop
  bk : DSt → Prop := fun _ => False
  ct : DSt → Prop := fun _ => False
abbrev DTS := DEnds → DSt → Prop
def ResOk (K : PySem.W.Frag) (W : Wd) (F H : Hp) (r : DSt) (σ : St) : Cell → V → Prop
  | .sh d, v => Rp K F v d
  | .own m, v => ∃ a o, v = .ref a ∧ H a = some o ∧ F a = none ∧ MOk K F o m ∧ (W.A a ∨ W.H0 a = none) ∧ ∀ i n, dat r i = some (Cell.io n) → σ[i]? ≠ some (some (V.ref a))
  | .io _, _ => False
structure SW (K : PySem.W.Frag) (W : Wd) (F : Hp) (q : DEnds) (E : Ends) : Prop where
  nx : ∀ r σ F' H', q.nx r → Rel K W r F' σ H' → Same F F' → E.nx σ H'
  bk : ∀ r σ F' H', q.bk r → Rel K W r F' σ H' → Same F F' → E.bk σ H'
  ct : ∀ r σ F' H', q.ct r → Rel K W r F' σ H' → Same F F' → E.ct σ H'
  rt : ∀ c r v σ F' H', q.rt c r → Rel K W r F' σ H' → Same F F' → ResOk K W F' H' r σ c v → E.rt v H'
theorem SW.up {K : PySem.W.Frag} {W : Wd} {F F1 : Hp} {q : DEnds} {E : Ends} (h : SW K W F q E) (s : Same F F1) : SW K W F1 q E :=
  ⟨fun r σ F' H' a b c => h.nx r σ F' H' a b (s.trans c), fun r σ F' H' a b c => h.bk r σ F' H' a b (s.trans c), fun r σ F' H' a b c => h.ct r σ F' H' a b (s.trans c), fun k r v σ F' H' a b c d => h.rt k r v σ F' H' a b (s.trans c) d⟩
def liftS (K : PySem.W.Frag) (W : Wd) (t : DTS) : TS := fun E σ H => ∃ r F q, Rel K W r F σ H ∧ t q r ∧ SW K W F q E
structure DS (X : Cx) (st : Stmt) (t : DTS) : Prop where
  run : ∀ W, PS X st (liftS X.K W t)
structure DSs (X : Cx) (st : List Stmt) (t : DTS) : Prop where
  run : ∀ W, PSs X st (liftS X.K W t)
def sNext : DTS := fun E r => E.nx r
def sSeq (t u : DTS) : DTS := fun E r => t { E with nx := u E } r
def sBreak : DTS := fun E r => E.bk r
def sCont : DTS := fun E r => E.ct r
def sDrop (te : DTE) : DTS := fun E r => te r fun _ r1 => E.nx r1
def sRet (te : DTE) : DTS := fun E r => te r fun d r1 => E.rt (.sh d) r1
def sRetO (to : DTO) : DTS := fun E r => to r fun m r1 => E.rt (.own m) r1
def sRetV (i : Nat) : DTS := fun E r => match dat r i with
  | some (.own m) => E.rt (.own m) r
  | _ => False
def sRetN : DTS := fun E r => E.rt (.sh .none) r
def sIf (t : DTT) (a b : DTS) : DTS := fun E r => t r fun k r1 => if k = true then a E r1 else b E r1
def sSet (i : Nat) (te : DTE) : DTS := fun E r => te r fun d r1 => nrm (dput r1 i (some (.sh d))) E.nx
def sSetO (i : Nat) (to : DTO) : DTS := fun E r => to r fun m r1 => nrm (dput r1 i (some (.own m))) E.nx
def sPar (i j : Nat) (ta : DTA) : DTS := fun E r => ta r fun ds r1 => match ds with
  | [x, y] => nrm (dput (dput r1 i (some (.sh x))) j (some (.sh y))) E.nx
  | _ => False
def sPar3 (i j l : Nat) (ta : DTA) : DTS := fun E r => ta r fun ds r1 => match ds with
  | [x, y, z] => nrm (dput (dput (dput r1 i (some (.sh x))) j (some (.sh y))) l (some (.sh z))) E.nx
  | _ => False
def sAug (i : Nat) (p : P2) (te : DTE) : DTS := fun E r => match dat r i with
  | some (.sh x) => te r fun y r1 => p x y fun d => nrm (dput r1 i (some (.sh d))) E.nx
  | _ => False
def sWhile (c : DTT) (tb : DTS) : DTS := fun E r => ∃ I : Nat → DSt → Prop, (∃ m, I m r) ∧ ∀ m r, I m r → c r fun b r1 =>
  if b = true then tb { E with nx := fun r' => ∃ m', m' < m ∧ I m' r', ct := fun r' => ∃ m', m' < m ∧ I m' r', bk := E.nx } r1 else E.nx r1
section
variable {X : Cx} {st : Stmt} {rest : List Stmt} {t u : DTS} {e : Expr} {te : DTE} {pos : Pos}
theorem dss_nil : DSs X [] sNext := by
  refine ⟨fun W => pss_weak pss_nil fun D σ H h => ?_⟩
  obtain ⟨r, F, q, R, t, w⟩ := h
  exact w.nx r σ F H t R (Same.refl _)
theorem dss_cons (h1 : DS X st t) (h2 : DSs X rest u) : DSs X (st :: rest) (sSeq t u) := by
  refine ⟨fun W => pss_weak (pss_cons (h1.run W) (h2.run W)) fun D σ H h => ?_⟩
  obtain ⟨r, F, q, R, t, w⟩ := h
  exact ⟨r, F, _, R, t, fun r' σ' F' H' a b c => ⟨r', F', q, b, a, w.up c⟩, w.bk, w.ct, w.rt⟩
theorem dss_one (h1 : DS X st t) : DSs X [st] t := ⟨fun W => pss_one (h1.run W)⟩
theorem ds_pass : DS X (.Pass pos) sNext := by
  refine ⟨fun W => ps_weak ps_pass fun D σ H h => ?_⟩
  obtain ⟨r, F, q, R, t, w⟩ := h
  exact w.nx r σ F H t R (Same.refl _)
theorem ds_break : DS X (.Break pos) sBreak := by
  refine ⟨fun W => ps_weak ps_break fun D σ H h => ?_⟩
  obtain ⟨r, F, q, R, t, w⟩ := h
  exact w.bk r σ F H t R (Same.refl _)
theorem ds_continue : DS X (.Continue pos) sCont := by
  refine ⟨fun W => ps_weak ps_continue fun D σ H h => ?_⟩
  obtain ⟨r, F, q, R, t, w⟩ := h
  exact w.ct r σ F H t R (Same.refl _)
theorem ds_expr (he : DE X e te) (hs : swapsWith e none pos.line X.env = pure false := by rfl) : DS X (.Expr e pos) (sDrop te) := by
  refine ⟨fun W => ps_weak (ps_expr (he.run W) hs) fun D σ H h => ?_⟩
  obtain ⟨r, F, q, R, t, w⟩ := h
  exact ⟨r, F, _, R, t, fun d r' v F' H' a b c _ => w.nx r' σ F' H' a b c⟩
theorem ds_ret (he : DE X e te) : DS X (.Return (some e) pos) (sRet te) := by
  refine ⟨fun W => ps_weak (ps_ret (he.run W)) fun D σ H h => ?_⟩
  obtain ⟨r, F, q, R, t, w⟩ := h
  exact ⟨r, F, _, R, t, fun d r' v F' H' a b c p => w.rt _ r' v σ F' H' a b c p⟩
theorem ds_retO {to : DTO} (he : DO X e to) : DS X (.Return (some e) pos) (sRetO to) := by
  refine ⟨fun W => ps_weak (ps_ret (he.run W)) fun D σ H h => ?_⟩
  obtain ⟨r, F, q, R, t, w⟩ := h
  exact ⟨r, F, _, R, t, fun m r' a o F' H' k b c h1 h2 h3 h4 h5 => w.rt _ r' _ σ F' H' k b c ⟨a, o, rfl, h1, h2, h3, .inr h4, fun i n z => h5 i n (.inr z)⟩⟩
theorem ds_retV (i : Nat) {x : Str} {p : Pos} (hN : X.N[i]? = some x := by rfl) (hv : Vis X.env.scope x := by first | exact Or.inl rfl | exact Or.inr (Or.inl rfl) | exact Or.inr (Or.inr rfl)) (hd : (x == ("__debug__" : Str)) = false := by decide)
    (hcd : (x == ("__classdict__" : Str)) = false := by decide) : DS X (.Return (some (.Name x p)) pos) (sRetV i) := by
  refine ⟨fun W => ps_weak (ps_ret (pe_var hN hv hd hcd)) fun D σ H h => ?_⟩
  obtain ⟨r, F, q, R, t, w⟩ := h
  unfold sRetV at t
  split at t
  · rename_i m e
    obtain ⟨a, o, h1, h2, h3, h4, h5⟩ := R.own i m e
    refine ⟨_, h1, w.rt _ r _ σ F H t R (Same.refl _) ⟨a, o, rfl, h2, h3, h4, h5, fun j n z z2 => ?_⟩⟩
    have ij := R.sep i j _ _ a (.inl e) (.inr z) h1 z2
    subst ij
    rw [e] at z; cases z
  · exact t.elim
theorem ds_retN : DS X (.Return none pos) sRetN := by
  refine ⟨fun W => ps_weak ps_retN fun D σ H h => ?_⟩
  obtain ⟨r, F, q, R, t, w⟩ := h
  exact w.rt _ r _ σ F H t R (Same.refl _) .non
theorem ds_if {c : Expr} {a b : List Stmt} {tc : DTT} (hc : DT X c tc) (ha : DSs X a t) (hb : DSs X b u) : DS X (.If c a b pos) (sIf tc t u) := by
  refine ⟨fun W => ps_weak (ps_if (hc.run W) (ha.run W) (hb.run W)) fun D σ H h => ?_⟩
  obtain ⟨r, F, q, R, t, w⟩ := h
  refine ⟨r, F, _, R, t, fun k r' F' H' a b c => ?_⟩
  cases k with
  | true => exact ⟨r', F', q, b, a, w.up c⟩
  | false => exact ⟨r', F', q, b, a, w.up c⟩
theorem ds_set {i : Nat} {x : Str} {pos' : Pos} (hN : X.N.Nodup) (hi : X.N[i]? = some x) (hx : Loc X.env.scope x) (he : DE X e te) (hs : swapsWith e (some (.Name x pos')) pos.line X.env = pure false := by rfl) (hf : X.fn x = true ∨ X.env.scope.names.lookup x = some .local := by first | exact .inl rfl | exact .inr rfl | assumption) :
    DS X (.Assign [.Name x pos'] e pos) (sSet i te) := by
  refine ⟨fun W => ps_weak (ps_set hN hi hx (he.run W) hs hf) fun D σ H h => ?_⟩
  obtain ⟨r, F, q, R, t, w⟩ := h
  exact ⟨r, F, _, R, t, fun d r' v F' H' a b c p => w.nx _ _ F' H' (nrm_el a) (b.put i (some (.sh d)) v p) c⟩
theorem ds_setO {i : Nat} {x : Str} {pos' : Pos} {to : DTO} (hN : X.N.Nodup) (hi : X.N[i]? = some x) (hx : Loc X.env.scope x) (he : DO X e to) (hs : swapsWith e (some (.Name x pos')) pos.line X.env = pure false := by rfl) (hf : X.fn x = true ∨ X.env.scope.names.lookup x = some .local := by first | exact .inl rfl | exact .inr rfl | assumption) :
    DS X (.Assign [.Name x pos'] e pos) (sSetO i to) := by
  refine ⟨fun W => ps_weak (ps_set hN hi hx (he.run W) hs hf) fun D σ H h => ?_⟩
  obtain ⟨r, F, q, R, t, w⟩ := h
  exact ⟨r, F, _, R, t, fun m r' a o F' H' k b c h1 h2 h3 h4 h5 => w.nx _ _ F' H' (nrm_el k) (b.put i (some (.own m)) (.ref a) ⟨a, o, rfl, h1, h2, h3, .inr h4, fun j n _ z => h5 j n z⟩) c⟩
theorem ds_par {i j : Nat} {x y : Str} {a b : Expr} {ta : DTA} {px py pt : Pos} {kt k2 pt2} (hc : X.calm = true) (hN : X.N.Nodup) (hi : X.N[i]? = some x) (hj : X.N[j]? = some y) (hij : i ≠ j)
    (hx : X.env.scope.names.lookup x = some .local) (hy : X.env.scope.names.lookup y = some .local) (ha : DA X [a, b] ta)
    (hw : swappedStores [.Tuple [.Name x px, .Name y py] kt pt] (.Tuple [a, b] k2 pt2) X.env = pure (some [x, y]))
    (hs : swapsWithSole [.Tuple [.Name x px, .Name y py] kt pt] (.Tuple [a, b] k2 pt2) pos.line X.env = pure false := by rfl) :
    DS X (.Assign [.Tuple [.Name x px, .Name y py] kt pt] (.Tuple [a, b] k2 pt2) pos) (sPar i j ta) := by
  refine ⟨fun W => ps_weak (ps_par hc hN hi hj hij hx hy (ha.run W) hw hs) fun D σ H h => ?_⟩
  obtain ⟨r, F, q, R, t, w⟩ := h
  refine ⟨r, F, _, R, t, fun ds r' vs F' H' a b c p => ?_⟩
  match ds, p, a with
  | [x, y], .cons p1 (.cons p2 .nil), a => exact ⟨_, _, rfl, w.nx _ _ F' H' (nrm_el a) ((b.put i (some (.sh x)) _ p1).put j (some (.sh y)) _ p2) c⟩
theorem ds_par3 {i j l : Nat} {x y z : Str} {a b c : Expr} {ta : DTA} {px py pz pt : Pos} {kt k2 pt2} (hc : X.calm = true) (hN : X.N.Nodup) (hi : X.N[i]? = some x) (hj : X.N[j]? = some y) (hl : X.N[l]? = some z) (hij : i ≠ j) (hil : i ≠ l) (hjl : j ≠ l)
    (hx : X.env.scope.names.lookup x = some .local) (hy : X.env.scope.names.lookup y = some .local) (hz : X.env.scope.names.lookup z = some .local) (ha : DA X [a, b, c] ta)
    (hp : ∀ W, PS X (.Assign [.Tuple [.Name x px, .Name y py, .Name z pz] kt pt] (.Tuple [a, b, c] k2 pt2) pos) (fun D σ H => liftA X.K W ta σ H fun vs H1 => ∃ v w u, vs = [v, w, u] ∧ D.nx (((σ.set i (some v)).set j (some w)).set l (some u)) H1)) :
    DS X (.Assign [.Tuple [.Name x px, .Name y py, .Name z pz] kt pt] (.Tuple [a, b, c] k2 pt2) pos) (sPar3 i j l ta) := by
  refine ⟨fun W => ps_weak (hp W) fun D σ H h => ?_⟩
  obtain ⟨r, F, q, R, t, w⟩ := h
  refine ⟨r, F, _, R, t, fun ds r' vs F' H' a b c p => ?_⟩
  match ds, p, a with
  | [x, y, z], .cons p1 (.cons p2 (.cons p3 .nil)), a => exact ⟨_, _, _, rfl, w.nx _ _ F' H' (nrm_el a) (((b.put i (some (.sh x)) _ p1).put j (some (.sh y)) _ p2).put l (some (.sh z)) _ p3) c⟩
theorem ds_aug {i : Nat} {x : Str} {op : Operator} {r2 : R2} {p : P2} {pos' : Pos} (hN : X.N.Nodup) (hi : X.N[i]? = some x) (hx : Loc X.env.scope x) (he : DE X e te) (ho : OpR X (inplaceOp op) r2) (hv : VOp X.K r2 p)
    (hf : X.fn x = true ∨ X.env.scope.names.lookup x = some .local := by first | exact .inl rfl | exact .inr rfl | assumption) : DS X (.AugAssign (.Name x pos') op e pos) (sAug i p te) := by
  refine ⟨fun W => ps_weak (ps_aug (ti := r2) hN hi hx (he.run W) (fun pins s σ H x y v u Q I rx ry h => ho pins s σ H x y v u Q I rx ry h) hf) fun D σ H h => ?_⟩
  obtain ⟨r, F, q, R, t, w⟩ := h
  unfold sAug at t
  split at t
  · rename_i dx e
    obtain ⟨v, e1, e2⟩ := R.sh i dx e
    refine ⟨v, e1, r, F, _, R, t, fun dy r' v2 F' H' a b c p => ?_⟩
    exact hv F' H' v v2 dx dy _ _ b.sub (e2.up c) p a fun d z F2 H2 qd ex rp => w.nx _ _ F2 H2 (nrm_el qd) ((b.ext ex).put i (some (.sh d)) z rp) (c.trans ex.f)
  · exact t.elim
theorem ds_while {c : Expr} {body : List Stmt} {tc : DTT} {tb : DTS} (hp : PassesOwn (model X.prog X.w) X.A X.env X.xe) (hc : DT X c tc) (hb : DSs X body tb) : DS X (.While c body [] pos) (sWhile tc tb) := by
  refine ⟨fun W => ps_weak (ps_while hp (hc.run W) (hb.run W)) fun D σ H h => ?_⟩
  obtain ⟨r, F, q, R, ⟨I, ⟨m0, i0⟩, turn⟩, w⟩ := h
  refine ⟨fun m σ H => ∃ r F1, Rel X.K W r F1 σ H ∧ Same F F1 ∧ I m r, ⟨m0, r, F, R, Same.refl _, i0⟩, ?_⟩
  rintro m σ H ⟨r1, F1, R1, s1, i1⟩
  refine ⟨r1, F1, _, R1, turn m r1 i1, fun b r' F' H' a R2' c => ?_⟩
  have a' : if b = true then tb { q with nx := fun r' => ∃ m', m' < m ∧ I m' r', ct := fun r' => ∃ m', m' < m ∧ I m' r', bk := q.nx } r' else q.nx r' := a
  cases b with
  | false =>
    rw [if_neg Bool.false_ne_true] at a'
    exact iteF (w.nx r' σ F' H' a' R2' (s1.trans c))
  | true =>
    rw [if_pos rfl] at a'
    refine iteT ?_
    refine ⟨fun σ' H' => ∃ r F1, Rel X.K W r F1 σ' H' ∧ Same F F1 ∧ ∃ m', m' < m ∧ I m' r, fun σ' H' ⟨r, F1, a, b, m', c, d⟩ => ⟨m', c, r, F1, a, b, d⟩, r', F', _, R2', a', ?_⟩
    have s2 := s1.trans c
    exact ⟨fun r σ F3 H3 a b c => ⟨r, F3, b, s2.trans c, a⟩, fun r σ F3 H3 a b c => w.nx r σ F3 H3 a b (s2.trans c), fun r σ F3 H3 a b c => ⟨r, F3, b, s2.trans c, a⟩, fun c r v σ F3 H3 a b k d => w.rt c r v σ F3 H3 a b (s2.trans k) d⟩
end

/-! ## targets -/
abbrev DTG := D → DSt → (DSt → Prop) → Prop
abbrev DTGs := List D → DSt → (DSt → Prop) → Prop
def liftG (K : PySem.W.Frag) (W : Wd) (g : DTG) : TG := fun v σ H Q => ∃ d r F q, Rel K W r F σ H ∧ Rp K F v d ∧ g d r q ∧ ∀ r' σ' F' H', q r' → Rel K W r' F' σ' H' → Same F F' → Q σ' H'
def liftGs (K : PySem.W.Frag) (W : Wd) (g : DTGs) : TGs := fun vs σ H Q => ∃ ds r F q, Rel K W r F σ H ∧ RpAll K F vs ds ∧ g ds r q ∧ ∀ r' σ' F' H', q r' → Rel K W r' F' σ' H' → Same F F' → Q σ' H'
structure DG (X : Cx) (tg : Expr) (g : DTG) : Prop where
  run : ∀ W, PG X tg (liftG X.K W g)
structure DGs (X : Cx) (tg : List Expr) (g : DTGs) : Prop where
  run : ∀ W, PGs X tg (liftGs X.K W g)
def gNm (i : Nat) : DTG := fun d r q => nrm (dput r i (some (.sh d))) q
def gsNil : DTGs := fun ds r q => match ds with
  | [] => q r
  | _ => False
def gsCons (g : DTG) (gs : DTGs) : DTGs := fun ds r q => match ds with
  | d :: t => g d r fun r1 => gs t r1 q
  | _ => False
def gTp (n : Nat) (gs : DTGs) : DTG := fun d r q => match d with
  | .tuple ds => ds.length = n ∧ gs ds r q
  | _ => False
def mutAt (r : DSt) (i : Nat) : Bool := match dat r i with
  | some (.own _) => true
  | some (.io _) => true
  | _ => false
def storeAt (i : Nat) (k : Int) (d : D) (r : DSt) (q : DSt → Prop) : Prop := match dat r i with
  | some (.own (.lst ds)) => ∃ j, ixN ds.length k = some j ∧ q (dput r i (some (.own (.lst (ds.set j d)))))
  | some (.io (.lst ds)) => ∃ j, ixN ds.length k = some j ∧ q (dput r i (some (.io (.lst (ds.set j d)))))
  | _ => False
def gSb (i : Nat) (ti : DTE) : DTG := fun d r q => mutAt r i = true ∧ ti r fun k r1 => match k with
  | .int k => storeAt i k d r1 q
  | _ => False
def sAsg (te : DTE) (g : DTG) : DTS := fun E r => te r fun d r1 => g d r1 E.nx
theorem mutAt_get {K : PySem.W.Frag} {W : Wd} {r : DSt} {F : Hp} {σ : St} {H : Hp} {i : Nat} (R : Rel K W r F σ H) (h : mutAt r i = true) : ∃ m io a, dat r i = some (isMut m io) ∧ σ[i]? = some (some (V.ref a)) := by
  unfold mutAt at h
  split at h
  · rename_i m e
    obtain ⟨a, o, h1, _⟩ := R.own i m e
    exact ⟨m, false, a, e, h1⟩
  · rename_i m e
    obtain ⟨a, o, h1, _⟩ := R.io i m e
    exact ⟨m, true, a, e, h1⟩
  · cases h
section
variable {X : Cx} {pos : Pos}
theorem dg_name {i : Nat} {x : Str} (hN : X.N.Nodup) (hi : X.N[i]? = some x) (hx : Loc X.env.scope x) (hf : X.fn x = true ∨ X.env.scope.names.lookup x = some .local := by first | exact .inl rfl | exact .inr rfl | assumption) : DG X (.Name x pos) (gNm i) := by
  refine ⟨fun W => pg_weak (pg_name hN hi hx hf) fun v σ H Q h => ?_⟩
  obtain ⟨d, r, F, q, R, p, t, w⟩ := h
  exact w _ _ F H (nrm_el t) (R.put i (some (.sh d)) v p) (Same.refl _)
theorem dgs_nil : DGs X [] gsNil := by
  refine ⟨fun W => pgs_weak pgs_nil fun v σ H Q h => ?_⟩
  obtain ⟨ds, r, F, q, R, p, t, w⟩ := h
  cases p with
  | nil => exact ⟨rfl, w _ _ F H t R (Same.refl _)⟩
  | cons _ _ => exact t.elim
theorem dgs_cons {e : Expr} {es : List Expr} {g : DTG} {gs : DTGs} (h1 : DG X e g) (h2 : DGs X es gs)
    (hs : (assignEach (e :: es) X.env).map (·.2) = assign e X.env :: (assignEach es X.env).map (·.2) := by rfl) : DGs X (e :: es) (gsCons g gs) := by
  refine ⟨fun W => pgs_weak (pgs_cons (h1.run W) (h2.run W) hs) fun v σ H Q h => ?_⟩
  obtain ⟨ds, r, F, q, R, p, t, w⟩ := h
  cases p with
  | nil => exact t.elim
  | cons p1 p2 => exact ⟨_, _, rfl, _, r, F, _, R, p1, t, fun r' σ' F' H' a b c => ⟨_, r', F', q, b, p2.up c, a, fun r2 σ2 F2 H2 a2 b2 c2 => w r2 σ2 F2 H2 a2 b2 (c.trans c2)⟩⟩
theorem dg_tup {es : List Expr} {k : Nat} {gs : DTGs} {n : Nat} (hc : X.calm = true) (h : DGs X es gs)
    (hn : (assignEach es X.env).length = n := by rfl) (hst : (assignEach es X.env).findIdx? (·.1) = none := by rfl) : DG X (.Tuple es k pos) (gTp n gs) := by
  refine ⟨fun W => pg_weak (pg_tup hc (h.run W) hn hst) fun v σ H Q h => ?_⟩
  obtain ⟨d, r, F, q, R, p, t, w⟩ := h
  cases p with
  | tup h1 h2 => exact ⟨_, _, rfl, same_tup R.sub h1, h2.length.trans t.1, _, r, F, q, R, h2, t.2, w⟩
  | _ => exact t.elim
theorem dg_sub (i : Nat) {x : Str} {p : Pos} {ie : Expr} {ti : DTE} (hi : DE X ie ti) (hN : X.N[i]? = some x := by rfl) (hv : Vis X.env.scope x := by first | exact Or.inl rfl | exact Or.inr (Or.inl rfl) | exact Or.inr (Or.inr rfl)) (hd : (x == ("__debug__" : Str)) = false := by decide)
    (hcd : (x == ("__classdict__" : Str)) = false := by decide)
    (ha : ∀ v, assign (.Subscript (.Name x p) ie pos) X.env v = (do
      let ov ← holding [v] (eval (.Name x p) X.env)
      let iv ← holding [v, ov] (eval ie X.env)
      standAt pos
      holding [v, ov, iv] (setItem ov iv v)
      release [v, ov, iv] []) := by intro _; rfl) : DG X (.Subscript (.Name x p) ie pos) (gSb i ti) := by
  refine ⟨fun W => pg_weak (pg_sub (pe_var hN hv hd hcd) (hi.run W) set_list ha) fun v σ H Q h => ?_⟩
  obtain ⟨d, r, F, q, R, p, ⟨t0, t⟩, w⟩ := h
  obtain ⟨m, io, a, e0, e1⟩ := mutAt_get R t0
  refine ⟨_, e1, r, F, _, R, t, fun k r' kv F' H' a1 b c pk => ?_⟩
  cases pk with
  | int k =>
    have a2 : storeAt i k d r' q := a1
    unfold storeAt at a2
    split at a2
    · rename_i ds e
      obtain ⟨j, hj, qq⟩ := a2
      obtain ⟨a', o, h1, h2, ⟨vs, rfl, h3⟩, h4, h5⟩ := b.mut (io := false) (m := .lst ds) e
      rw [e1] at h1; cases h1
      exact ⟨a, vs, k, j, rfl, rfl, h2, by rw [h3.length]; exact hj, w _ _ F' _ qq (h5 (.lst (vs.set j v)) (.lst (ds.set j d)) ⟨_, rfl, h3.set j (p.up c)⟩) c⟩
    · rename_i ds e
      obtain ⟨j, hj, qq⟩ := a2
      obtain ⟨a', o, h1, h2, ⟨vs, rfl, h3⟩, h4, h5⟩ := b.mut (io := true) (m := .lst ds) e
      rw [e1] at h1; cases h1
      exact ⟨a, vs, k, j, rfl, rfl, h2, by rw [h3.length]; exact hj, w _ _ F' _ qq (h5 (.lst (vs.set j v)) (.lst (ds.set j d)) ⟨_, rfl, h3.set j (p.up c)⟩) c⟩
    · exact a2.elim
  | _ => exact a1.elim
theorem ds_asg {tg e : Expr} {te : DTE} {g : DTG} (he : DE X e te) (hg : DG X tg g) (hs : swapsWithSole [tg] e pos.line X.env = pure false := by rfl) (hw : swappedStores [tg] e X.env = pure none := by rfl)
    (h1 : (assignEach [tg] X.env).map (·.2) = [assign tg X.env] := by rfl) : DS X (.Assign [tg] e pos) (sAsg te g) := by
  refine ⟨fun W => ps_weak (ps_asg (he.run W) (hg.run W) hs hw h1) fun D σ H h => ?_⟩
  obtain ⟨r, F, q, R, t, w⟩ := h
  exact ⟨r, F, _, R, t, fun d r' v F' H' a b c p => ⟨d, r', F', _, b, p, a, fun r2 σ2 F2 H2 a2 b2 c2 => w.nx r2 σ2 F2 H2 a2 b2 (c.trans c2)⟩⟩
end

/-! ## what is walked -/
structure JOk (K : PySem.W.Frag) (F0 : Hp) (J : It) (ds : List D) : Prop where
  stop : ∀ i F H, Same F0 F → Same F H → ds.length ≤ i → J.stop i H
  go : ∀ i F H, Same F0 F → Same F H → i < ds.length → J.go i H
  yld : ∀ i F H x H' d, Same F0 F → Same F H → J.yld i H x H' → ds[i]? = some d → ∃ F', Ext F H F' H' ∧ Rp K F' x d
abbrev DTI := DSt → (List D → DSt → Prop) → Prop
def liftI (K : PySem.W.Frag) (W : Wd) (t : DTI) : TI := fun σ H Rr => ∃ r F q, Rel K W r F σ H ∧ t r q ∧ ∀ ds r' J F' H', q ds r' → Rel K W r' F' σ H' → Same F F' → JOk K F' J ds → Rr J H'
structure DI (X : Cx) (tg iter : Expr) (t : DTI) : Prop where
  run : ∀ W, PI X tg iter (liftI X.K W t)
def iSq (te : DTE) : DTI := fun r q => te r fun d r1 => match d with
  | .list ds => q ds r1
  | _ => False
def iTp (te : DTE) : DTI := fun r q => te r fun d r1 => match d with
  | .tuple ds => q ds r1
  | _ => False
theorem sql_of {K : PySem.W.Frag} {F : Hp} {a : Addr} {vs : List V} (h : Rd F a (.lst vs)) : SqL K F a vs := .inl h
theorem rd_inj {F : Hp} {a : Addr} {vs ws : List V} (h : Rd F a (.lst vs)) (h' : Rd F a (.lst ws)) : vs = ws := by
  rcases h with h | ⟨o, h⟩ <;> rcases h' with h' | ⟨o', h'⟩ <;> rw [h] at h' <;> cases h' <;> rfl
/-- what a loop over a list gives (both readings of one list agree) -/
theorem jok_list {K : PySem.W.Frag} {F0 : Hp} {a : Addr} {vs : List V} {ds : List D} (h : SqL K F0 a vs) (p : RpAll K F0 vs ds) : JOk K F0 (Itl K a) ds where
  stop := fun i F H s1 s2 hi => ⟨vs, s2.seq (s1.seq h), p.length ▸ hi⟩
  go := fun i F H s1 s2 hi => by
    have hi' : i < vs.length := p.length ▸ hi
    exact ⟨vs, vs[i], s2.seq (s1.seq h), by simp [hi']⟩
  yld := fun i F H x H' d s1 s2 y e => by
    obtain ⟨rfl, y⟩ := y
    have ex := y vs (s2.seq (s1.seq h))
    obtain ⟨d', e1, e2⟩ := p.get ex
    rw [e] at e1; cases e1
    exact ⟨F, Ext.refl s2, e2.up s1⟩
theorem jok_tup {K : PySem.W.Frag} {F0 : Hp} {a : Addr} {vs : List V} {ds : List D} (h : SqT K F0 a vs) (p : RpAll K F0 vs ds) : JOk K F0 (Itt K a) ds where
  stop := fun i F H s1 s2 hi => ⟨vs, same_tup s2 (same_tup s1 h), p.length ▸ hi⟩
  go := fun i F H s1 s2 hi => by
    have hi' : i < vs.length := p.length ▸ hi
    exact ⟨vs, vs[i], same_tup s2 (same_tup s1 h), by simp [hi']⟩
  yld := fun i F H x H' d s1 s2 y e => by
    obtain ⟨rfl, y⟩ := y
    have ex := y vs (same_tup s2 (same_tup s1 h))
    obtain ⟨d', e1, e2⟩ := p.get ex
    rw [e] at e1; cases e1
    exact ⟨F, Ext.refl s2, e2.up s1⟩
def rngD (lo : Int) (n : Nat) : List D := (List.range n).map fun i => PyData.int (lo + (i : Nat))
theorem rngD_len (lo : Int) (n : Nat) : (rngD lo n).length = n := by unfold rngD; simp
theorem jok_rng {K : PySem.W.Frag} {F0 : Hp} (lo : Int) (n : Nat) : JOk K F0 (Itr lo n) (rngD lo n) where
  stop := fun i F H _ _ hi => by rw [rngD_len] at hi; exact hi
  go := fun i F H _ _ hi => by rw [rngD_len] at hi; exact hi
  yld := fun i F H x H' d s1 s2 y e => by
    obtain ⟨rfl, rfl⟩ := y
    have hi : i < n := by
      have q := (List.getElem?_eq_some_iff.mp e).1
      rw [rngD_len] at q; exact q
    have e' : d = PyData.int (lo + (i : Nat)) := by
      unfold rngD at e
      rw [List.getElem?_map, List.getElem?_range hi] at e
      exact (Option.some.inj e).symm
    subst e'
    exact ⟨F, Ext.refl s2, .int _⟩
def iR1 (ta : DTA) : DTI := fun r q => ta r fun ds r1 => match ds with
  | [.int j] => -(2 ^ 62) ≤ j ∧ j < 2 ^ 62 ∧ q (rngD 0 j.toNat) r1
  | _ => False
def iR2 (ta : DTA) : DTI := fun r q => ta r fun ds r1 => match ds with
  | [.int i, .int j] => (-(2 ^ 62) ≤ i ∧ i < 2 ^ 62 ∧ -(2 ^ 62) ≤ j ∧ j < 2 ^ 62) ∧ q (rngD i (j - i).toNat) r1
  | _ => False
section
variable {X : Cx} {tg : Expr}
theorem di_list {l : Expr} {te : DTE} (h : DE X l te) : DI X tg l (iSq te) := by
  refine ⟨fun W => pi_weak (pi_list (h.run W)) fun σ H Q h => ?_⟩
  obtain ⟨r, F, q, R, t, w⟩ := h
  refine ⟨r, F, _, R, t, fun d r' v F' H' a b c p => ?_⟩
  cases p with
  | lst h1 h2 => exact ⟨_, rfl, ⟨_, SqL.of (b.sub _ _ h1)⟩, w _ r' _ F' H' a b c (jok_list (SqL.of h1) h2)⟩
  | _ => exact a.elim
theorem di_tup {l : Expr} {te : DTE} (h : DE X l te) : DI X tg l (iTp te) := by
  refine ⟨fun W => pi_weak (pi_tup (h.run W)) fun σ H Q h => ?_⟩
  obtain ⟨r, F, q, R, t, w⟩ := h
  refine ⟨r, F, _, R, t, fun d r' v F' H' a b c p => ?_⟩
  cases p with
  | tup h1 h2 => exact ⟨_, rfl, ⟨_, same_tup b.sub h1⟩, w _ r' _ F' H' a b c (jok_tup h1 h2)⟩
  | _ => exact a.elim
theorem di_range1 {a : Expr} {ta : DTA} {p pos : Pos} (hg : Gl X "range") (hm : X.mg "range" = none) (ha : DA X [a] ta) (hs : starEach [a] X.env = [(false, eval a X.env)] := by rfl) : DI X tg (.Call (.Name "range" p) [a] [] pos) (iR1 ta) := by
  refine ⟨fun W => pi_weak (pi_range1 hg hm (ha.run W) hs) fun σ H Q h => ?_⟩
  obtain ⟨r, F, q, R, t, w⟩ := h
  refine ⟨r, F, _, R, t, fun ds r' vs F' H' a b c p => ?_⟩
  match ds, p, a with
  | [.int j], .cons (.int _) .nil, a => exact ⟨j, rfl, a.1, a.2.1, w _ r' _ F' H' a.2.2 b c (jok_rng 0 _)⟩
theorem di_range2 {a b : Expr} {ta : DTA} {p pos : Pos} (hg : Gl X "range") (hm : X.mg "range" = none) (ha : DA X [a, b] ta) (hs : starEach [a, b] X.env = [(false, eval a X.env), (false, eval b X.env)] := by rfl) (hs2 : starEach [b] X.env = [(false, eval b X.env)] := by rfl) :
    DI X tg (.Call (.Name "range" p) [a, b] [] pos) (iR2 ta) := by
  refine ⟨fun W => pi_weak (pi_range2 hg hm (ha.run W) hs hs2) fun σ H Q h => ?_⟩
  obtain ⟨r, F, q, R, t, w⟩ := h
  refine ⟨r, F, _, R, t, fun ds r' vs F' H' a b c p => ?_⟩
  match ds, p, a with
  | [.int i, .int j], .cons (.int _) (.cons (.int _) .nil), a => exact ⟨i, j, rfl, a.1, w _ r' _ F' H' a.2 b c (jok_rng i _)⟩
end
/-! ## for -/
def loopD (g : DTG) (tb : DTS) : List D → DEnds → DSt → Prop
  | [], E, r => E.nx r
  | d :: t, E, r => g d r fun r1 => tb { E with nx := loopD g tb t E, ct := loopD g tb t E, bk := E.nx } r1
def sFor (it : DTI) (g : DTG) (tb : DTS) : DTS := fun E r => it r fun ds r1 => loopD g tb ds E r1
theorem ds_for {X : Cx} {tg iter : Expr} {body : List Stmt} {it : DTI} {g : DTG} {tb : DTS} {pos : Pos} (hp : PassesOwn (model X.prog X.w) X.A X.env X.xe) (hc : X.calm = true) (hi : DI X tg iter it) (hg : DG X tg g) (hb : DSs X body tb)
    (hs : ∀ x, foldedSetIterable iter X.env x = pure x := by intro _; rfl) : DS X (.For tg iter body [] pos) (sFor it g tb) := by
  refine ⟨fun W => ps_weak (ps_for hp hc (hi.run W) (hg.run W) (hb.run W) hs) fun D σ H h => ?_⟩
  obtain ⟨r, F, q, R, t, w⟩ := h
  refine ⟨r, F, _, R, t, fun ds r1 J F1 H1 t1 R1 s1 jk => ?_⟩
  refine ⟨fun i m σ H => m + i = ds.length ∧ ∃ r F2, Rel X.K W r F2 σ H ∧ Same F1 F2 ∧ loopD g tb (ds.drop i) q r, ⟨ds.length, rfl, r1, F1, R1, Same.refl _, t1⟩, ?_⟩
  rintro i m σ H ⟨hm, r2, F2, R2', s2, t2⟩
  by_cases hi : i < ds.length
  · refine .inr ⟨jk.go i F2 H s2 R2'.sub hi, fun σ' H' => ∃ r F3, Rel X.K W r F3 σ' H' ∧ Same F1 F3 ∧ loopD g tb (ds.drop (i + 1)) q r, fun σ' H' z => ⟨m - 1, by omega, by omega, z⟩, fun x H' y => ?_⟩
    rw [List.drop_eq_getElem_cons hi] at t2
    obtain ⟨F3, ex, rp⟩ := jk.yld i F2 H x H' ds[i] s2 R2'.sub y (by simp [hi])
    have s3 := s2.trans ex.f
    refine ⟨ds[i], r2, F3, _, R2'.ext ex, rp, t2, fun r4 σ4 F4 H4 t4 R4 s4 => ⟨r4, F4, _, R4, t4, ?_⟩⟩
    have s5 := s3.trans s4
    exact ⟨fun r σ F3 H3 a b c => ⟨r, F3, b, s5.trans c, a⟩, fun r σ F3 H3 a b c => w.nx r σ F3 H3 a b (s1.trans (s5.trans c)), fun r σ F3 H3 a b c => ⟨r, F3, b, s5.trans c, a⟩, fun c r v σ F3 H3 a b k d => w.rt c r v σ F3 H3 a b (s1.trans (s5.trans k)) d⟩
  · refine .inl ⟨jk.stop i F2 H s2 R2'.sub (by omega), ?_⟩
    rw [List.drop_eq_nil_of_le (by omega)] at t2
    exact w.nx r2 σ F2 H t2 R2' (s1.trans s2)
end DL
end

section
set_option Elab.async false
set_option linter.all false
set_option maxRecDepth 100000
namespace DL
open PySem PySem.Spec PyProof.Rows L2

/-! ## a world within -/
def AtSlot (r : DSt) (σ : St) (a : Addr) : Prop := ∃ i m, (dat r i = some (Cell.own m) ∨ dat r i = some (Cell.io m)) ∧ σ[i]? = some (some (V.ref a))
def here (r : DSt) (F : Hp) (σ : St) (H : Hp) : Wd := ⟨F, H, AtSlot r σ, fun i a => (∃ m, dat r i = some (Cell.io m)) ∧ σ[i]? = some (some (V.ref a))⟩
section
variable {K : PySem.W.Frag} {W : Wd} {r r' : DSt} {F F' : Hp} {σ σ' : St} {H H' : Hp}
theorem Rel.enter (R : Rel K W r F σ H) : Rel K (here r F σ H) r F σ H := by
  refine ⟨R.sub, Same.refl _, fun b o e _ => e, fun b e => e, fun b e => .inl e, R.sh, fun i m e => ?_, fun i m e => ?_, fun i a h => ?_, R.sep, R.len⟩
  · obtain ⟨a, o, h1, h2, h3, h4, _⟩ := R.own i m e
    exact ⟨a, o, h1, h2, h3, h4, .inl ⟨i, m, .inl e, h1⟩⟩
  · obtain ⟨a, o, h1, h2, h3, h4, _⟩ := R.io i m e
    exact ⟨a, o, h1, h2, h3, h4, ⟨m, e⟩, h1⟩
  · obtain ⟨⟨m, e⟩, h⟩ := h
    exact ⟨i, m, .inr e, h⟩
theorem Rel.atSlot (R : Rel K W r F σ H) {a : Addr} (h : AtSlot r σ a) : W.A a ∨ W.H0 a = none := by
  obtain ⟨i, m, e | e, h⟩ := h
  · obtain ⟨b, o, h1, h2, h3, h4, h5⟩ := R.own i m e
    rw [h] at h1; cases h1; exact h5
  · obtain ⟨b, o, h1, h2, h3, h4, h5⟩ := R.io i m e
    rw [h] at h1; cases h1; exact .inl (R.ioA i a h5)
theorem Rel.leave (R : Rel K W r F σ H) (R2 : Rel K (here r F σ H) r' F' σ' H') : Rel K W r' F' σ' H' := by
  have nA : ∀ {b : Addr} {o : HO}, W.H0 b = some o → ¬ W.A b → ¬ AtSlot r σ b := fun {b o} e1 e2 h => by
    rcases R.atSlot h with z | z
    · exact e2 z
    · rw [z] at e1; cases e1
  have h0 : ∀ {b : Addr}, H b = none → W.H0 b = none := fun {b} e => by
    cases q : W.H0 b with
    | none => rfl
    | some u => exact absurd e (R.there b (ne_none q))
  refine ⟨R2.sub, R.f0.trans R2.f0, fun b o e1 e2 => R2.keep b o (R.keep b o e1 e2) (nA e1 e2), fun b e => R2.there b (R.there b e), fun b e => ?_, R2.sh, fun i m e => ?_, fun i m e => ?_, R.ioA, R2.sep, R2.len⟩
  · rcases R2.new b e with z | z | z
    · exact R.new b z
    · exact .inr (.inl (h0 z))
    · rcases R.atSlot z with z | z
      · exact .inr (.inr z)
      · exact .inr (.inl z)
  · obtain ⟨a, o, h1, h2, h3, h4, h5⟩ := R2.own i m e
    refine ⟨a, o, h1, h2, h3, h4, ?_⟩
    rcases h5 with z | z
    · exact R.atSlot z
    · exact .inr (h0 z)
  · obtain ⟨a, o, h1, h2, h3, h4, ⟨n, e2⟩, h5⟩ := R2.io i m e
    obtain ⟨b, u, k1, k2, k3, k4, k5⟩ := R.io i n e2
    rw [h5] at k1; cases k1
    exact ⟨a, o, h1, h2, h3, h4, k5⟩
/-- an object apart is written -/
theorem Rel.aside {a : Addr} {o : HO} (R : Rel K W r F σ H) (fa : F a = none) (h0 : W.H0 a = none) (ap : Apart r σ a) : Rel K W r F σ (upd H a o) := by
  refine ⟨fun b u e => by rw [upd_ne (ne_of_none e fa)]; exact R.sub _ _ e, R.f0, fun b u e1 e2 => by rw [upd_ne (ne_of_none e1 h0)]; exact R.keep b u e1 e2, fun b e => ?_, R.new, R.sh, fun i m e => ?_, fun i m e => ?_, R.ioA, R.sep, R.len⟩
  · by_cases hb : b = a
    · subst hb; rw [upd_same]; exact fun z => by cases z
    · rw [upd_ne hb]; exact R.there b e
  · obtain ⟨b, u, h1, h2, h3, h4, h5⟩ := R.own i m e
    have hb : b ≠ a := fun z => ap i m (.inl e) (z ▸ h1)
    exact ⟨b, u, h1, by rw [upd_ne hb]; exact h2, h3, h4, h5⟩
  · obtain ⟨b, u, h1, h2, h3, h4, h5⟩ := R.io i m e
    have hb : b ≠ a := fun z => ap i m (.inr e) (z ▸ h1)
    exact ⟨b, u, h1, by rw [upd_ne hb]; exact h2, h3, h4, h5⟩
/-- a slot is emptied -/
theorem Rel.drop (R : Rel K W r F σ H) (i : Nat) : Rel K W (dput r i none) F (σ.set i none) H := by
  have back : ∀ {j : Nat} {x : Cell}, dat (dput r i none) j = some x → i ≠ j ∧ dat r j = some x := fun {j x} e => by
    by_cases hj : i = j
    · subst hj
      have q := (dat_put e).1
      cases q
    · rw [dat_put_ne hj] at e
      exact ⟨hj, e⟩
  have gn : ∀ {j : Nat}, i ≠ j → (σ.set i none)[j]? = σ[j]? := fun h => List.getElem?_set_ne h
  have back2 : ∀ {j : Nat} {m : M}, (dat (dput r i none) j = some (Cell.own m) ∨ dat (dput r i none) j = some (Cell.io m)) → i ≠ j ∧ (dat r j = some (Cell.own m) ∨ dat r j = some (Cell.io m)) := fun {j m} e => by
    rcases e with e | e
    · exact ⟨(back e).1, .inl (back e).2⟩
    · exact ⟨(back e).1, .inr (back e).2⟩
  refine ⟨R.sub, R.f0, R.keep, R.there, R.new, fun j d e => ?_, fun j m e => ?_, fun j m e => ?_, R.ioA, fun j k m n p e1 e2 e3 e4 => ?_, by rw [dput_len, List.length_set]; exact R.len⟩
  · obtain ⟨hj, e⟩ := back e
    rw [gn hj]; exact R.sh j d e
  · obtain ⟨hj, e⟩ := back e
    rw [gn hj]; exact R.own j m e
  · obtain ⟨hj, e⟩ := back e
    rw [gn hj]; exact R.io j m e
  · obtain ⟨hj, f1⟩ := back2 e1
    obtain ⟨hk, f2⟩ := back2 e2
    rw [gn hj] at e3
    rw [gn hk] at e4
    exact R.sep j k m n p f1 f2 e3 e4
def wipeD (r : DSt) : List Nat → DSt
  | [] => r
  | v :: vs => dput (wipeD r vs) v none
theorem Rel.wipe (R : Rel K W r F σ H) : ∀ js : List Nat, Rel K W (wipeD r js) F (wipe σ js) H
  | [] => R
  | j :: js => (Rel.wipe R js).drop j
theorem wipe_get (σ : St) (i : Nat) : ∀ js : List Nat, (wipe σ js)[i]? = if i ∈ js then (if i < σ.length then some none else none) else σ[i]?
  | [] => by simp [L2.wipe]
  | j :: js => by
    unfold L2.wipe
    by_cases hj : j = i
    · subst hj
      rw [if_pos List.mem_cons_self]
      by_cases hl : j < σ.length
      · rw [List.getElem?_set_self (by rw [wipe_length]; exact hl), if_pos hl]
      · rw [if_neg hl, List.getElem?_eq_none (by rw [List.length_set, wipe_length]; omega)]
    · rw [List.getElem?_set_ne hj, wipe_get σ i js]
      have e : (i ∈ j :: js) ↔ i ∈ js := by
        constructor
        · intro h
          rcases List.mem_cons.mp h with z | z
          · exact absurd z.symm hj
          · exact z
        · exact List.mem_cons_of_mem _
      simp only [e]
/-- the slots that were empty are as they were -/
theorem Rel.unwipe {js : List Nat} (R : Rel K W r F (L2.wipe σ js) H) : Rel K W r F σ H := by
  have up : ∀ {i : Nat} {v : V}, (L2.wipe σ js)[i]? = some (some v) → σ[i]? = some (some v) := fun {i v} e => (wipe_some e).1
  refine ⟨R.sub, R.f0, R.keep, R.there, R.new, fun i d e => ?_, fun i m e => ?_, fun i m e => ?_, R.ioA, fun i j m n a e1 e2 e3 e4 => ?_, by rw [R.len, wipe_length]⟩
  · obtain ⟨v, h1, h2⟩ := R.sh i d e
    exact ⟨v, up h1, h2⟩
  · obtain ⟨a, o, h1, h2⟩ := R.own i m e
    exact ⟨a, o, up h1, h2⟩
  · obtain ⟨a, o, h1, h2⟩ := R.io i m e
    exact ⟨a, o, up h1, h2⟩
  · have dn : ∀ {i : Nat} {m : M} {a : Addr}, (dat r i = some (Cell.own m) ∨ dat r i = some (Cell.io m)) → σ[i]? = some (some (V.ref a)) → (L2.wipe σ js)[i]? = some (some (V.ref a)) := fun {i m a} e h => by
      rcases e with e | e
      · obtain ⟨b, o, h1, _⟩ := R.own i m e
        have h2 := up h1
        rw [h] at h2; cases h2; exact h1
      · obtain ⟨b, o, h1, _⟩ := R.io i m e
        have h2 := up h1
        rw [h] at h2; cases h2; exact h1
    exact R.sep i j m n a e1 e2 (dn e1 e3) (dn e2 e4)
theorem Apart.unwipe {js : List Nat} {a : Addr} (R : Rel K W r F (L2.wipe σ js) H) (h : Apart r (L2.wipe σ js) a) : Apart r σ a := fun i m e z => by
  rcases e with e | e
  · obtain ⟨b, o, h1, _⟩ := R.own i m e
    have h2 := (wipe_some h1).1
    rw [z] at h2; cases h2
    exact h i m (.inl e) h1
  · obtain ⟨b, o, h1, _⟩ := R.io i m e
    have h2 := (wipe_some h1).1
    rw [z] at h2; cases h2
    exact h i m (.inr e) h1
end

/-! ## comprehensions -/
def putsV : List Nat → List V → St → St
  | j :: js, v :: vs, σ => putsV js vs (σ.set j (some v))
  | _, _, σ => σ
def putsD : List Nat → List D → DSt → DSt
  | j :: js, d :: ds, r => putsD js ds (dput r j (some (.sh d)))
  | _, _, r => r
theorem Rel.puts {K : PySem.W.Frag} {W : Wd} {F : Hp} {H : Hp} : ∀ {js : List Nat} {vs : List V} {ds : List D} {r : DSt} {σ : St}, Rel K W r F σ H → RpAll K F vs ds → Rel K W (putsD js ds r) F (putsV js vs σ) H
  | [], _, _, _, _, R, .nil => R
  | [], _, _, _, _, R, .cons _ _ => R
  | _ :: _, _, _, _, _, R, .nil => R
  | j :: js, _, _, _, _, R, .cons p t => Rel.puts (js := js) (R.put j (some (.sh _)) _ p) t
theorem putsV_len : ∀ {js : List Nat} {vs : List V} {σ : St}, (putsV js vs σ).length = σ.length
  | [], _, _ => rfl
  | _ :: _, [], _ => rfl
  | j :: js, v :: vs, σ => by
    show (putsV js vs (σ.set j (some v))).length = _
    rw [putsV_len, List.length_set]
theorem putsV_get {i : Nat} : ∀ {js : List Nat} {vs : List V} {σ : St}, i ∉ js → (putsV js vs σ)[i]? = σ[i]?
  | [], _, _, _ => rfl
  | _ :: _, [], _, _ => rfl
  | j :: js, v :: vs, σ, h => by
    show (putsV js vs (σ.set j (some v)))[i]? = _
    rw [putsV_get (fun z => h (List.mem_cons_of_mem _ z)), List.getElem?_set_ne (fun z => h (by rw [z]; exact List.mem_cons_self))]
theorem wipe_puts {σ : St} {js : List Nat} {vs : List V} : L2.wipe (putsV js vs (L2.wipe σ js)) js = L2.wipe σ js := by
  refine List.ext_getElem? fun i => ?_
  rw [wipe_get, wipe_get, putsV_len, wipe_length]
  by_cases h : i ∈ js
  · rw [if_pos h, if_pos h]
  · rw [if_neg h, if_neg h, putsV_get h, wipe_get, if_neg h]
def gNmsV : List Nat → TGs
  | [] => gNil
  | j :: js => gCons (gName j) (gNmsV js)
theorem gNmsV_ok {Q : St → Hp → Prop} {H : Hp} : ∀ {js : List Nat} {vs : List V} {σ : St}, vs.length = js.length → Q (putsV js vs σ) H → gNmsV js vs σ H Q
  | [], [], _, _, q => ⟨rfl, q⟩
  | [], _ :: _, _, h, _ => by cases h
  | _ :: _, [], _, h, _ => by cases h
  | j :: js, v :: vs, σ, h, q => ⟨v, vs, rfl, gNmsV_ok (js := js) (Nat.succ.inj h) q⟩
/-- a comprehension's target: one name, or a tuple of names -/
def cTg (K : PySem.W.Frag) (one : Bool) (js : List Nat) : TG := match one, js with
  | true, [j] => gName j
  | true, _ => fun _ _ _ _ => False
  | false, js => gTup K js.length (gNmsV js)
def tgD (one : Bool) (js : List Nat) (d : D) (r : DSt) (q : DSt → Prop) : Prop := match one, js with
  | true, [j] => q (dput r j (some (.sh d)))
  | true, _ => False
  | false, js => match d with
    | .tuple ds => ds.length = js.length ∧ q (putsD js ds r)
    | _ => False
theorem tgD_ok {K : PySem.W.Frag} {W : Wd} {F H : Hp} {r : DSt} {σ : St} {one : Bool} {js : List Nat} {d : D} {v : V} {q : DSt → Prop} {Q : St → Hp → Prop} (R : Rel K W r F σ H) (p : Rp K F v d) (t : tgD one js d r q)
    (h : ∀ vs r', q r' → Rel K W r' F (putsV js vs σ) H → Q (putsV js vs σ) H) : cTg K one js v σ H Q := by
  unfold tgD at t
  unfold cTg
  split at t
  · rename_i j
    exact h [v] _ t (R.put j (some (.sh d)) v p)
  · exact t.elim
  · cases p with
    | tup h1 h2 =>
      refine ⟨_, _, rfl, same_tup R.sub h1, h2.length.trans t.1, gNmsV_ok (h2.length.trans t.1) ?_⟩
      exact h _ _ t.2 (R.puts h2)
    | _ => exact t.elim
def compD (one : Bool) (js : List Nat) (tt : DTT) (te : DTE) : List D → List D → DSt → (List D → DSt → Prop) → Prop
  | [], acc, r, q => q acc r
  | d :: t, acc, r, q => tgD one js d r fun r1 => tt r1 fun b r2 => if b = true then te r2 fun y r3 => compD one js tt te t (acc ++ [y]) (wipeD r3 js) q else compD one js tt te t acc (wipeD r2 js) q
def oComp (one : Bool) (js : List Nat) (it : DTI) (tt : DTT) (te : DTE) : DTO := fun r q => it r fun ds r1 => ds.length ≤ sizeLine ∧ compD one js tt te ds [] (wipeD r1 js) fun acc r2 => q (.lst acc) r2
def anyE (K : PySem.W.Frag) (t : DTE) : TE := fun σ H Q => ∃ W, lift K W t σ H Q
def anyT (K : PySem.W.Frag) (t : DTT) : TT := fun σ H Q => ∃ W, liftT K W t σ H Q
theorem pe_any {X : Cx} {e : Expr} {t : DTE} (h : DE X e t) : PE X e (anyE X.K t) := ⟨fun pins s σ H Q I ⟨W, q⟩ => (h.run W).run pins s σ H Q I q⟩
theorem pt_any {X : Cx} {e : Expr} {t : DTT} (h : DT X e t) : PT X e (anyT X.K t) := ⟨fun pins s σ H Q I ⟨W, q⟩ => (h.run W).run pins s σ H Q I q⟩
def tYesD : DTT := fun r q => q true r
structure DTs (X : Cx) (ifs : List Expr) (t : DTT) : Prop where
  run : PTs X ifs (anyT X.K t)
theorem dts_nil {X : Cx} : DTs X [] tYesD := ⟨⟨fun pins s σ H Q I ⟨W, q⟩ => by
  obtain ⟨r, F, q, R, t, w⟩ := q
  exact pts_nil.run pins s σ H Q I (w true r F H t R (Same.refl _))⟩⟩
theorem dts_one {X : Cx} {c : Expr} {t : DTT} (h : DT X c t) : DTs X [c] t := ⟨pts_one (pt_any h)⟩
/-- the whole walk of a comprehension, as HandS asks it -/
theorem comp_weak {K : PySem.W.Frag} {W : Wd} {one : Bool} {js : List Nat} {it : DTI} {tt : DTT} {te : DTE} (σ : St) (H : Hp) (Q : VK) (h : liftO K W (oComp one js it tt te) σ H Q) : tLc (liftI K W it) (cTg K one js) (anyT K tt) (anyE K te) js σ H Q := by
  obtain ⟨r, F, q, R, t, w⟩ := h
  refine ⟨r, F, _, R, t, fun ds r1 J F1 H1 ⟨hz, t1⟩ R1 s1 jk D hD => ?_⟩
  have n0 := rel_newH (o := .lst []) R1 hD
  refine ⟨fun i m H => m + i = ds.length ∧ ∃ r F2 acc av, Rel K W r F2 (wipe σ js) H ∧ Same F1 F2 ∧ H D = some (.lst av) ∧ RpAll K F2 av acc ∧ F2 D = none ∧ Apart r (wipe σ js) D ∧ acc.length ≤ i ∧ compD one js tt te (ds.drop i) acc r (fun acc r2 => q (.lst acc) r2),
    ⟨ds.length, rfl, wipeD r1 js, F1, [], [], n0.1.wipe js, Same.refl _, upd_same, .nil, n0.2.1, ?_, Nat.le_refl _, t1⟩, ?_⟩
  · intro i m e z
    have Rw := n0.1.wipe js
    rcases e with e | e
    · obtain ⟨a, o, h1, h2, h3, h4, h5⟩ := Rw.own i m e
      rw [z] at h1; cases h1
      have R1w := R1.wipe js
      obtain ⟨a, o, k1, k2, _⟩ := R1w.own i m e
      rw [z] at k1; cases k1
      rw [hD] at k2; cases k2
    · have R1w := R1.wipe js
      obtain ⟨a, o, k1, k2, _⟩ := R1w.io i m e
      rw [z] at k1; cases k1
      rw [hD] at k2; cases k2
  rintro i m H2 ⟨hm, r2, F2, acc, av, R2', s2, hd, pa, fD, ap, hl, t2⟩
  have h0 : W.H0 D = none := n0.2.2.1
  by_cases hi : i < ds.length
  · refine .inr ⟨jk.go i F2 H2 s2 R2'.sub hi, fun H' => ∃ r F3 acc av, Rel K W r F3 (wipe σ js) H' ∧ Same F1 F3 ∧ H' D = some (.lst av) ∧ RpAll K F3 av acc ∧ F3 D = none ∧ Apart r (wipe σ js) D ∧ acc.length ≤ i + 1 ∧ compD one js tt te (ds.drop (i + 1)) acc r (fun acc r2 => q (.lst acc) r2),
      fun H' z => ⟨m - 1, by omega, by omega, z⟩, fun x H3 y => ?_⟩
    rw [List.drop_eq_getElem_cons hi] at t2
    obtain ⟨F3, ex, rp⟩ := jk.yld i F2 H2 x H3 ds[i] s2 R2'.sub y (by simp [hi])
    have R3 := R2'.enter.ext ex
    have nAD : ¬ (here r2 F2 (wipe σ js) H2).A D := fun ⟨i, m, e, z⟩ => ap i m e z
    -- what stays true of D in this turn
    have stayD : ∀ {r' : DSt} {F' : Hp} {σ' : St} {H' : Hp}, Rel K (here r2 F2 (wipe σ js) H2) r' F' σ' H' → H' D = some (.lst av) ∧ F' D = none ∧ Apart r' σ' D := fun {r' F' σ' H'} R' => by
      refine ⟨R'.keep D _ hd nAD, ?_, fun i m e z => ?_⟩
      · cases q : F' D with
        | none => rfl
        | some u =>
          rcases R'.new D (ne_none q) with z | z | z
          · exact absurd fD z
          · have z' : H2 D = none := z
            rw [hd] at z'; cases z'
          · exact absurd z nAD
      · rcases e with e | e
        · obtain ⟨a, o, h1, h2, h3, h4, h5⟩ := R'.own i m e
          rw [z] at h1; cases h1
          rcases h5 with z | z
          · exact nAD z
          · have z' : H2 D = none := z
            rw [hd] at z'; cases z'
        · obtain ⟨a, o, h1, h2, h3, h4, h5⟩ := R'.io i m e
          rw [z] at h1; cases h1
          exact nAD (R'.ioA i _ h5)
    refine tgD_ok (W := here r2 F2 (wipe σ js) H2) R3 rp t2 fun vs r4 t4 R4 => ⟨wipe_puts, here r2 F2 (wipe σ js) H2, r4, F3, _, R4, t4, fun b r5 F5 H5 t5 R5 s5 => ?_⟩
    -- an item is left out, or taken
    have next : ∀ {r' : DSt} {F' : Hp} {H' : Hp}, Rel K (here r2 F2 (wipe σ js) H2) r' F' (putsV js vs (wipe σ js)) H' → Rel K W (wipeD r' js) F' (wipe σ js) H' ∧ Rel K (here r2 F2 (wipe σ js) H2) (wipeD r' js) F' (wipe σ js) H' := fun {r' F' H'} R' => by
      have a := (R2'.leave R').wipe js
      have b := R'.wipe js
      rw [wipe_puts] at a b
      exact ⟨a, b⟩
    cases b with
    | false =>
      rw [if_neg Bool.false_ne_true] at t5
      obtain ⟨a, b⟩ := next R5
      obtain ⟨d1, d2, d3⟩ := stayD b
      exact iteF ⟨_, F5, acc, av, a, s2.trans (ex.f.trans s5), d1, pa.up (ex.f.trans s5), d2, d3, Nat.le_succ_of_le hl, t5⟩
    | true =>
      rw [if_pos rfl] at t5
      refine iteT ⟨_, r5, F5, _, R5, t5, fun yd r6 yv F6 H6 t6 R6 s6 py => ?_⟩
      obtain ⟨a, b⟩ := next R6
      obtain ⟨d1, d2, d3⟩ := stayD b
      have sAll := ex.f.trans (s5.trans s6)
      refine ⟨av, d1, ?_, _, F6, acc ++ [yd], av ++ [yv], a.aside d2 h0 d3, s2.trans sAll, upd_same, (pa.up sAll).append (.cons py .nil), d2, d3, ?_, t6⟩
      · rw [pa.length]; omega
      · rw [List.length_append, List.length_singleton]; omega
  · refine .inl ⟨jk.stop i F2 H2 s2 R2'.sub (by omega), ?_⟩
    rw [List.drop_eq_nil_of_le (by omega)] at t2
    exact w _ r2 D _ F2 H2 t2 R2'.unwipe (s1.trans s2) hd fD ⟨av, rfl, pa⟩ h0 (Apart.unwipe R2' ap)
theorem o_comp {X : Cx} {elt tg iter : Expr} {ifs : List Expr} {scope : Scope} {own : List (Str × Nat)} {pos : Pos} {one : Bool} {js : List Nat} {it : DTI} {tt : DTT} {te : DTE} (hc : X.calm = true) (hN : X.N.Nodup) (hi : DI X tg iter it) (ok : BlkOk X.N X.env.scope scope own) (hj : own.map (·.2) = js)
    (hg : ∀ (s : Shared) (H : Hp) (C : Addr) (cl : List (Str × Addr)) (fp : List Addr), PG (X.blk s H scope (compEnvC scope cl C X.env) fp) tg (cTg X.K one js)) (ht : ∀ (s : Shared) (H : Hp) (C : Addr) (cl : List (Str × Addr)) (fp : List Addr), DTs (X.blk s H scope (compEnvC scope cl C X.env) fp) ifs tt)
    (he : ∀ (s : Shared) (H : Hp) (C : Addr) (cl : List (Str × Addr)) (fp : List Addr), DE (X.blk s H scope (compEnvC scope cl C X.env) fp) elt te) (hs : ∀ x, foldedSetIterable iter X.env x = pure x := by intro _; rfl) :
    DO X (.ListComp elt [⟨tg, iter, ifs, 0⟩] scope pos) (oComp one js it tt te) := by
  subst hj
  exact ⟨fun W => pe_weak (pe_lc (tt := anyT X.K tt) (te := anyE X.K te) hc hN (hi.run W) ok hg (fun s H C cl fp => (ht s H C cl fp).run) (fun s H C cl fp => pe_any (he s H C cl fp)) hs) comp_weak⟩
/-- name = [..] on one line -/
theorem ds_setLc {X : Cx} {i : Nat} {y : Str} {py : Pos} {elt tg iter : Expr} {ifs : List Expr} {scope : Scope} {own : List (Str × Nat)} {pos spos : Pos} {one : Bool} {js : List Nat} {it : DTI} {tt : DTT} {te : DTE} (hc : X.calm = true) (hN : X.N.Nodup) (hy : X.N[i]? = some y) (hyl : X.env.scope.names.lookup y = some .local)
    (hsw : swapsWith (.ListComp elt [⟨tg, iter, ifs, 0⟩] scope pos) (some (.Name y py)) spos.line X.env = pure true) (hi : DI X tg iter it) (ok : BlkOk X.N X.env.scope scope own) (hj : own.map (·.2) = js)
    (hg : ∀ (s : Shared) (H : Hp) (C : Addr) (cl : List (Str × Addr)) (fp : List Addr), PG (X.blk s H scope (compEnvC scope cl C X.env) fp) tg (cTg X.K one js)) (ht : ∀ (s : Shared) (H : Hp) (C : Addr) (cl : List (Str × Addr)) (fp : List Addr), DTs (X.blk s H scope (compEnvC scope cl C X.env) fp) ifs tt)
    (he : ∀ (s : Shared) (H : Hp) (C : Addr) (cl : List (Str × Addr)) (fp : List Addr), DE (X.blk s H scope (compEnvC scope cl C X.env) fp) elt te) (hs : ∀ x, foldedSetIterable iter X.env x = pure x := by intro _; rfl) :
    DS X (.Assign [.Name y py] (.ListComp elt [⟨tg, iter, ifs, 0⟩] scope pos) spos) (sSetO i (oComp one js it tt te)) := by
  subst hj
  refine ⟨fun W => ps_weak (ps_setLc (tt := anyT X.K tt) (te := anyE X.K te) hc hN hy hyl hsw (hi.run W) ok hg (fun s H C cl fp => (ht s H C cl fp).run) (fun s H C cl fp => pe_any (he s H C cl fp)) hs) fun D σ H h => ?_⟩
  obtain ⟨r, F, q, R, t, w⟩ := h
  refine comp_weak (W := W) σ H _ ⟨r, F, _, R, t, fun m r' a o F' H' k b c h1 h2 h3 h4 h5 => ?_⟩
  exact w.nx _ _ F' H' (nrm_el k) (b.put i (some (.own m)) (.ref a) ⟨a, o, rfl, h1, h2, h3, .inr h4, fun j n _ z => h5 j n z⟩) c
end DL
end

section
set_option Elab.async false
set_option linter.all false
set_option maxRecDepth 100000
namespace DL
open PySem PySem.Spec PyProof.Rows L2

/-! ## defs -/
/-- a def's promise over data: the arguments, what is wanted of its answer and of the lent objects behind it -/
abbrev DSp := List Cell → (Cell → List M → Prop) → Prop
def cst (cs : List Cell) : DSt := cs.map some
def vst (vs : List V) : St := vs.map some
theorem dat_cst : ∀ {cs : List Cell} {i : Nat}, dat (cst cs) i = cs[i]?
  | [], _ => by simp [cst, dat]
  | c :: cs, 0 => by simp [cst, dat]
  | c :: cs, i + 1 => by
    have := dat_cst (cs := cs) (i := i)
    simpa [cst, dat] using this
theorem vst_get {vs : List V} {i : Nat} : (vst vs)[i]? = (vs[i]?).map some := by unfold vst; rw [List.getElem?_map]
def noOwn (cs : List Cell) : Prop := ∀ (i : Nat) (m : M), cs[i]? ≠ some (Cell.own m)
def ioCount : List Cell → Nat
  | [] => 0
  | .io _ :: cs => ioCount cs + 1
  | _ :: cs => ioCount cs
def putIo : List Cell → List M → List Cell
  | .io _ :: cs, m :: ms => .io m :: putIo cs ms
  | .io c :: cs, [] => .io c :: putIo cs []
  | .sh d :: cs, ms => .sh d :: putIo cs ms
  | .own c :: cs, ms => .own c :: putIo cs ms
  | [], _ => []
/-- the lent objects' contents in the end -/
def ioOuts : List Cell → DSt → Option (List M)
  | [], _ => some []
  | .io _ :: cs, some (.io m) :: r => (ioOuts cs r).map (m :: ·)
  | .io _ :: _, _ => none
  | _ :: cs, _ :: r => ioOuts cs r
  | _ :: cs, [] => ioOuts cs []
theorem ioOuts_len : ∀ {cs : List Cell} {r : DSt} {ms : List M}, ioOuts cs r = some ms → ms.length = ioCount cs
  | [], _, _, h => by cases h; rfl
  | .io _ :: cs, [], _, h => by cases h
  | .io _ :: cs, none :: r, _, h => by cases h
  | .io _ :: cs, some (.sh _) :: r, _, h => by cases h
  | .io _ :: cs, some (.own _) :: r, _, h => by cases h
  | .io _ :: cs, some (.io m) :: r, _, h => by
    unfold ioOuts at h
    cases e : ioOuts cs r with
    | none => rw [e] at h; cases h
    | some l => rw [e] at h; cases h; exact congrArg (· + 1) (ioOuts_len e)
  | .sh _ :: cs, [], _, h => ioOuts_len (cs := cs) (r := []) h
  | .own _ :: cs, [], _, h => ioOuts_len (cs := cs) (r := []) h
  | .sh _ :: cs, _ :: r, _, h => ioOuts_len (cs := cs) (r := r) h
  | .own _ :: cs, _ :: r, _, h => ioOuts_len (cs := cs) (r := r) h
theorem ioOuts_get : ∀ {cs : List Cell} {r : DSt} {ms : List M} {i : Nat} {m : M}, ioOuts cs r = some ms → (putIo cs ms)[i]? = some (Cell.io m) → dat r i = some (Cell.io m) ∧ ∃ n, cs[i]? = some (Cell.io n)
  | [], _, _, _, _, _, e => by simp [putIo] at e
  | .io _ :: cs, [], _, _, _, h, _ => by cases h
  | .io _ :: cs, none :: r, _, _, _, h, _ => by cases h
  | .io _ :: cs, some (.sh _) :: r, _, _, _, h, _ => by cases h
  | .io _ :: cs, some (.own _) :: r, _, _, _, h, _ => by cases h
  | .io c :: cs, some (.io m) :: r, _, i, _, h, e => by
    unfold ioOuts at h
    cases q : ioOuts cs r with
    | none => rw [q] at h; cases h
    | some l =>
      rw [q] at h; cases h
      cases i with
      | zero => simp [putIo] at e; subst e; exact ⟨rfl, c, rfl⟩
      | succ i =>
        have := ioOuts_get (i := i) q (by simpa [putIo] using e)
        exact ⟨this.1, by simpa using this.2⟩
  | .sh _ :: cs, [], _, i, _, h, e => by
    cases i with
    | zero => simp [putIo] at e
    | succ i =>
      have := ioOuts_get (cs := cs) (r := []) (i := i) h (by simpa [putIo] using e)
      exact ⟨by simpa [dat] using this.1, by simpa using this.2⟩
  | .own _ :: cs, [], _, i, _, h, e => by
    cases i with
    | zero => simp [putIo] at e
    | succ i =>
      have := ioOuts_get (cs := cs) (r := []) (i := i) h (by simpa [putIo] using e)
      exact ⟨by simpa [dat] using this.1, by simpa using this.2⟩
  | .sh _ :: cs, _ :: r, _, i, _, h, e => by
    cases i with
    | zero => simp [putIo] at e
    | succ i =>
      have := ioOuts_get (cs := cs) (r := r) (i := i) h (by simpa [putIo] using e)
      exact ⟨this.1, by simpa using this.2⟩
  | .own _ :: cs, _ :: r, _, i, _, h, e => by
    cases i with
    | zero => simp [putIo] at e
    | succ i =>
      have := ioOuts_get (cs := cs) (r := r) (i := i) h (by simpa [putIo] using e)
      exact ⟨this.1, by simpa using this.2⟩
theorem putIo_sh : ∀ {cs : List Cell} {ms : List M} {i : Nat} {d : D}, (putIo cs ms)[i]? = some (Cell.sh d) → cs[i]? = some (Cell.sh d)
  | [], _, _, _, e => by simp [putIo] at e
  | .io _ :: cs, m :: ms, i, d, e => by
    cases i with
    | zero => simp [putIo] at e
    | succ i => simpa using putIo_sh (cs := cs) (ms := ms) (i := i) (by simpa [putIo] using e)
  | .io _ :: cs, [], i, d, e => by
    cases i with
    | zero => simp [putIo] at e
    | succ i => simpa using putIo_sh (cs := cs) (ms := []) (i := i) (by simpa [putIo] using e)
  | .sh _ :: cs, ms, i, d, e => by
    cases i with
    | zero => simpa [putIo] using e
    | succ i => simpa using putIo_sh (cs := cs) (ms := ms) (i := i) (by simpa [putIo] using e)
  | .own _ :: cs, ms, i, d, e => by
    cases i with
    | zero => simp [putIo] at e
    | succ i => simpa using putIo_sh (cs := cs) (ms := ms) (i := i) (by simpa [putIo] using e)
theorem putIo_own : ∀ {cs : List Cell} {ms : List M} {i : Nat} {d : M}, (putIo cs ms)[i]? = some (Cell.own d) → cs[i]? = some (Cell.own d)
  | [], _, _, _, e => by simp [putIo] at e
  | .io _ :: cs, m :: ms, i, d, e => by
    cases i with
    | zero => simp [putIo] at e
    | succ i => simpa using putIo_own (cs := cs) (ms := ms) (i := i) (by simpa [putIo] using e)
  | .io _ :: cs, [], i, d, e => by
    cases i with
    | zero => simp [putIo] at e
    | succ i => simpa using putIo_own (cs := cs) (ms := []) (i := i) (by simpa [putIo] using e)
  | .sh _ :: cs, ms, i, d, e => by
    cases i with
    | zero => simp [putIo] at e
    | succ i => simpa using putIo_own (cs := cs) (ms := ms) (i := i) (by simpa [putIo] using e)
  | .own _ :: cs, ms, i, d, e => by
    cases i with
    | zero => simpa [putIo] using e
    | succ i => simpa using putIo_own (cs := cs) (ms := ms) (i := i) (by simpa [putIo] using e)
theorem putIo_len : ∀ {cs : List Cell} {ms : List M}, (putIo cs ms).length = cs.length
  | [], _ => rfl
  | .io _ :: cs, m :: ms => congrArg (· + 1) (putIo_len (cs := cs) (ms := ms))
  | .io _ :: cs, [] => congrArg (· + 1) (putIo_len (cs := cs) (ms := []))
  | .sh _ :: cs, ms => congrArg (· + 1) (putIo_len (cs := cs) (ms := ms))
  | .own _ :: cs, ms => congrArg (· + 1) (putIo_len (cs := cs) (ms := ms))

/-- what an answer is, seen from the call -/
def Ans (K : PySem.W.Frag) (H F' H' : Hp) : Cell → V → Prop
  | .sh d, v => Rp K F' v d
  | .own m, v => ∃ a o, v = .ref a ∧ H' a = some o ∧ F' a = none ∧ MOk K F' o m ∧ H a = none
  | .io _, _ => False
def liftSp (K : PySem.W.Frag) (n : Nat) (sp : DSp) : Sp := fun vs H Q _ => vs.length = n ∧ ∃ cs F post, cs.length = n ∧ noOwn cs ∧ Rel K (here (cst cs) F (vst vs) H) (cst cs) F (vst vs) H ∧ sp cs post ∧
  ∀ c outs v F' H', post c outs → outs.length = ioCount cs → Rel K (here (cst cs) F (vst vs) H) (cst (putIo cs outs)) F' (vst vs) H' → Ans K H F' H' c v → Q v H'
/-- a body's begin and end over data -/
def startD (n : Nat) (cs : List Cell) : DSt := cst cs ++ List.replicate (n - cs.length) none
def retD (cs : List Cell) (post : Cell → List M → Prop) (c : Cell) (r : DSt) : Prop := match ioOuts cs r with
  | some outs => post c outs
  | none => False
def runD (n : Nat) (b : DTS) (cs : List Cell) (post : Cell → List M → Prop) : Prop :=
  nrm (startD n cs) (b { nx := fun r => retD cs post (.sh .none) r, rt := fun c r => retD cs post c r })
theorem dat_app_none : ∀ {cs : DSt} {k i : Nat} {c : Cell}, dat (cs ++ List.replicate k none) i = some c → dat cs i = some c
  | [], 0, _, _, h => by simp [dat] at h
  | [], k + 1, 0, _, h => by simp [dat, List.replicate_succ] at h
  | [], k + 1, i + 1, _, h => by
    rw [List.nil_append, List.replicate_succ] at h
    have h' : dat (List.replicate k none) i = some _ := h
    have := dat_app_none (cs := []) (k := k) (i := i) (by rw [List.nil_append]; exact h')
    simp [dat] at this
  | c :: cs, k, 0, _, h => h
  | c :: cs, k, i + 1, _, h => dat_app_none (cs := cs) (k := k) (i := i) h
theorem Rel.more {K : PySem.W.Frag} {W : Wd} {cs : DSt} {F H : Hp} {σ : St} (k : Nat) (R : Rel K W cs F σ H) : Rel K W (cs ++ List.replicate k none) F (σ ++ List.replicate k none) H := by
  have lt : ∀ {i : Nat} {c : Cell}, dat cs i = some c → (σ ++ List.replicate k none)[i]? = σ[i]? := fun {i c} h => List.getElem?_append_left (R.len ▸ dat_lt h)
  have dn : ∀ {i : Nat} {m : M}, (dat (cs ++ List.replicate k none) i = some (Cell.own m) ∨ dat (cs ++ List.replicate k none) i = some (Cell.io m)) → (dat cs i = some (Cell.own m) ∨ dat cs i = some (Cell.io m)) ∧ (σ ++ List.replicate k none)[i]? = σ[i]? := fun {i m} h => by
    rcases h with h | h
    · exact ⟨.inl (dat_app_none h), lt (dat_app_none h)⟩
    · exact ⟨.inr (dat_app_none h), lt (dat_app_none h)⟩
  refine ⟨R.sub, R.f0, R.keep, R.there, R.new, fun i d e => ?_, fun i m e => ?_, fun i m e => ?_, R.ioA, fun i j m n a e1 e2 e3 e4 => ?_, by rw [List.length_append, List.length_append, List.length_replicate, List.length_replicate, R.len]⟩
  · have e := dat_app_none e
    rw [lt e]; exact R.sh i d e
  · have e := dat_app_none e
    rw [lt e]; exact R.own i m e
  · have e := dat_app_none e
    rw [lt e]; exact R.io i m e
  · obtain ⟨f1, l1⟩ := dn e1
    obtain ⟨f2, l2⟩ := dn e2
    rw [l1] at e3
    rw [l2] at e4
    exact R.sep i j m n a f1 f2 e3 e4

section
variable {P : Program} {w : World} {K : PySem.W.Frag} {mg : Str → Option Value} {base : Heap}
/-- a def called where no repr runs -/
structure FnG (P : Program) (w : World) (K : PySem.W.Frag) (mg : Str → Option Value) (base : Heap) (CX : CXT) (k : Nat) (f : Addr) (fd : FuncData) (ps : List Str) (sp : Sp) : Prop where
  len : ∀ vs H Q E, sp vs H Q E → vs.length = ps.length
  run : ∀ (A : Around) (outer : List Env) (s : Shared) (H : Hp) (args : Args) (us : List Value) (vs : List V) (Q : VK) (E : XK), Room k A → A.guards = some [] → Env0 P w K mg base A outer s H → BindsTo s fd args (ps.zip us) → Vals vs us → sp vs H Q E →
    codeAny (model P w) A (.call (.ref f) args) (CR CX outer P w H s Q E) s
/-- how a def of the text stands behind the top -/
structure Is (K : PySem.W.Frag) (mg : Str → Option Value) (x : Str) (st : Stmt) (ps : List Str) : Prop where
  ex : ∃ f fd, Fun K x x st f fd ∧ mg x = some (.ref f) ∧ Binds K fd ps []
/-- x is a def that keeps the promise sp, n arguments, level k -/
structure Def (P : Program) (w : World) (K : PySem.W.Frag) (mg : Str → Option Value) (base : Heap) (k : Nat) (x : Str) (n : Nat) (sp : DSp) : Prop where
  ex : ∃ f fd ps, FnG P w K mg base CX0 k f fd ps (liftSp K n sp) ∧ mg x = some (.ref f) ∧ PySem.W.keepIn K (.ref f) = true ∧ Binds K fd ps []
theorem Def.mono {j k : Nat} {x : Str} {n : Nat} {sp : DSp} (h : Def P w K mg base j x n sp) (l : j ≤ k) : Def P w K mg base k x n sp := by
  obtain ⟨f, fd, ps, F, a, b, c⟩ := h.ex
  exact ⟨f, fd, ps, ⟨F.len, fun A outer s H args us vs Q E hr => F.run A outer s H args us vs Q E (hr.mono l)⟩, a, b, c⟩
theorem Def.imp {k : Nat} {x : Str} {n : Nat} {sp sp' : DSp} (h : Def P w K mg base k x n sp) (l : ∀ cs post, sp' cs post → sp cs post) : Def P w K mg base k x n sp' := by
  obtain ⟨f, fd, ps, F, a, b, c⟩ := h.ex
  have up : ∀ vs H Q E, liftSp K n sp' vs H Q E → liftSp K n sp vs H Q E := fun vs H Q E ⟨h1, cs, F, post, h2, h3, h4, h5, h6⟩ => ⟨h1, cs, F, post, h2, h3, h4, l _ _ h5, h6⟩
  exact ⟨f, fd, ps, ⟨fun vs H Q E q => F.len vs H Q E (up _ _ _ _ q), fun A outer s H args us vs Q E hr hg he hb hv hs => F.run A outer s H args us vs Q E hr hg he hb hv (up _ _ _ _ hs)⟩, a, b, c⟩
theorem fng_of {CX : CXT} {x : Str} {st : Stmt} {f : Addr} {fd : FuncData} {N ps : List Str} {k : Nat} {sp : Sp} (F : Fun K x x st f fd) (S : FnScope N ps (defScope st)) (len : ∀ vs H Q E, sp vs H Q E → vs.length = ps.length)
    (hbody : ∀ (cdv : Value) (A : Around) (outer : List Env) (s : Shared) (H : Hp) (vs : List V) (Q : VK) (E : XK), Room k (A.deeper (envOfC x (defScope st) s.heap.objs.size f cdv)) → A.guards = some [] → sp vs H Q E →
      ∃ t, PSs (cxOf CX P w K mg base N x (defScope st) f cdv A outer s H E) (defBody st) t ∧ t { nx := fun _ H' => Q .non H', rt := Q } (start N vs) H) : FnG P w K mg base CX (k + 1) f fd ps sp := by
  obtain ⟨oc, od, kV, doc, pm, an, cdv, ct, osl, rfl, lk, hcd⟩ := F.ex
  refine ⟨len, fun A outer s H args us vs Q E room grd e0 hb rel hs => ?_⟩
  have hl := len _ _ _ _ hs
  have there : ∀ b o, base.get? b = some o → s.heap.get? b = some o := fun b o e => (e0.bs b o e).1
  have inK : K.In s.heap := e0.mod.kin.keeps there
  refine codeAny_call_function room.depth (inK _ _ lk) rfl S.co S.gen rfl (PySem.W.codeRec_of inK hcd) (hb _ _ _ _ ?_)
  refine wpAny_newFunctionEnv_cells S.kind (fun y hy => ?_) fun env he s1 ic => ?_
  · rcases S.par y.1 (List.of_mem_zip (a := y.1) (b := y.2) hy).1 with q | q
    · exact .inl q
    · exact .inr ⟨q, PySem.W.cellsFrom_some _ _ _ (.inl q)⟩
  subst he
  refine ⟨(e0.mod.nolimit.keeps there).keeps ic.toInCall.keep, codeAny_func ?_⟩
  obtain ⟨t, ht, hq⟩ := hbody cdv A outer s H vs Q E (room.deeper _) grd hs
  refine wpAny_mono (ht.run [] s1 (start N vs) H _ (inv_start S room.hd e0 hl rel ic) hq) (fun fl s' out => ?_) fun e s' out => out
  cases fl with
  | ret u =>
    obtain ⟨v, σ', H', J, rv, q⟩ := out
    exact ⟨v, H', J.os, J.bare, J.base, J.hok, rv, q⟩
  | next =>
    obtain ⟨σ', H', J, q⟩ := out
    exact ⟨V.non, H', J.os, J.bare, J.base, J.hok, rfl, q⟩
  | brk => obtain ⟨_, _, _, q⟩ := out; exact q.elim
  | cont => obtain ⟨_, _, _, q⟩ := out; exact q.elim

/-- THE RULE of a def: its body's reading b, and that b keeps the promise -/
theorem def_of {x : Str} {st : Stmt} {N ps : List Str} {k : Nat} {sp : DSp} {b : DTS} (I : Is K mg x st ps) (S : FnScope N ps (defScope st)) (hps : ps.length ≤ N.length)
    (hb : ∀ (f : Addr) (cdv : Value) (A : Around) (outer : List Env) (s : Shared) (H : Hp), Room k (A.deeper (envOfC x (defScope st) s.heap.objs.size f cdv)) → A.guards = some [] →
      DSs (cxOf CX0 P w K mg base N x (defScope st) f cdv A outer s H E0).nox (defBody st) b)
    (hp : ∀ cs post, cs.length = ps.length → sp cs post → runD N.length b cs post) : Def P w K mg base (k + 1) x ps.length sp := by
  obtain ⟨f, fd, F, hm, bi⟩ := I.ex
  refine ⟨f, fd, ps, fng_of F S (fun vs H Q E h => h.1) (fun cdv A outer s H vs Q E room grd hs => ?_), hm, F.kp, bi⟩
  obtain ⟨hl, cs, F1, post, hcl, no, R, hsp, out⟩ := hs
  have hX := hb f cdv A outer s H room grd
  have hr := nrm_el (hp cs post hcl hsp)
  refine ⟨liftS K (here (cst cs) F1 (vst vs) H) b, (hX.run _).nox, startD N.length cs, F1, _, ?_, hr, ?_⟩
  · have q := R.more (N.length - vs.length)
    have e1 : startD N.length cs = cst cs ++ List.replicate (N.length - vs.length) none := by unfold startD; rw [hcl, hl]
    have e2 : start N vs = vst vs ++ List.replicate (N.length - vs.length) none := rfl
    rw [e1, e2]; exact q
  · have fin : ∀ {c : Cell} {r : DSt} {v : V} {σ : St} {F' H' : Hp}, retD cs post c r → Rel K (here (cst cs) F1 (vst vs) H) r F' σ H' → Same F1 F' → ResOk K (here (cst cs) F1 (vst vs) H) F' H' r σ c v → Q v H' := fun {c r v σ F' H'} h1 R' s1 res => by
      unfold retD at h1
      cases e : ioOuts cs r with
      | none => rw [e] at h1; exact h1.elim
      | some outs =>
        rw [e] at h1
        have notown : ∀ i m, dat (cst (putIo cs outs)) i ≠ some (Cell.own m) := fun i m z => by
          rw [dat_cst] at z; exact no i m (putIo_own z)
        have ioR : ∀ i m, dat (cst (putIo cs outs)) i = some (Cell.io m) → dat r i = some (Cell.io m) ∧ ∃ n, dat (cst cs) i = some (Cell.io n) := fun i m z => by
          rw [dat_cst] at z
          obtain ⟨a, n, b⟩ := ioOuts_get e z
          exact ⟨a, n, by rw [dat_cst]; exact b⟩
        have R2 : Rel K (here (cst cs) F1 (vst vs) H) (cst (putIo cs outs)) F' (vst vs) H' := by
          refine ⟨R'.sub, R'.f0, R'.keep, R'.there, R'.new, fun i d z => ?_, fun i m z => absurd z (notown i m), fun i m z => ?_, R'.ioA, fun i j m n a z1 z2 z3 z4 => ?_, ?_⟩
          · rw [dat_cst] at z
            obtain ⟨v, q1, q2⟩ := R.sh i d (by rw [dat_cst]; exact putIo_sh z)
            exact ⟨v, q1, q2.up s1⟩
          · obtain ⟨a, o, q1, q2, q3, q4, q5⟩ := R'.io i m (ioR i m z).1
            exact ⟨a, o, q5.2, q2, q3, q4, q5⟩
          · have key : ∀ {i : Nat} {m : M}, (dat (cst (putIo cs outs)) i = some (Cell.own m) ∨ dat (cst (putIo cs outs)) i = some (Cell.io m)) → ∃ n, dat (cst cs) i = some (Cell.io n) := fun {i m} z => by
              rcases z with z | z
              · exact absurd z (notown i m)
              · exact (ioR i m z).2
            obtain ⟨m', z1⟩ := key z1
            obtain ⟨n', z2⟩ := key z2
            exact R.sep i j m' n' a (.inr z1) (.inr z2) z3 z4
          · have q := R.len
            unfold cst at q ⊢
            rw [List.length_map] at q ⊢
            rw [putIo_len]; exact q
        refine out c outs v F' H' h1 (ioOuts_len e) R2 ?_
        cases c with
        | sh d => exact res
        | io m => exact res.elim
        | own m =>
          obtain ⟨a, o, q1, q2, q3, q4, q5, q6⟩ := res
          refine ⟨a, o, q1, q2, q3, q4, ?_⟩
          rcases q5 with z | z
          · obtain ⟨i, n, z1, z2⟩ := z
            have z1' : dat (cst cs) i = some (Cell.io n) := by
              rcases z1 with z1 | z1
              · rw [dat_cst] at z1; exact absurd z1 (no i n)
              · exact z1
            -- the lent slot i is lent still
            have hlent : ∃ m', (putIo cs outs)[i]? = some (Cell.io m') := by
              have hi : i < (putIo cs outs).length := by
                rw [putIo_len]
                rw [dat_cst] at z1'
                exact (List.getElem?_eq_some_iff.mp z1').1
              have e3 : (putIo cs outs)[i]? = some (putIo cs outs)[i] := by simp [hi]
              cases e4 : (putIo cs outs)[i] with
              | sh d =>
                rw [e4] at e3
                have := putIo_sh e3
                rw [dat_cst, this] at z1'; cases z1'
              | own d =>
                rw [e4] at e3
                exact absurd (putIo_own e3) (no i d)
              | io m' => exact ⟨m', by rw [e3, e4]⟩
            obtain ⟨m', e5⟩ := hlent
            have e6 := (ioR i m' (by rw [dat_cst]; exact e5)).1
            obtain ⟨a', o', k1, k2, k3, k4, k5⟩ := R'.io i m' e6
            have e7 := k5.2
            rw [z2] at e7; cases e7
            exact absurd k1 (q6 i m' e6)
          · exact z
    exact ⟨fun r σ F' H' a b c => fin a b c .non, fun r σ F' H' a b c => a.elim, fun r σ F' H' a b c => a.elim, fun c r v σ F' H' a b k d => fin a b k d⟩
end

/-! ## calls of defs -/
abbrev Arg := Sum D Nat
abbrev DTC := DSt → (List Arg → DSt → Prop) → Prop
inductive ArgOk (K : PySem.W.Frag) (F : Hp) (σ : St) : List Arg → List V → Prop
  | nil : ArgOk K F σ [] []
  | d {d : D} {v : V} {as : List Arg} {vs : List V} : Rp K F v d → ArgOk K F σ as vs → ArgOk K F σ (.inl d :: as) (v :: vs)
  | i {i : Nat} {v : V} {as : List Arg} {vs : List V} : σ[i]? = some (some v) → ArgOk K F σ as vs → ArgOk K F σ (.inr i :: as) (v :: vs)
theorem ArgOk.up {K : PySem.W.Frag} {F F' : Hp} {σ : St} (s : Same F F') : ∀ {as : List Arg} {vs : List V}, ArgOk K F σ as vs → ArgOk K F' σ as vs
  | _, _, .nil => .nil
  | _, _, .d p t => .d (p.up s) (ArgOk.up s t)
  | _, _, .i p t => .i p (ArgOk.up s t)
theorem ArgOk.len {K : PySem.W.Frag} {F : Hp} {σ : St} : ∀ {as : List Arg} {vs : List V}, ArgOk K F σ as vs → as.length = vs.length
  | _, _, .nil => rfl
  | _, _, .d _ t => congrArg (· + 1) t.len
  | _, _, .i _ t => congrArg (· + 1) t.len
theorem ArgOk.getd {K : PySem.W.Frag} {F : Hp} {σ : St} : ∀ {as : List Arg} {vs : List V} {k : Nat} {d : D}, ArgOk K F σ as vs → as[k]? = some (.inl d) → ∃ v, vs[k]? = some v ∧ Rp K F v d
  | _, _, _, _, .nil, e => by simp at e
  | _, _, 0, _, .d p _, e => by simp at e; subst e; exact ⟨_, rfl, p⟩
  | _, _, 0, _, .i p _, e => by simp at e
  | _, _, k + 1, _, .d _ t, e => by simpa using ArgOk.getd t (by simpa using e)
  | _, _, k + 1, _, .i _ t, e => by simpa using ArgOk.getd t (by simpa using e)
theorem ArgOk.geti {K : PySem.W.Frag} {F : Hp} {σ : St} : ∀ {as : List Arg} {vs : List V} {k j : Nat}, ArgOk K F σ as vs → as[k]? = some (.inr j) → ∃ v, vs[k]? = some v ∧ σ[j]? = some (some v)
  | _, _, _, _, .nil, e => by simp at e
  | _, _, 0, _, .d p _, e => by simp at e
  | _, _, 0, _, .i p _, e => by simp at e; subst e; exact ⟨_, rfl, p⟩
  | _, _, k + 1, _, .d _ t, e => by simpa using ArgOk.geti t (by simpa using e)
  | _, _, k + 1, _, .i _ t, e => by simpa using ArgOk.geti t (by simpa using e)
def liftC (K : PySem.W.Frag) (W : Wd) (t : DTC) : TA := fun σ H Q => ∃ r F q, Rel K W r F σ H ∧ t r q ∧ ∀ as r' vs F' H', q as r' → Rel K W r' F' σ H' → Same F F' → ArgOk K F' σ as vs → Q vs H'
structure DC (X : Cx) (es : List Expr) (t : DTC) : Prop where
  run : ∀ W, PA X es (liftC X.K W t)
def cNil : DTC := fun r q => q [] r
def cCons (ta : DTE) (tr : DTC) : DTC := fun r q => ta r fun x r1 => tr r1 fun xs r2 => q (.inl x :: xs) r2
def cIo (i : Nat) (tr : DTC) : DTC := fun r q => mutAt r i = true ∧ tr r fun xs r2 => q (.inr i :: xs) r2
section
variable {X : Cx}
theorem c_nil : DC X [] cNil := by
  refine ⟨fun W => pa_weak pa_nil fun σ H Q h => ?_⟩
  obtain ⟨r, F, q, R, t, w⟩ := h
  exact w [] r [] F H t R (Same.refl _) .nil
theorem c_cons {e : Expr} {es : List Expr} {ta : DTE} {tr : DTC} (ha : DE X e ta) (hr : DC X es tr) (hs : starEach (e :: es) X.env = (false, eval e X.env) :: starEach es X.env := by rfl) : DC X (e :: es) (cCons ta tr) := by
  refine ⟨fun W => pa_weak (pa_cons (ha.run W) (hr.run W) hs) fun σ H Q h => ?_⟩
  obtain ⟨r, F, q, R, t, w⟩ := h
  refine ⟨r, F, _, R, t, fun dx r1 v1 F1 H1 t1 R1 s1 p1 => ⟨r1, F1, _, R1, t1, fun ds rr vs F2 H2 t2 R2' s2 p2 => ?_⟩⟩
  exact w _ rr _ F2 H2 t2 R2' (s1.trans s2) (.d (p1.up s2) p2)
theorem c_io (i : Nat) {x : Str} {p : Pos} {es : List Expr} {tr : DTC} (hr : DC X es tr) (hN : X.N[i]? = some x := by rfl) (hv : Vis X.env.scope x := by first | exact Or.inl rfl | exact Or.inr (Or.inl rfl) | exact Or.inr (Or.inr rfl)) (hd : (x == ("__debug__" : Str)) = false := by decide)
    (hcd : (x == ("__classdict__" : Str)) = false := by decide) (hs : starEach (.Name x p :: es) X.env = (false, eval (.Name x p) X.env) :: starEach es X.env := by rfl) : DC X (.Name x p :: es) (cIo i tr) := by
  refine ⟨fun W => pa_weak (pa_cons (pe_var hN hv hd hcd) (hr.run W) hs) fun σ H Q h => ?_⟩
  obtain ⟨r, F, q, R, ⟨m, t⟩, w⟩ := h
  obtain ⟨n, io, a, e0, e1⟩ := mutAt_get R m
  exact ⟨_, e1, r, F, _, R, t, fun as r' vs F' H' a b c p => w _ r' _ F' H' a b c (.i e1 p)⟩
end
def cellsOf (r : DSt) : List Arg → Option (List Cell)
  | [] => some []
  | .inl d :: as => (cellsOf r as).map (.sh d :: ·)
  | .inr j :: as => match dat r j with
    | some (.own m) => (cellsOf r as).map (.io m :: ·)
    | some (.io m) => (cellsOf r as).map (.io m :: ·)
    | _ => none
def ixs : List Arg → List Nat
  | [] => []
  | .inl _ :: as => ixs as
  | .inr j :: as => j :: ixs as
def putM : DSt → Nat → M → DSt
  | [], _, _ => []
  | some (.own _) :: t, 0, m => some (.own m) :: t
  | some (.io _) :: t, 0, m => some (.io m) :: t
  | some (.sh d) :: t, 0, _ => some (.sh d) :: t
  | none :: t, 0, _ => none :: t
  | c :: t, i + 1, m => c :: putM t i m
theorem putM_eq : ∀ (r : DSt) (j : Nat) (m : M), putM r j m = match dat r j with
    | some (.own _) => dput r j (some (.own m))
    | some (.io _) => dput r j (some (.io m))
    | _ => r
  | [], _, _ => by simp [putM, dat]
  | some (.own _) :: t, 0, m => rfl
  | some (.io _) :: t, 0, m => rfl
  | some (.sh _) :: t, 0, m => rfl
  | none :: t, 0, m => rfl
  | c :: t, i + 1, m => by
    have h := putM_eq t i m
    have e : putM (c :: t) (i + 1) m = c :: putM t i m := by cases c with
      | none => rfl
      | some c => cases c <;> rfl
    rw [e, h]
    show _ = match dat t i with
      | some (.own _) => c :: dput t i (some (.own m))
      | some (.io _) => c :: dput t i (some (.io m))
      | _ => c :: t
    cases dat t i with
    | none => rfl
    | some d => cases d <;> rfl
def putOuts (r : DSt) : List Arg → List M → DSt
  | [], _ => r
  | .inl _ :: as, ms => putOuts r as ms
  | .inr j :: as, m :: ms => putOuts (putM r j m) as ms
  | .inr _ :: _, [] => r
def outAt : List Arg → List M → Nat → Option M
  | [], _, _ => none
  | .inl _ :: as, ms, i => outAt as ms i
  | .inr j :: as, m :: ms, i => if j = i then some m else outAt as ms i
  | .inr _ :: _, [], _ => none
theorem outAt_none {ms : List M} {i : Nat} : ∀ {as : List Arg}, i ∉ ixs as → outAt as ms i = none := by
  intro as
  induction as generalizing ms with
  | nil => intro _; rfl
  | cons a as ih =>
    intro h
    cases a with
    | inl d => exact ih h
    | inr j =>
      cases ms with
      | nil => rfl
      | cons m ms =>
        have hj : j ≠ i := fun z => h (by rw [z]; exact List.mem_cons_self)
        show (if j = i then some m else outAt as ms i) = none
        rw [if_neg hj]
        exact ih fun z => h (List.mem_cons_of_mem _ z)
/-- a slot behind the call -/
def after (o : Option M) (c : Option Cell) : Option Cell := match o, c with
  | some m, some (.own _) => some (.own m)
  | some m, some (.io _) => some (.io m)
  | _, c => c
theorem dat_putM {r : DSt} {j : Nat} {m : M} (i : Nat) : dat (putM r j m) i = if j = i then after (some m) (dat r i) else dat r i := by
  rw [putM_eq]
  by_cases h : j = i
  · subst h
    rw [if_pos rfl]
    cases e : dat r j with
    | none => simp only [after]; exact e
    | some c =>
      have hl := dat_lt e
      cases c with
      | sh d => simp only [after]; exact e
      | own n => simp only [after]; exact dat_put_same hl
      | io n => simp only [after]; exact dat_put_same hl
  · rw [if_neg h]
    split
    · exact dat_put_ne h
    · exact dat_put_ne h
    · rfl
theorem dat_putOuts (i : Nat) : ∀ {as : List Arg} {r : DSt} {ms : List M}, (ixs as).Nodup → dat (putOuts r as ms) i = after (outAt as ms i) (dat r i) := by
  intro as
  induction as with
  | nil => intro r ms _; simp [putOuts, outAt, after]
  | cons a as ih =>
    intro r ms nd
    cases a with
    | inl d => exact ih nd
    | inr j =>
      cases ms with
      | nil => simp [putOuts, outAt, after]
      | cons m ms =>
        have nd' := List.nodup_cons.mp nd
        show dat (putOuts (putM r j m) as ms) i = after (if j = i then some m else outAt as ms i) (dat r i)
        rw [ih nd'.2, dat_putM]
        by_cases h : j = i
        · subst h
          rw [if_pos rfl, if_pos rfl, outAt_none nd'.1]
          simp only [after]
        · rw [if_neg h, if_neg h]
theorem putOuts_len : ∀ {as : List Arg} {r : DSt} {ms : List M}, (putOuts r as ms).length = r.length := by
  intro as
  induction as with
  | nil => intro r ms; rfl
  | cons a as ih =>
    intro r ms
    cases a with
    | inl d => exact ih
    | inr j =>
      cases ms with
      | nil => rfl
      | cons m ms =>
        show (putOuts (putM r j m) as ms).length = r.length
        rw [ih]
        rw [putM_eq]
        split
        · exact dput_len _ _ _
        · exact dput_len _ _ _
        · rfl
theorem cells_len : ∀ {as : List Arg} {r : DSt} {cs : List Cell}, cellsOf r as = some cs → cs.length = as.length := by
  intro as
  induction as with
  | nil => intro r cs h; cases h; rfl
  | cons a as ih =>
    intro r cs h
    cases a with
    | inl d =>
      unfold cellsOf at h
      cases e : cellsOf r as with
      | none => rw [e] at h; cases h
      | some l => rw [e] at h; cases h; exact congrArg (· + 1) (ih e)
    | inr j =>
      unfold cellsOf at h
      cases e : cellsOf r as with
      | none => split at h <;> first | (rw [e] at h; cases h) | cases h
      | some l =>
        split at h
        · rw [e] at h; cases h; exact congrArg (· + 1) (ih e)
        · rw [e] at h; cases h; exact congrArg (· + 1) (ih e)
        · cases h
theorem cells_get : ∀ {as : List Arg} {r : DSt} {cs : List Cell} {i : Nat} {c : Cell}, cellsOf r as = some cs → cs[i]? = some c →
    (∃ d, c = .sh d ∧ as[i]? = some (.inl d)) ∨ (∃ j m, c = .io m ∧ as[i]? = some (.inr j) ∧ (dat r j = some (Cell.own m) ∨ dat r j = some (Cell.io m))) := by
  intro as
  induction as with
  | nil => intro r cs i c h e; cases h; simp at e
  | cons a as ih =>
    intro r cs i c h e
    cases a with
    | inl d =>
      unfold cellsOf at h
      cases q : cellsOf r as with
      | none => rw [q] at h; cases h
      | some l =>
        rw [q] at h; cases h
        cases i with
        | zero => simp at e; subst e; exact .inl ⟨d, rfl, rfl⟩
        | succ i =>
          have := ih (i := i) q (by simpa using e)
          simpa using this
    | inr j =>
      unfold cellsOf at h
      cases q : cellsOf r as with
      | none => split at h <;> first | (rw [q] at h; cases h) | cases h
      | some l =>
        split at h
        · rename_i m em
          rw [q] at h; cases h
          cases i with
          | zero => simp at e; subst e; exact .inr ⟨j, m, rfl, rfl, .inl em⟩
          | succ i =>
            have := ih (i := i) q (by simpa using e)
            simpa using this
        · rename_i m em
          rw [q] at h; cases h
          cases i with
          | zero => simp at e; subst e; exact .inr ⟨j, m, rfl, rfl, .inr em⟩
          | succ i =>
            have := ih (i := i) q (by simpa using e)
            simpa using this
        · cases h
theorem out_get : ∀ {as : List Arg} {r : DSt} {cs : List Cell} {ms : List M} {j : Nat} {m : M}, cellsOf r as = some cs → outAt as ms j = some m → ∃ i : Nat, as[i]? = some (Sum.inr j) ∧ (putIo cs ms)[i]? = some (Cell.io m) := by
  intro as
  induction as with
  | nil => intro r cs ms j m _ h; cases h
  | cons a as ih =>
    intro r cs ms j m h e
    cases a with
    | inl d =>
      unfold cellsOf at h
      cases q : cellsOf r as with
      | none => rw [q] at h; cases h
      | some l =>
        rw [q] at h; cases h
        obtain ⟨i, h1, h2⟩ := ih q e
        exact ⟨i + 1, by simpa using h1, by simpa [putIo] using h2⟩
    | inr k =>
      unfold cellsOf at h
      cases ms with
      | nil => cases e
      | cons n ms =>
        have e' : (if k = j then some n else outAt as ms j) = some m := e
        have go : ∀ {l : List Cell} {n0 : M}, cellsOf r as = some l → ∃ i : Nat, (Sum.inr k :: as : List Arg)[i]? = some (Sum.inr j) ∧ (putIo (.io n0 :: l) (n :: ms))[i]? = some (Cell.io m) := fun {l n0} q => by
          by_cases hk : k = j
          · rw [if_pos hk] at e'; cases e'
            exact ⟨0, by simp [hk], by simp [putIo]⟩
          · rw [if_neg hk] at e'
            obtain ⟨i, h1, h2⟩ := ih q e'
            exact ⟨i + 1, by simpa using h1, by simpa [putIo] using h2⟩
        cases q : cellsOf r as with
        | none => split at h <;> first | (rw [q] at h; cases h) | cases h
        | some l =>
          split at h
          · rw [q] at h; cases h; exact go q
          · rw [q] at h; cases h; exact go q
          · cases h
theorem out_some : ∀ {as : List Arg} {r : DSt} {cs : List Cell} {ms : List M} {i j : Nat}, cellsOf r as = some cs → ms.length = ioCount cs → as[i]? = some (Sum.inr j) → ∃ m, outAt as ms j = some m := by
  intro as
  induction as with
  | nil => intro r cs ms i j _ _ h; simp at h
  | cons a as ih =>
    intro r cs ms i j h hl e
    cases a with
    | inl d =>
      unfold cellsOf at h
      cases q : cellsOf r as with
      | none => rw [q] at h; cases h
      | some l =>
        rw [q] at h; cases h
        cases i with
        | zero => simp at e
        | succ i => exact ih (i := i) q hl (by simpa using e)
    | inr k =>
      unfold cellsOf at h
      have go : ∀ {l : List Cell} {n0 : M}, cellsOf r as = some l → ms.length = ioCount (.io n0 :: l) → ∃ m, outAt (.inr k :: as) ms j = some m := fun {l n0} q hl => by
        cases ms with
        | nil => cases hl
        | cons n ms =>
          by_cases hk : k = j
          · exact ⟨n, by show (if k = j then some n else outAt as ms j) = some n; rw [if_pos hk]⟩
          · cases i with
            | zero => simp at e; exact absurd e hk
            | succ i =>
              obtain ⟨m, hm⟩ := ih (i := i) q (Nat.succ.inj hl) (by simpa using e)
              exact ⟨m, by show (if k = j then some n else outAt as ms j) = some m; rw [if_neg hk]; exact hm⟩
      cases q : cellsOf r as with
      | none => split at h <;> first | (rw [q] at h; cases h) | cases h
      | some l =>
        split at h
        · rw [q] at h; cases h; exact go q hl
        · rw [q] at h; cases h; exact go q hl
        · cases h
theorem ixs_uniq : ∀ {as : List Arg} {i k j : Nat}, (ixs as).Nodup → as[i]? = some (.inr j) → as[k]? = some (.inr j) → i = k := by
  have mem : ∀ {as : List Arg} {i j : Nat}, as[i]? = some (.inr j) → j ∈ ixs as := by
    intro as
    induction as with
    | nil => intro i j h; simp at h
    | cons a as ih =>
      intro i j h
      cases i with
      | zero => simp at h; subst h; exact List.mem_cons_self
      | succ i =>
        have := ih (i := i) (by simpa using h)
        cases a with
        | inl d => exact this
        | inr k => exact List.mem_cons_of_mem _ this
  intro as
  induction as with
  | nil => intro i k j _ h; simp at h
  | cons a as ih =>
    intro i k j nd h1 h2
    cases a with
    | inl d =>
      cases i with
      | zero => simp at h1
      | succ i =>
        cases k with
        | zero => simp at h2
        | succ k => exact congrArg (· + 1) (ih nd (by simpa using h1) (by simpa using h2))
    | inr l =>
      have nd' := List.nodup_cons.mp nd
      cases i with
      | zero =>
        simp at h1; subst h1
        cases k with
        | zero => rfl
        | succ k => exact absurd (mem (by simpa using h2)) nd'.1
      | succ i =>
        cases k with
        | zero =>
          simp at h2; subst h2
          exact absurd (mem (by simpa using h1)) nd'.1
        | succ k => exact congrArg (· + 1) (ih nd'.2 (by simpa using h1) (by simpa using h2))

def callR (n : Nat) (sp : DSp) (tc : DTC) (r : DSt) (q : Cell → DSt → Prop) : Prop := tc r fun as r1 => as.length = n ∧ match cellsOf r1 as with
  | some cs => (ixs as).Nodup ∧ sp cs fun c outs => nrm (putOuts r1 as outs) (q c)
  | none => False
def asE (q : D → DSt → Prop) (c : Cell) (r : DSt) : Prop := match c with
  | .sh d => q d r
  | .own (.lst ds) => q (.list ds) r
  | _ => False
def asO (q : M → DSt → Prop) (c : Cell) (r : DSt) : Prop := match c with
  | .own m => q m r
  | _ => False
def eCallF (n : Nat) (sp : DSp) (tc : DTC) : DTE := fun r q => callR n sp tc r (asE q)
def oCallF (n : Nat) (sp : DSp) (tc : DTC) : DTO := fun r q => callR n sp tc r (asO q)
section
variable {K : PySem.W.Frag} {W : Wd} {r : DSt} {F : Hp} {σ : St} {H : Hp}
theorem Rel.args {as : List Arg} {cs : List Cell} {vs : List V} (R : Rel K W r F σ H) (h : cellsOf r as = some cs) (nd : (ixs as).Nodup) (a : ArgOk K F σ as vs) : Rel K (here (cst cs) F (vst vs) H) (cst cs) F (vst vs) H ∧ noOwn cs := by
  have no : noOwn cs := fun i m z => by
    rcases cells_get h z with ⟨d, e, _⟩ | ⟨j, n, e, _⟩ <;> cases e
  have io : ∀ {i : Nat} {m : M}, dat (cst cs) i = some (Cell.io m) → ∃ (j : Nat) (b : Addr) (o : HO), as[i]? = some (Sum.inr j) ∧ vs[i]? = some (V.ref b) ∧ σ[j]? = some (some (V.ref b)) ∧ H b = some o ∧ F b = none ∧ MOk K F o m ∧ (∃ n, dat r j = some (Cell.own n) ∨ dat r j = some (Cell.io n)) := fun {i m} e => by
    rw [dat_cst] at e
    rcases cells_get h e with ⟨d, z, _⟩ | ⟨j, n, z, e1, e2⟩
    · cases z
    · cases z
      obtain ⟨v, k1, k2⟩ := a.geti e1
      rcases e2 with e2 | e2
      · obtain ⟨b, o, h1, h2, h3, h4, _⟩ := R.own j m e2
        rw [k2] at h1; cases h1
        exact ⟨j, b, o, e1, k1, k2, h2, h3, h4, m, .inl e2⟩
      · obtain ⟨b, o, h1, h2, h3, h4, _⟩ := R.io j m e2
        rw [k2] at h1; cases h1
        exact ⟨j, b, o, e1, k1, k2, h2, h3, h4, m, .inr e2⟩
  refine ⟨⟨R.sub, Same.refl _, fun b o e _ => e, fun b e => e, fun b e => .inl e, fun i d e => ?_, fun i m e => ?_, fun i m e => ?_, fun i b e => ?_, fun i j m n b e1 e2 e3 e4 => ?_, ?_⟩, no⟩
  · rw [dat_cst] at e
    rcases cells_get h e with ⟨d', z, e1⟩ | ⟨j, n, z, _⟩
    · cases z
      obtain ⟨v, k1, k2⟩ := a.getd e1
      exact ⟨v, by rw [vst_get, k1]; rfl, k2⟩
    · cases z
  · rw [dat_cst] at e; exact absurd e (no i m)
  · obtain ⟨j, b, o, e1, k1, k2, h2, h3, h4, _⟩ := io e
    have k3 : (vst vs)[i]? = some (some (V.ref b)) := by rw [vst_get, k1]; rfl
    exact ⟨b, o, k3, h2, h3, h4, ⟨m, e⟩, k3⟩
  · obtain ⟨⟨m, e1⟩, e2⟩ := e
    exact ⟨i, m, .inr e1, e2⟩
  · have key : ∀ {i : Nat} {m : M}, (dat (cst cs) i = some (Cell.own m) ∨ dat (cst cs) i = some (Cell.io m)) → dat (cst cs) i = some (Cell.io m) := fun {i m} z => by
      rcases z with z | z
      · rw [dat_cst] at z; exact absurd z (no i m)
      · exact z
    obtain ⟨j1, b1, o1, a1, k1, l1, _, _, _, n1, f1⟩ := io (key e1)
    obtain ⟨j2, b2, o2, a2, k2, l2, _, _, _, n2, f2⟩ := io (key e2)
    rw [vst_get, k1] at e3
    rw [vst_get, k2] at e4
    have e3' : V.ref b1 = V.ref b := Option.some.inj (Option.some.inj e3)
    have e4' : V.ref b2 = V.ref b := Option.some.inj (Option.some.inj e4)
    cases e3'; cases e4'
    have hj := R.sep j1 j2 n1 n2 _ f1 f2 l1 l2
    subst hj
    exact ixs_uniq nd a1 a2
  · unfold cst vst
    rw [List.length_map, List.length_map, cells_len h, a.len]
theorem Rel.back {as : List Arg} {cs : List Cell} {vs : List V} {outs : List M} {F' H' : Hp} (R : Rel K W r F σ H) (h : cellsOf r as = some cs) (nd : (ixs as).Nodup) (a : ArgOk K F σ as vs) (hl : outs.length = ioCount cs)
    (Rc : Rel K (here (cst cs) F (vst vs) H) (cst (putIo cs outs)) F' (vst vs) H') : Rel K W (putOuts r as outs) F' σ H' := by
  -- a lent address is a slot's of ours that was handed in
  have lent : ∀ {b : Addr}, AtSlot (cst cs) (vst vs) b → ∃ (i j : Nat) (m : M), as[i]? = some (Sum.inr j) ∧ σ[j]? = some (some (V.ref b)) ∧ (dat r j = some (Cell.own m) ∨ dat r j = some (Cell.io m)) := fun {b} ⟨i, m, e, z⟩ => by
    have e' : cs[i]? = some (Cell.own m) ∨ cs[i]? = some (Cell.io m) := by
      rcases e with e | e
      · rw [dat_cst] at e; exact .inl e
      · rw [dat_cst] at e; exact .inr e
    have : ∃ j : Nat, as[i]? = some (Sum.inr j) ∧ ∃ n : M, (dat r j = some (Cell.own n) ∨ dat r j = some (Cell.io n)) := by
      rcases e' with e' | e'
      · rcases cells_get h e' with ⟨d, z, _⟩ | ⟨j, n, z, _⟩ <;> cases z
      · rcases cells_get h e' with ⟨d, z, _⟩ | ⟨j, n, z, e1, e2⟩
        · cases z
        · exact ⟨j, e1, n, e2⟩
    obtain ⟨j, e1, n, e2⟩ := this
    obtain ⟨v, k1, k2⟩ := a.geti e1
    rw [vst_get, k1] at z
    have z' : v = V.ref b := Option.some.inj (Option.some.inj z)
    subst z'
    exact ⟨i, j, n, e1, k2, e2⟩
  have ours : ∀ {b : Addr}, AtSlot (cst cs) (vst vs) b → W.A b ∨ W.H0 b = none := fun {b} z => by
    obtain ⟨i, j, m, _, e2, e3⟩ := lent z
    exact R.atSlot ⟨j, m, e3, e2⟩
  have h0 : ∀ {b : Addr}, H b = none → W.H0 b = none := fun {b} e => by
    cases q : W.H0 b with
    | none => rfl
    | some u => exact absurd e (R.there b (ne_none q))
  -- one slot that holds an object, behind the call
  have slot : ∀ {j : Nat} {m0 m : M}, (dat r j = some (Cell.own m0) ∨ dat r j = some (Cell.io m0)) → (outAt as outs j = some m ∨ (outAt as outs j = none ∧ m = m0)) →
      ∃ b o, σ[j]? = some (some (V.ref b)) ∧ H' b = some o ∧ F' b = none ∧ MOk K F' o m := fun {j m0 m} e z => by
    obtain ⟨b, o, h1, h2, h3, h4⟩ : ∃ b o, σ[j]? = some (some (V.ref b)) ∧ H b = some o ∧ F b = none ∧ MOk K F o m0 := by
      rcases e with e | e
      · obtain ⟨b, o, h1, h2, h3, h4, _⟩ := R.own j m0 e
        exact ⟨b, o, h1, h2, h3, h4⟩
      · obtain ⟨b, o, h1, h2, h3, h4, _⟩ := R.io j m0 e
        exact ⟨b, o, h1, h2, h3, h4⟩
    rcases z with z | ⟨z, rfl⟩
    · obtain ⟨i, e1, e2⟩ := out_get h z
      obtain ⟨b', o', k1, k2, k3, k4, k5⟩ := Rc.io i m (by rw [dat_cst]; exact e2)
      obtain ⟨v, l1, l2⟩ := a.geti e1
      rw [vst_get, l1] at k1
      have k1' : v = V.ref b' := Option.some.inj (Option.some.inj k1)
      subst k1'
      exact ⟨b', o', l2, k2, k3, k4⟩
    · have nA : ¬ AtSlot (cst cs) (vst vs) b := fun y => by
        obtain ⟨i, j', m', e1, e2, e3⟩ := lent y
        have hj := R.sep j j' _ _ b e e3 h1 e2
        subst hj
        obtain ⟨m2, e4⟩ := out_some h hl e1
        rw [z] at e4; cases e4
      refine ⟨b, o, h1, Rc.keep b o h2 nA, ?_, h4.up Rc.f0⟩
      cases q : F' b with
      | none => rfl
      | some u =>
        rcases Rc.new b (ne_none q) with y | y | y
        · exact absurd h3 y
        · have y' : H b = none := y
          rw [h2] at y'; cases y'
        · exact absurd y nA
  have key : ∀ {j : Nat} {c : Cell}, dat (putOuts r as outs) j = some c → (∃ d, c = .sh d ∧ dat r j = some (Cell.sh d)) ∨ (∃ m m0, c = .own m ∧ dat r j = some (Cell.own m0) ∧ (outAt as outs j = some m ∨ (outAt as outs j = none ∧ m = m0))) ∨
      (∃ m m0, c = .io m ∧ dat r j = some (Cell.io m0) ∧ (outAt as outs j = some m ∨ (outAt as outs j = none ∧ m = m0))) := fun {j c} e => by
    rw [dat_putOuts j nd] at e
    cases e1 : outAt as outs j with
    | none =>
      rw [e1] at e
      cases e2 : dat r j with
      | none => rw [e2] at e; simp [after] at e
      | some c0 =>
        rw [e2] at e
        simp only [after] at e
        cases e
        cases c with
        | sh d => exact .inl ⟨d, rfl, rfl⟩
        | own m => exact .inr (.inl ⟨m, m, rfl, rfl, .inr ⟨rfl, rfl⟩⟩)
        | io m => exact .inr (.inr ⟨m, m, rfl, rfl, .inr ⟨rfl, rfl⟩⟩)
    | some m =>
      rw [e1] at e
      cases e2 : dat r j with
      | none => rw [e2] at e; simp [after] at e
      | some c0 =>
        rw [e2] at e
        cases c0 with
        | sh d => simp only [after] at e; cases e; exact .inl ⟨d, rfl, rfl⟩
        | own n => simp only [after] at e; cases e; exact .inr (.inl ⟨m, n, rfl, rfl, .inl rfl⟩)
        | io n => simp only [after] at e; cases e; exact .inr (.inr ⟨m, n, rfl, rfl, .inl rfl⟩)
  have key2 : ∀ {j : Nat} {m : M}, (dat (putOuts r as outs) j = some (Cell.own m) ∨ dat (putOuts r as outs) j = some (Cell.io m)) → ∃ n, (dat r j = some (Cell.own n) ∨ dat r j = some (Cell.io n)) := fun {j m} e => by
    rcases e with e | e
    · rcases key e with ⟨d, z, _⟩ | ⟨m, n, z, e2, _⟩ | ⟨m, n, z, e2, _⟩
      · cases z
      · exact ⟨n, .inl e2⟩
      · cases z
    · rcases key e with ⟨d, z, _⟩ | ⟨m, n, z, e2, _⟩ | ⟨m, n, z, e2, _⟩
      · cases z
      · cases z
      · exact ⟨n, .inr e2⟩
  refine ⟨Rc.sub, R.f0.trans Rc.f0, fun b o e1 e2 => ?_, fun b e => Rc.there b (R.there b e), fun b e => ?_, fun j d e => ?_, fun j m e => ?_, fun j m e => ?_, R.ioA, fun j k m n b e1 e2 e3 e4 => ?_, by rw [putOuts_len]; exact R.len⟩
  · refine Rc.keep b o (R.keep b o e1 e2) fun z => ?_
    rcases ours z with y | y
    · exact e2 y
    · rw [y] at e1; cases e1
  · rcases Rc.new b e with z | z | z
    · exact R.new b z
    · exact .inr (.inl (h0 z))
    · rcases ours z with y | y
      · exact .inr (.inr y)
      · exact .inr (.inl y)
  · rcases key e with ⟨d', z, e2⟩ | ⟨m, n, z, _⟩ | ⟨m, n, z, _⟩
    · cases z
      obtain ⟨v, k1, k2⟩ := R.sh j _ e2
      exact ⟨v, k1, k2.up Rc.f0⟩
    · cases z
    · cases z
  · rcases key e with ⟨d, z, _⟩ | ⟨m', n, z, e2, e3⟩ | ⟨m', n, z, _⟩
    · cases z
    · cases z
      obtain ⟨b, o, k1, k2, k3, k4⟩ := slot (.inl e2) e3
      obtain ⟨b', o', l1, _, _, _, l5⟩ := R.own j n e2
      rw [k1] at l1; cases l1
      exact ⟨b, o, k1, k2, k3, k4, l5⟩
    · cases z
  · rcases key e with ⟨d, z, _⟩ | ⟨m', n, z, _⟩ | ⟨m', n, z, e2, e3⟩
    · cases z
    · cases z
    · cases z
      obtain ⟨b, o, k1, k2, k3, k4⟩ := slot (.inr e2) e3
      obtain ⟨b', o', l1, _, _, _, l5⟩ := R.io j n e2
      rw [k1] at l1; cases l1
      exact ⟨b, o, k1, k2, k3, k4, l5⟩
  · obtain ⟨m', f1⟩ := key2 e1
    obtain ⟨n', f2⟩ := key2 e2
    exact R.sep j k m' n' b f1 f2 e3 e4
end
section
variable {X : Cx} {k n : Nat} {x : Str} {sp : DSp} {e : Expr} {es : List Expr} {tc : DTC} {p pos : Pos}
/-- what a call's promise asks, from its reading -/
theorem call_sp {K : PySem.W.Frag} {W : Wd} {σ : St} {H : Hp} {r : DSt} {F : Hp} {as : List Arg} {vs : List V} {q : Cell → DSt → Prop} {Q : VK} {E : XK} (R : Rel K W r F σ H) (a : ArgOk K F σ as vs) (ha : vs.length = n)
    (t : match cellsOf r as with
      | some cs => (ixs as).Nodup ∧ sp cs fun c outs => nrm (putOuts r as outs) (q c)
      | none => False)
    (h : ∀ c r2 v F' H', q c r2 → Rel K W r2 F' σ H' → Same F F' → Ans K H F' H' c v → (∀ b, H b = none → W.H0 b = none ∧ Apart r2 σ b) → Q v H') : liftSp K n sp vs H Q E := by
  cases e : cellsOf r as with
  | none => rw [e] at t; exact t.elim
  | some cs =>
    rw [e] at t
    obtain ⟨nd, t⟩ := t
    obtain ⟨Rc, no⟩ := R.args e nd a
    refine ⟨ha, cs, F, _, by rw [cells_len e, a.len]; exact ha, no, Rc, t, fun c outs v F' H' hq hl R2 an => ?_⟩
    have R3 := R.back e nd a hl R2
    refine h c _ v F' H' (nrm_el hq) R3 R2.f0 an fun b hb => ⟨?_, fun i m z y => ?_⟩
    · cases q : W.H0 b with
      | none => rfl
      | some u => exact absurd hb (R.there b (ne_none q))
    · -- the slots of ours stand at addresses that were there
      have key : ∀ {c : Cell}, dat (putOuts r as outs) i = some c → (∃ m, c = .own m ∨ c = .io m) → ∃ m0, dat r i = some (Cell.own m0) ∨ dat r i = some (Cell.io m0) := fun {c} e1 hc => by
        rw [dat_putOuts i nd] at e1
        cases e2 : dat r i with
        | none =>
          rw [e2] at e1
          cases e3 : outAt as outs i <;> (rw [e3] at e1; simp [after] at e1)
        | some c0 =>
          rw [e2] at e1
          cases c0 with
          | own m0 => exact ⟨m0, .inl rfl⟩
          | io m0 => exact ⟨m0, .inr rfl⟩
          | sh d =>
            exfalso
            obtain ⟨m, hc | hc⟩ := hc <;> subst hc <;> (cases e3 : outAt as outs i <;> (rw [e3] at e1; simp [after] at e1))
      obtain ⟨m0, f⟩ : ∃ m0, dat r i = some (Cell.own m0) ∨ dat r i = some (Cell.io m0) := by
        rcases z with z | z
        · exact key z ⟨m, .inl rfl⟩
        · exact key z ⟨m, .inr rfl⟩
      rcases f with f | f
      · obtain ⟨b', o, k1, k2, _⟩ := R.own i m0 f
        rw [y] at k1; cases k1
        rw [hb] at k2; cases k2
      · obtain ⟨b', o, k1, k2, _⟩ := R.io i m0 f
        rw [y] at k1; cases k1
        rw [hb] at k2; cases k2
theorem pe_callG {f : Addr} {fd : FuncData} {ps : List Str} {spv : Sp} {t : TA} (F : FnG X.prog X.w X.K X.mg X.base CX0 k f fd ps spv) (hr : Room k X.A) (hgd : X.A.guards = some []) (hg : Gl X x) (hm : X.mg x = some (.ref f)) (hk : PySem.W.keepIn X.K (.ref f) = true) (hb : Binds X.K fd ps [])
    (ha : PA X (e :: es) t) (hdb : (x == ("__debug__" : Str)) = false := by decide) (he : starEach (e :: es) X.env = (false, eval e X.env) :: starEach es X.env := by rfl) (hpl : (backTo pos (starEach es X.env)).any (·.1) = false := by rfl) :
    PE X (.Call (.Name x p) (e :: es) [] pos) (tCall spv [] E0 t) := by
  refine ⟨fun pins s σ H Q I h => ?_⟩
  refine wpAny_Call_Name_kw (ld_glob I hg hm ?_ hdb)
  refine PySem.W.callWith_K (h₀ := X.base) I.ok.mod.kin hk (thn (ha.run pos pins s σ H _ I h) fun us s1 ⟨vs, H1, I1, rv, q⟩ => ⟨I1.kIn, ?_⟩) he hpl
  have hl : (us ++ []).length = ps.length := by
    have z := F.len _ _ _ _ q
    rw [List.append_nil] at z ⊢
    rw [← rv.length]; exact z
  have rv2 : Vals (vs ++ []) (us ++ []) := rv.append .nil
  refine wpAny_call (codeAny_mono (F.run X.A X.stack s1 H1 ⟨us, []⟩ (us ++ []) (vs ++ []) Q E0 hr hgd I1.env0 (hb s1 us I1.kIn hl) rv2 q) fun res s' out => ?_)
  cases res with
  | error z => exact False.elim out
  | ok fl =>
    cases fl with
    | ret u => exact I1.after out
    | next => exact False.elim out
    | brk => exact False.elim out
    | cont => exact False.elim out
theorem d_call (F : Def X.prog X.w X.K X.mg X.base k x n sp) {j : Nat} (hr : Room j X.A) (hk : k ≤ j) (hgd : X.A.guards = some []) (hg : Gl X x) (ha : DC X (e :: es) tc)
    (hdb : (x == ("__debug__" : Str)) = false := by decide) (he : starEach (e :: es) X.env = (false, eval e X.env) :: starEach es X.env := by rfl) (hpl : (backTo pos (starEach es X.env)).any (·.1) = false := by rfl) : DE X (.Call (.Name x p) (e :: es) [] pos) (eCallF n sp tc) := by
  obtain ⟨f, fd, ps, F, hm, kp, hb⟩ := F.ex
  refine ⟨fun W => pe_weak (pe_callG F (hr.mono hk) hgd hg hm kp hb (ha.run W) hdb he hpl) fun σ H Q h => ?_⟩
  obtain ⟨r, F1, q, R, t, w⟩ := h
  refine ⟨r, F1, _, R, t, fun as r1 vs F2 H2 t1 R1 s1 a => ?_⟩
  show liftSp X.K n sp (vs ++ []) H2 Q E0
  rw [List.append_nil]
  refine call_sp (q := asE q) R1 a (a.len ▸ t1.1) t1.2 fun c r2 v F' H' hq R3 s3 an fr => ?_
  cases c with
  | sh d => exact w d r2 v F' H' hq R3 (s1.trans s3) an
  | io m => exact hq.elim
  | own m =>
    cases m with
    | ins C fs => exact hq.elim
    | lst ds =>
      obtain ⟨b, o, rfl, k2, k3, ⟨vs, rfl, k4⟩, k5⟩ := an
      obtain ⟨z1, z2⟩ := fr b k5
      obtain ⟨R4, s4⟩ := R3.absorb k2 k3 z1 z2
      exact w _ r2 _ _ _ hq R4 (s1.trans (s3.trans s4)) (.lst upd_same (k4.up s4))
theorem o_call (F : Def X.prog X.w X.K X.mg X.base k x n sp) {j : Nat} (hr : Room j X.A) (hk : k ≤ j) (hgd : X.A.guards = some []) (hg : Gl X x) (ha : DC X (e :: es) tc)
    (hdb : (x == ("__debug__" : Str)) = false := by decide) (he : starEach (e :: es) X.env = (false, eval e X.env) :: starEach es X.env := by rfl) (hpl : (backTo pos (starEach es X.env)).any (·.1) = false := by rfl) : DO X (.Call (.Name x p) (e :: es) [] pos) (oCallF n sp tc) := by
  obtain ⟨f, fd, ps, F, hm, kp, hb⟩ := F.ex
  refine ⟨fun W => pe_weak (pe_callG F (hr.mono hk) hgd hg hm kp hb (ha.run W) hdb he hpl) fun σ H Q h => ?_⟩
  obtain ⟨r, F1, q, R, t, w⟩ := h
  refine ⟨r, F1, _, R, t, fun as r1 vs F2 H2 t1 R1 s1 a => ?_⟩
  show liftSp X.K n sp (vs ++ []) H2 Q E0
  rw [List.append_nil]
  refine call_sp (q := asO q) R1 a (a.len ▸ t1.1) t1.2 fun c r2 v F' H' hq R3 s3 an fr => ?_
  cases c with
  | sh d => exact hq.elim
  | io m => exact hq.elim
  | own m =>
    obtain ⟨b, o, rfl, k2, k3, k4, k5⟩ := an
    obtain ⟨z1, z2⟩ := fr b k5
    exact w m r2 b o F' H' hq R3 (s1.trans s3) k2 k3 k4 z1 z2
end
end DL
end

section
set_option Elab.async false
set_option linter.all false
set_option maxRecDepth 100000
namespace DL
open PySem PySem.Spec PyProof.Rows L2

/-! ## numbers -/
section
variable {X : Cx} {K : PySem.W.Frag}
theorem fin_flat {F H : Hp} {q : D → Prop} {Q : VK} {d : D} {v : V} (s : Same F H) (h : Fin2 K F H q Q) (p : Rp K F v d) (qd : q d) : Q v H := h d v F H qd (Ext.refl s) p
def pI2 (g : Int → Int → D) : P2 := fun x y q => match x, y with
  | .int i, .int j => q (g i j)
  | _, _ => False
def pI2c (C : Int → Int → Prop) (g : Int → Int → D) : P2 := fun x y q => match x, y with
  | .int i, .int j => C i j ∧ q (g i j)
  | _, _ => False
theorem v_int {g : Int → Int → Int} : VOp K (rI0 fun i j => .int (g i j)) (pI2 fun i j => .int (g i j)) := by
  intro F H x y dx dy q Q s px py t h
  cases px <;> cases py <;> first | exact t.elim | exact ⟨_, _, rfl, rfl, fin_flat s h (.int _) t⟩
theorem v_intB {g : Int → Int → Bool} : VOp K (rI0 fun i j => .bl (g i j)) (pI2 fun i j => .bool (g i j)) := by
  intro F H x y dx dy q Q s px py t h
  cases px <;> cases py <;> first | exact t.elim | exact ⟨_, _, rfl, rfl, fin_flat s h (.bl _) t⟩
theorem v_intC {C : Int → Int → Prop} {g : Int → Int → Int} : VOp K (rI C fun i j => .int (g i j)) (pI2c C fun i j => .int (g i j)) := by
  intro F H x y dx dy q Q s px py t h
  cases px <;> cases py <;> first | exact t.elim | exact ⟨_, _, rfl, rfl, t.1, fin_flat s h (.int _) t.2⟩
def pSub : P2 := pI2 fun i j => .int (i - j)
def DivOk (i j : Int) : Prop := 0 < j ∧ j.natAbs.log2 < 9000
theorem DivOk.small {i j : Int} (h : 0 < j) (h2 : j < 2 ^ 64) : DivOk i j := by
  refine ⟨h, ?_⟩
  have : j.natAbs < 2 ^ 64 := by omega
  have := PySem.Flt.log2_lt_of (n := j.natAbs) (k := 64) (by decide) this
  omega
def pDiv : P2 := pI2c DivOk fun i j => .int (i / j)
def pMod : P2 := pI2c (fun _ j => 0 < j) fun i j => .int (i % j)
def pPow : P2 := pI2c CPow fun i j => .int (i ^ j.toNat)
def pAnd : P2 := pI2 fun i j => .int (Builtin.bitAnd i j)
def pLt : P2 := pI2 fun i j => .bool (decide (i < j))
def pLe : P2 := pI2 fun i j => .bool (decide (i ≤ j))
def pGt : P2 := pI2 fun i j => .bool (decide (j < i))
def pGe : P2 := pI2 fun i j => .bool (decide (j ≤ i))
def MulOk (i j : Int) : Prop := CMul i j ∨ CMulW i j
theorem MulOk.left {i j : Int} (h : i.natAbs < 2 ^ 64) : MulOk i j := .inl (.inl (by omega))
theorem MulOk.right {i j : Int} (h : j.natAbs < 2 ^ 64) : MulOk i j := .inl (.inr (by omega))
theorem op_fdivD : OpR X (binaryOp .FloorDiv) (rI DivOk fun i j => .int (i / j)) := op_fdivW
theorem iop_fdivD : OpR X (inplaceOp .FloorDiv) (rI CDiv fun i j => .int (i / j)) := iop_fdiv
def pDivS : P2 := pI2c CDiv fun i j => .int (i / j)
def pMulI : P2 := pI2c CMul fun i j => .int (i * j)

/-! ## + * of several kinds -/
def pAdd : P2 := fun x y q => match x, y with
  | .int i, .int j => q (.int (i + j))
  | .str a, .str b => a.length + b.length ≤ sizeLine ∧ q (.str (a ++ b))
  | .list a, .list b => a.length + b.length ≤ sizeLine ∧ q (.list (a ++ b))
  | .tuple a, .tuple b => a.length + b.length ≤ sizeLine ∧ q (.tuple (a ++ b))
  | _, _ => False
def rAddA (K : PySem.W.Frag) : R2 := fun x y H Q => (∃ i j, x = .int i ∧ y = .int j ∧ Q (.int (i + j)) H) ∨ (∃ i j, x = .str i ∧ y = .str j ∧ i.length + j.length ≤ sizeLine ∧ Q (.str (i ++ j)) H) ∨ rCat x y H Q ∨ rCatA K x y H Q
theorem op_addA : OpR X (binaryOp .Add) (rAddA X.K) := op_add.or (op_add_str.or (op_cat.or op_catA))
theorem v_add : VOp K (rAddA K) pAdd := by
  intro F H x y dx dy q Q s px py t h
  cases px with
  | int i =>
    cases py with
    | int j => exact .inl ⟨i, j, rfl, rfl, fin_flat s h (.int _) t⟩
    | _ => exact t.elim
  | str a =>
    cases py with
    | str b => exact .inr (.inl ⟨a, b, rfl, rfl, t.1, fin_flat s h (.str _) t.2⟩)
    | _ => exact t.elim
  | @lst _ vs _ h1 h2 =>
    cases py with
    | @lst _ ws _ k1 k2 =>
      refine .inr (.inr (.inl ⟨_, _, _, _, rfl, rfl, s _ _ h1, s _ _ k1, by rw [h2.length, k2.length]; exact t.1, fun p hp => ?_⟩))
      have e := ext_new (o := .lst (vs ++ ws)) s hp
      exact h _ _ _ _ t.2 e (.lst upd_same ((h2.append k2).up e.f))
    | _ => exact t.elim
  | @tup _ vs _ h1 h2 =>
    cases py with
    | @tup _ ws _ k1 k2 =>
      refine .inr (.inr (.inr ⟨_, _, _, _, rfl, rfl, same_tup s h1, same_tup s k1, by rw [h2.length, k2.length]; exact t.1, fun z => ?_, fun z y => ?_, fun z y p hp => ?_⟩))
      · subst z
        cases h2
        exact h _ _ _ _ t.2 (Ext.refl s) (.tup k1 k2)
      · subst y
        cases k2
        have t2 := t.2
        rw [List.append_nil] at t2
        exact h _ _ _ _ t2 (Ext.refl s) (.tup h1 h2)
      · have e := ext_new (o := .tup (vs ++ ws)) s hp
        exact h _ _ _ _ t.2 e (.tup (.inl (.inl upd_same)) ((h2.append k2).up e.f))
    | _ => exact t.elim
  | _ => exact t.elim

/-! ## == != -/
def scalD : D → D → Option Bool
  | .none, .none => some true
  | .none, .int _ => some false
  | .int _, .none => some false
  | .none, .bool _ => some false
  | .bool _, .none => some false
  | .none, .str _ => some false
  | .str _, .none => some false
  | .int i, .int j => some (decide (i = j))
  | .bool i, .bool j => some (decide (i = j))
  | .str i, .str j => some (decide (i = j))
  | .int _, .str _ => some false
  | .str _, .int _ => some false
  | .bool _, .str _ => some false
  | .str _, .bool _ => some false
  | _, _ => none
def pEq : P2 := fun x y q => match scalD x y with
  | some b => q (.bool b)
  | none => SeqAt.shaped x = true ∧ SeqAt.shaped y = true ∧ q (.bool (PyData.eqv x y))
def pNe : P2 := fun x y q => match scalD x y with
  | some b => q (.bool (!b))
  | none => SeqAt.shaped x = true ∧ SeqAt.shaped y = true ∧ q (.bool (!PyData.eqv x y))
mutual
theorem dp_of {K : PySem.W.Frag} {F H : Hp} (s : Same F H) : ∀ (d : D) (v : V), d.canLay0 = true → Rp K F v d → Dp K H v d
  | .none, _, _, h => by cases h; exact .non
  | .bool b, _, _, h => by cases h; exact .bl b
  | .int i, _, _, h => by cases h; exact .int i
  | .str z, _, _, h => by cases h; exact .str z
  | .list ds, _, c, h => by
    cases h with
    | lst h1 h2 => exact .lst (SqL.of (s _ _ h1)) (dpAll_of s ds _ (by simpa [PyData.canLay0] using c) h2)
  | .tuple ds, _, c, h => by
    cases h with
    | tup h1 h2 => exact .tup (same_tup s h1) (dpAll_of s ds _ (by simpa [PyData.canLay0] using c) h2)
  | .dict ds, _, c, _ => by simp [PyData.canLay0] at c
theorem dpAll_of {K : PySem.W.Frag} {F H : Hp} (s : Same F H) : ∀ (ds : List D) (vs : List V), PyData.canLayAll0 ds = true → RpAll K F vs ds → DpAll K H vs ds
  | [], _, _, h => by cases h; exact .nil
  | d :: ds, _, c, h => by
    cases h with
    | cons h1 h2 =>
      have c' : d.canLay0 = true ∧ PyData.canLayAll0 ds = true := by simpa [PyData.canLayAll0] using c
      exact .cons (dp_of s d _ c'.1 h1) (dpAll_of s ds _ c'.2 h2)
end
theorem lay_of {d : D} (h : SeqAt.shaped d = true) : d.canLay0 = true := SeqAt.canLay_of_shaped h
def rEqA (K : PySem.W.Frag) : R2 := fun x y H Q => rEq x y H Q ∨ rEqD K x y H Q
def rNeA (K : PySem.W.Frag) : R2 := fun x y H Q => rNe x y H Q ∨ rNeD K x y H Q
theorem op_eqA (hu : X.A.units + 64 < cLine) : OpR X (compareOp .Eq) (rEqA X.K) := op_eq.or (op_eqD hu)
theorem op_neA (hu : X.A.units + 64 < cLine) : OpR X (compareOp .NotEq) (rNeA X.K) := op_ne.or (op_neD hu)
theorem scal_of {K : PySem.W.Frag} {F : Hp} {x y : V} {dx dy : D} {b : Bool} (px : Rp K F x dx) (py : Rp K F y dy) (e : scalD dx dy = some b) : scal x y = true ∧ decide (x = y) = b := by
  cases px <;> cases py <;> simp [scalD] at e <;> (subst e; first | exact ⟨rfl, by simp⟩ | exact ⟨rfl, by rw [dec_bl]; simp⟩)
theorem v_eq : VOp K (rEqA K) pEq := by
  intro F H x y dx dy q Q s px py t h
  unfold pEq at t
  split at t
  · rename_i b e
    obtain ⟨e1, e2⟩ := scal_of px py e
    exact .inl ⟨e1, by rw [e2]; exact fin_flat s h (.bl _) t⟩
  · exact .inr ⟨dx, dy, dp_of s dx x (lay_of t.1) px, dp_of s dy y (lay_of t.2.1) py, t.1, t.2.1, fin_flat s h (.bl _) t.2.2⟩
theorem v_ne : VOp K (rNeA K) pNe := by
  intro F H x y dx dy q Q s px py t h
  unfold pNe at t
  split at t
  · rename_i b e
    obtain ⟨e1, e2⟩ := scal_of px py e
    exact .inl ⟨e1, by rw [e2]; exact fin_flat s h (.bl _) t⟩
  · exact .inr ⟨dx, dy, dp_of s dx x (lay_of t.1) px, dp_of s dy y (lay_of t.2.1) py, t.1, t.2.1, fin_flat s h (.bl _) t.2.2⟩

/-! ## is None, is True -/
def pIs : P2 := fun x y q => match y with
  | .none => q (.bool (match x with | .none => true | _ => false))
  | .bool b => (match x with
    | .bool a => q (.bool (decide (a = b)))
    | _ => False)
  | _ => False
def pIsN : P2 := fun x y q => match y with
  | .none => q (.bool (!(match x with | .none => true | _ => false)))
  | .bool b => (match x with
    | .bool a => q (.bool (!decide (a = b)))
    | _ => False)
  | _ => False
def rIsA : R2 := fun x y H Q => (y = .non ∧ Q (.bl (decide (x = .non))) H) ∨ rIsB x y H Q
def rIsNA : R2 := fun x y H Q => (y = .non ∧ Q (.bl (!decide (x = .non))) H) ∨ rNotB x y H Q
theorem op_isA : OpR X (compareOp .Is) rIsA := op_isN.or op_isBl
theorem op_isNA : OpR X (compareOp .IsNot) rIsNA := op_notN.or op_notBl
theorem v_is : VOp K rIsA pIs := by
  intro F H x y dx dy q Q s px py t h
  cases py with
  | non => cases px <;> exact .inl ⟨rfl, fin_flat s h (.bl _) t⟩
  | bl b => cases px <;> first | exact t.elim | exact .inr ⟨_, _, rfl, rfl, fin_flat s h (.bl _) t⟩
  | _ => exact t.elim
theorem v_isN : VOp K rIsNA pIsN := by
  intro F H x y dx dy q Q s px py t h
  cases py with
  | non => cases px <;> exact .inl ⟨rfl, fin_flat s h (.bl _) t⟩
  | bl b => cases px <;> first | exact t.elim | exact .inr ⟨_, _, rfl, rfl, fin_flat s h (.bl _) t⟩
  | _ => exact t.elim

/-! ## in, not in -/
def flatD : D → Bool
  | .none => true
  | .bool _ => true
  | .int _ => true
  | .str _ => true
  | _ => false
theorem flat_of {F : Hp} {v : V} {d : D} (p : Rp K F v d) (h : flatD d = true) : flatV v = true := by
  cases p <;> first | rfl | cases h
theorem flats_of {F : Hp} : ∀ {vs : List V} {ds : List D}, RpAll K F vs ds → ds.all flatD = true → vs.all flatV = true
  | _, _, .nil, _ => rfl
  | _, _, .cons p t, h => by
    rw [List.all_cons, Bool.and_eq_true] at h ⊢
    exact ⟨flat_of p h.1, flats_of t h.2⟩
theorem eqV_of {F : Hp} {x y : V} {dx dy : D} (px : Rp K F x dx) (py : Rp K F y dy) (hx : flatD dx = true) (hy : flatD dy = true) : eqV y x = PyData.eqv dy dx := by
  cases px <;> cases py <;> first | (simp [eqV, PyData.eqv]; done) | cases hx | cases hy
theorem inV_of {F : Hp} {x : V} {dx : D} (px : Rp K F x dx) (hx : flatD dx = true) : ∀ {vs : List V} {ds : List D}, RpAll K F vs ds → ds.all flatD = true → inV x vs = ds.any fun z => PyData.eqv z dx
  | _, _, .nil, _ => rfl
  | _, _, .cons p t, h => by
    rw [List.all_cons, Bool.and_eq_true] at h
    unfold inV
    rw [List.any_cons, List.any_cons, eqV_of px p hx h.1]
    exact congrArg _ (inV_of px hx t h.2)
def pIn (neg : Bool) : P2 := fun x y q => match y with
  | .list ds => flatD x = true ∧ ds.all flatD = true ∧ q (.bool (if neg then !(ds.any fun z => PyData.eqv z x) else ds.any fun z => PyData.eqv z x))
  | .tuple ds => flatD x = true ∧ ds.all flatD = true ∧ q (.bool (if neg then !(ds.any fun z => PyData.eqv z x) else ds.any fun z => PyData.eqv z x))
  | .str z => (match x with
    | .str c => c.cps.size = 1 ∧ q (.bool (if neg then !decide (c.cps.getD 0 0 ∈ z.cps.toList) else decide (c.cps.getD 0 0 ∈ z.cps.toList)))
    | _ => False)
  | _ => False
def rInA (K : PySem.W.Frag) : R2 := fun x y H Q => rIn K false x y H Q ∨ (∃ (c : Nat) (z : Str), x = .str ⟨#[c]⟩ ∧ y = .str z ∧ Q (.bl (decide (c ∈ z.cps.toList))) H)
def rNiA (K : PySem.W.Frag) : R2 := fun x y H Q => rIn K true x y H Q ∨ (∃ (c : Nat) (z : Str), x = .str ⟨#[c]⟩ ∧ y = .str z ∧ Q (.bl (!decide (c ∈ z.cps.toList))) H)
theorem op_inA : OpR X (compareOp .In) (rInA X.K) := op_in_seq.or op_in_sign
theorem op_niA : OpR X (compareOp .NotIn) (rNiA X.K) := op_notIn_seq.or op_notIn_sign
theorem one_sign {z : Str} (h : z.cps.size = 1) : z = ⟨#[z.cps.getD 0 0]⟩ := by
  obtain ⟨⟨l⟩⟩ := z
  match l, h with
  | [c], _ => simp
theorem v_in : VOp K (rInA K) (pIn false) := by
  intro F H x y dx dy q Q s px py t h
  cases py with
  | lst h1 h2 => exact .inl ⟨_, _, rfl, .inl (SqL.of (s _ _ h1)), flat_of px t.1, flats_of h2 t.2.1, by rw [inV_of px t.1 h2 t.2.1]; exact fin_flat s h (.bl _) t.2.2⟩
  | tup h1 h2 => exact .inl ⟨_, _, rfl, .inr (same_tup s h1), flat_of px t.1, flats_of h2 t.2.1, by rw [inV_of px t.1 h2 t.2.1]; exact fin_flat s h (.bl _) t.2.2⟩
  | str z =>
    cases px with
    | str c => exact .inr ⟨_, z, congrArg V.str (one_sign t.1), rfl, fin_flat s h (.bl _) t.2⟩
    | _ => exact t.elim
  | _ => exact t.elim
theorem v_ni : VOp K (rNiA K) (pIn true) := by
  intro F H x y dx dy q Q s px py t h
  cases py with
  | lst h1 h2 => exact .inl ⟨_, _, rfl, .inl (SqL.of (s _ _ h1)), flat_of px t.1, flats_of h2 t.2.1, by rw [inV_of px t.1 h2 t.2.1]; exact fin_flat s h (.bl _) t.2.2⟩
  | tup h1 h2 => exact .inl ⟨_, _, rfl, .inr (same_tup s h1), flat_of px t.1, flats_of h2 t.2.1, by rw [inV_of px t.1 h2 t.2.1]; exact fin_flat s h (.bl _) t.2.2⟩
  | str z =>
    cases px with
    | str c => exact .inr ⟨_, z, congrArg V.str (one_sign t.1), rfl, fin_flat s h (.bl _) t.2⟩
    | _ => exact t.elim
  | _ => exact t.elim

/-! ## unary minus -/
def pNeg : P1 := fun x q => match x with
  | .int i => q (.int (-i))
  | _ => False
theorem v_neg : VUn K (rU fun i => .int (-i)) pNeg := by
  intro F H x dx q Q s px t h
  cases px <;> first | exact t.elim | exact ⟨_, rfl, fin_flat s h (.int _) t⟩
end
end DL
namespace DL
open PySem PySem.Spec PyProof.Rows L2
section
variable {X : Cx}
theorem ds_par3' {i j l : Nat} {x y z : Str} {a b c : Expr} {ta : DTA} {px py pz pt pos : Pos} {kt k2 pt2} (hc : X.calm = true) (hN : X.N.Nodup) (hi : X.N[i]? = some x) (hj : X.N[j]? = some y) (hl : X.N[l]? = some z) (hij : i ≠ j) (hil : i ≠ l) (hjl : j ≠ l)
    (hx : X.env.scope.names.lookup x = some .local) (hy : X.env.scope.names.lookup y = some .local) (hz : X.env.scope.names.lookup z = some .local) (ha : DA X [a, b, c] ta)
    (hw : swappedStores [.Tuple [.Name x px, .Name y py, .Name z pz] kt pt] (.Tuple [a, b, c] k2 pt2) X.env = pure (some [x, y, z]))
    (hs : swapsWithSole [.Tuple [.Name x px, .Name y py, .Name z pz] kt pt] (.Tuple [a, b, c] k2 pt2) pos.line X.env = pure false := by rfl) :
    DS X (.Assign [.Tuple [.Name x px, .Name y py, .Name z pz] kt pt] (.Tuple [a, b, c] k2 pt2) pos) (sPar3 i j l ta) :=
  ds_par3 hc hN hi hj hl hij hil hjl hx hy hz ha fun W => ps_par3 hc hN hi hj hl hij hil hjl hx hy hz (ha.run W) hw hs
end
end DL
end

section
set_option Elab.async false
set_option linter.all false
set_option maxRecDepth 100000
set_option maxHeartbeats 4000000
namespace DL
open PySem PySem.Spec PyProof.Rows L2
/-! ## a tuple so many times: once (itself), never (the empty one), more often -/
theorem tup_mul_same (l : Addr) (items : Array Value) (n : Nat) (dd : Option Addr) (sl : Array (Option Value)) (x : Int) (u : Tok) (c0 : (decide (x < -(2 ^ 63)) || decide (x ≥ 2 ^ 63)) = false) (c1 : (items.isEmpty || x == 1) = true) :
    Meets (Builtin.«tuple.__mul__» ⟨[.ref l, .int x u], []⟩) (fun _ R s => s.heap.get? l = some { cls := .type "tuple", dict := dd, data := .seq items n, slots := sl } ∧ R (.ok (.ret (Value.ref l))) s) :=
  .of_wp fun prog w A R s h => by
    obtain ⟨hp, g, d, tk, os⟩ := s
    obtain ⟨hl, h⟩ := h
    have f1 := AutoSeq1.idx_int
    wp_walk using wpAny_loadPart' hl
    repeat (first
      | (refine wpAny_ite_false (decide_eq_false (by rw [c0]; exact Bool.false_ne_true)) ?_; wp_walk using wpAny_loadPart' hl)
      | (refine wpAny_ite_true (decide_eq_true (by rw [c1])) ?_; wp_walk using wpAny_loadPart' hl))
    exact ⟨_, rfl, h⟩
theorem tup_mul_none (l : Addr) (items : Array Value) (n : Nat) (dd : Option Addr) (sl : Array (Option Value)) (x : Int) (u : Tok) (c0 : (decide (x < -(2 ^ 63)) || decide (x ≥ 2 ^ 63)) = false) (c1 : (items.isEmpty || x == 1) = false) (c2 : (decide (x ≤ 0) || items.isEmpty) = true) :
    Meets (Builtin.«tuple.__mul__» ⟨[.ref l, .int x u], []⟩) (fun _ R s => s.heap.get? l = some { cls := .type "tuple", dict := dd, data := .seq items n, slots := sl } ∧
      R (.ok (.ret (Value.ref s.heap.objs.size))) { s with heap := s.heap.push { cls := Value.type "tuple", data := Data.seq #[] }, toks := s.toks }) :=
  .of_wp fun prog w A R s h => by
    obtain ⟨hp, g, d, tk, os⟩ := s
    obtain ⟨hl, h⟩ := h
    have f1 := AutoSeq1.idx_int
    wp_walk using wpAny_loadPart' hl
    repeat (first
      | (refine wpAny_ite_false (decide_eq_false (by rw [c0]; exact Bool.false_ne_true)) ?_; wp_walk using wpAny_loadPart' hl)
      | (refine wpAny_ite_false (decide_eq_false (by rw [c1]; exact Bool.false_ne_true)) ?_; wp_walk using wpAny_loadPart' hl)
      | (refine wpAny_ite_true (decide_eq_true (by rw [c2])) ?_; wp_walk using wpAny_loadPart' hl))
    exact ⟨_, rfl, h⟩
def rRepA (K : PySem.W.Frag) : R2 := fun x y H Q => ∃ l k xs, x = .ref l ∧ y = .int k ∧ SqT K H l xs ∧ -(2 ^ 63) ≤ k ∧ k < 2 ^ 63 ∧ xs.length * k.toNat ≤ sizeLine ∧
  ((xs = [] ∨ k = 1) → Q (.ref l) H) ∧ (xs ≠ [] → k ≠ 1 → ∀ p, H p = none → Q (.ref p) (upd H p (.tup (List.replicate k.toNat xs).flatten)))
theorem op_repA {X : Cx} : OpR X (binaryOp .Mult) (rRepA X.K) := by
  intro pins s σ H x y v u Q I rx ry h
  obtain ⟨l, k, xs, rfl, rfl, hT, hk1, hk2, hz, q1, q2⟩ := h
  cases rx
  obtain ⟨t, rfl⟩ := ry
  obtain ⟨its, r, ⟨⟨cls, dd, data, sl⟩, ho, hc, n, hd⟩, hs⟩ := I.tuple hT
  simp only at hc hd
  subst hc hd
  have hle : its.length = xs.length := r.length.symm
  have c0 : (decide (k < -(2 ^ 63)) || decide (k ≥ 2 ^ 63)) = false := by
    rw [decide_eq_false (by omega), decide_eq_false (by omega)] <;> rfl
  have hsz0 : its.toArray.size = xs.length := by rw [List.size_toArray, hle]
  have emp : its.toArray.isEmpty = xs.isEmpty := by
    cases r <;> simp
  have tail : ∀ {R : Value → Shared → Prop}, wpAny (model X.prog X.w) X.A (call (.builtin "tuple.__mul__") [.ref l, .int k t]) R X.xe s → wpAny (model X.prog X.w) X.A (binaryOp .Mult (.ref l) (.int k t)) R X.xe s := fun {R} h =>
    wpAny_binaryOp_repeat_ref (T := "tuple") (U := "int") (by decide) ⟨_, ho, rfl⟩ (fun s' => typeIs_int s' k t) noFill_tuple_mul F.fills_int_mul F.slot_int_rmul repeat_tuple F.slot_int_index.lookup
      (call_meets F.slot_int_rmul (typeIs_int s k t) F.entry_int_rmul (F.args_int_rmul_2 _ _) (int_rmul_tuple k t l its.toArray n dd sl) ⟨ho, rfl, ⟨_, ho, rfl⟩, h⟩)
  by_cases h1 : (its.toArray.isEmpty || k == 1) = true
  · refine tail (call_meets F.slot_tuple_mul ⟨_, ho, rfl⟩ F.entry_tuple_mul (F.args_tuple_mul_2 _ _) (tup_mul_same l its.toArray n dd sl k t c0 h1) ⟨ho, ?_⟩)
    refine ⟨.ref l, H, I, rfl, q1 ?_⟩
    rw [Bool.or_eq_true, emp] at h1
    rcases h1 with z | z
    · exact .inl (by simpa using z)
    · exact .inr (by simpa using z)
  · have h1' : (its.toArray.isEmpty || k == 1) = false := by simpa using h1
    have h1b := h1'
    rw [Bool.or_eq_false_iff, emp] at h1b
    have ne : xs ≠ [] := by simpa using h1b.1
    have nk : k ≠ 1 := by simpa using h1b.2
    by_cases h2 : (decide (k ≤ 0) || its.toArray.isEmpty) = true
    · refine tail (call_meets F.slot_tuple_mul ⟨_, ho, rfl⟩ F.entry_tuple_mul (F.args_tuple_mul_2 _ _) (tup_mul_none l its.toArray n dd sl k t c0 h1' h2) ⟨ho, ?_⟩)
      have k0 : k.toNat = 0 := by
        rw [Bool.or_eq_true, emp] at h2
        rcases h2 with z | z
        · have := of_decide_eq_true z
          omega
        · exact absurd (by simpa using z) ne
      have e : (List.replicate k.toNat xs).flatten = [] := by rw [k0]; rfl
      have q3 := q2 ne nk
      rw [e] at q3
      refine ⟨.ref s.heap.objs.size, _, I.laid (t' := s.toks) (o := .tup []) (fun b ob q => Heap.get?_push_of_some _ q) (Nat.le_refl _) ?_, rfl, q3 _ (I.hok.fresh (Nat.le_refl _))⟩
      exact ⟨Nat.zero_le _, [], .nil, IsTup.new _ _⟩
    · have h2' : (decide (k ≤ 0) || its.toArray.isEmpty) = false := by simpa using h2
      have h2b := h2'
      rw [Bool.or_eq_false_iff] at h2b
      have kp : 0 < k := by
        have := of_decide_eq_false h2b.1
        omega
      have hm : ((its.toArray.size : Nat) : Int) * k ≤ 16777216 := by
        rw [hsz0]
        have e1 : (k.toNat : Int) = k := by omega
        have e2 : ((xs.length * k.toNat : Nat) : Int) ≤ 16777216 := by
          have := hz
          rw [sizeLine_eq] at this
          omega
        rw [Int.natCast_mul, e1] at e2
        exact e2
      have flen : (List.replicate k.toNat its).flatten.length ≤ sizeLine := by
        rw [PyProof.Rows.lm_len_rep_flat, hle, Nat.mul_comm]
        exact hz
      have c4 : Builtin.Tuple.tupleTooMany (((its.toArray.size : Nat) : Int) * k) = false := by
        unfold Builtin.Tuple.tupleTooMany
        rw [sizeLine_eq]
        exact decide_eq_false (by omega)
      refine tail (call_meets F.slot_tuple_mul ⟨_, ho, rfl⟩ F.entry_tuple_mul (F.args_tuple_mul_2 _ _) (tuple_mulW l its.toArray n dd sl k t c0 h1' h2' (by omega) c4 (by rw [size_rep, List.size_toArray]; exact flen)) ⟨ho, ?_⟩)
      rw [size_rep]
      refine ⟨.ref s.heap.objs.size, _, I.laid (t' := s.toks) (o := .tup (List.replicate k.toNat xs).flatten) (fun b ob q => Heap.get?_push_of_some _ q) (Nat.le_refl _) ?_, rfl, q2 ne nk _ (I.hok.fresh (Nat.le_refl _))⟩
      exact ⟨by rw [PyProof.Rows.lm_len_rep_flat, Nat.mul_comm]; exact hz, _, r.rep k.toNat, IsTup.new _ _⟩
theorem rep0 {α : Type} : ∀ (k : Nat), (List.replicate k ([] : List α)).flatten = []
  | 0 => rfl
  | k + 1 => by rw [List.replicate_succ, List.flatten_cons, rep0 k]; rfl
def pMul : P2 := fun x y q => match x, y with
  | .int i, .int j => MulOk i j ∧ q (.int (i * j))
  | .list a, .int k => (-(2 ^ 63) ≤ k ∧ k < 2 ^ 63 ∧ a.length * k.toNat ≤ sizeLine) ∧ q (.list (List.replicate k.toNat a).flatten)
  | .tuple a, .int k => (-(2 ^ 63) ≤ k ∧ k < 2 ^ 63 ∧ a.length * k.toNat ≤ sizeLine) ∧ q (.tuple (List.replicate k.toNat a).flatten)
  | _, _ => False
def rMulA (K : PySem.W.Frag) : R2 := fun x y H Q => (rI CMul (fun i j => .int (i * j)) x y H Q ∨ rI CMulW (fun i j => .int (i * j)) x y H Q) ∨ rRep x y H Q ∨ rRepA K x y H Q
theorem op_mulA {X : Cx} : OpR X (binaryOp .Mult) (rMulA X.K) := (op_mul.or op_mulW).or (op_rep.or op_repA)
theorem rep_one {α : Type} (xs : List α) : (List.replicate (1 : Int).toNat xs).flatten = xs := by
  show (List.replicate 1 xs).flatten = xs
  simp [List.replicate]
theorem rep_nil {α : Type} (k : Nat) : (List.replicate k ([] : List α)).flatten = [] := by
  induction k with
  | zero => rfl
  | succ k ih => rw [List.replicate_succ, List.flatten_cons, ih]; rfl
theorem v_mul {K : PySem.W.Frag} : VOp K (rMulA K) pMul := by
  intro F H x y dx dy q Q s px py t h
  cases px with
  | int i =>
    cases py with
    | int j =>
      rcases t.1 with z | z
      · exact .inl (.inl ⟨i, j, rfl, rfl, z, fin_flat s h (.int _) t.2⟩)
      · exact .inl (.inr ⟨i, j, rfl, rfl, z, fin_flat s h (.int _) t.2⟩)
    | _ => exact t.elim
  | @lst a vs ds h1 h2 =>
    cases py with
    | int k =>
      refine .inr (.inl ⟨_, k, vs, rfl, rfl, s _ _ h1, t.1.1, t.1.2.1, by rw [h2.length]; exact t.1.2.2, fun p hp => ?_⟩)
      have e := ext_new (o := .lst (List.replicate k.toNat vs).flatten) s hp
      exact h _ _ _ _ t.2 e (.lst upd_same ((h2.flat k.toNat).up e.f))
    | _ => exact t.elim
  | @tup a vs ds h1 h2 =>
    cases py with
    | int k =>
      refine .inr (.inr ⟨_, k, vs, rfl, rfl, same_tup s h1, t.1.1, t.1.2.1, by rw [h2.length]; exact t.1.2.2, fun z => ?_, fun z1 z2 p hp => ?_⟩)
      · have t2 := t.2
        rcases z with z | z
        · subst z
          cases h2
          rw [rep_nil] at t2
          exact h _ _ _ _ t2 (Ext.refl s) (.tup h1 .nil)
        · subst z
          rw [rep_one] at t2
          exact h _ _ _ _ t2 (Ext.refl s) (.tup h1 h2)
      · have e := ext_new (o := .tup (List.replicate k.toNat vs).flatten) s hp
        exact h _ _ _ _ t.2 e (.tup (.inl (.inl upd_same)) ((h2.flat k.toNat).up e.f))
    | _ => exact t.elim
  | _ => exact t.elim
end DL
end

section
set_option Elab.async false
set_option linter.all false
set_option maxRecDepth 100000
set_option maxHeartbeats 1000000
namespace DL
open PySem PySem.Spec PyProof.Rows L2

/-! ## subscripts -/
section
variable {X : Cx} {K : PySem.W.Frag}
/-- of what may not be there -/
def optD {α : Type} (o : Option α) (q : α → Prop) : Prop := match o with
  | some d => q d
  | none => False
theorem optD_of {α : Type} {o : Option α} {d : α} {q : α → Prop} (e : o = some d) (h : q d) : optD o q := by rw [e]; exact h
def pIx : P2 := fun x k q => match x, k with
  | .list ds, .int i => optD (atI ds i) q
  | .tuple ds, .int i => optD (atI ds i) q
  | .str z, .int i => z.length ≤ sizeLine ∧ optD (atI z.cps.toList i) fun c => q (.str ⟨#[c]⟩)
  | _, _ => False
theorem at_rp {F : Hp} {vs : List V} {ds : List D} {i : Int} {d : D} (p : RpAll K F vs ds) (h : atI ds i = some d) : ∃ v, atI vs i = some v ∧ Rp K F v d := by
  unfold atI at h ⊢
  rw [p.length]
  cases e : ixN ds.length i with
  | none => rw [e] at h; cases h
  | some j =>
    rw [e] at h
    obtain ⟨v, h1, h2⟩ := p.getD (i := j) h
    exact ⟨v, h1, h2⟩
theorem v_ix : VOp K (rIx K) pIx := by
  intro F H x y dx dy q Q s px py t h
  cases px with
  | @lst a vs ds h1 h2 =>
    cases py with
    | int i =>
      have t' : optD (atI ds i) q := t
      cases e : atI ds i with
      | none => rw [e] at t'; exact t'.elim
      | some d =>
        rw [e] at t'
        obtain ⟨v, k1, k2⟩ := at_rp h2 e
        exact .inl ⟨_, vs, i, v, rfl, rfl, SqL.of (s _ _ h1), k1, fin_flat s h k2 t'⟩
    | _ => exact t.elim
  | @tup a vs ds h1 h2 =>
    cases py with
    | int i =>
      have t' : optD (atI ds i) q := t
      cases e : atI ds i with
      | none => rw [e] at t'; exact t'.elim
      | some d =>
        rw [e] at t'
        obtain ⟨v, k1, k2⟩ := at_rp h2 e
        exact .inr (.inl ⟨_, vs, i, v, rfl, rfl, same_tup s h1, k1, fin_flat s h k2 t'⟩)
    | _ => exact t.elim
  | str z =>
    cases py with
    | int i =>
      obtain ⟨hz, t⟩ := t
      have t' : optD (atI z.cps.toList i) (fun c => q (.str ⟨#[c]⟩)) := t
      cases e : atI z.cps.toList i with
      | none => rw [e] at t'; exact t'.elim
      | some c =>
        rw [e] at t'
        exact .inr (.inr ⟨z, i, c, rfl, rfl, hz, e, fin_flat s h (.str _) t'⟩)
    | _ => exact t.elim
  | _ => cases py <;> exact t.elim
theorem d_ix {a b : Expr} {ta tb : DTE} {pos : Pos} (ha : DE X a ta) (hb : DE X b tb) (hs : PlainIx b) : DE X (.Subscript a b pos) (eOp2 pIx ta tb) :=
  ⟨fun W => pe_weak (pe_ix ix_seq (ha.run W) (hb.run W) hs) (op2_weak v_ix)⟩
/-- of a slot: an owner's list may be read -/
def eIxV (i : Nat) (tb : DTE) : DTE := fun r q => match dat r i with
  | some (.sh d) => tb r fun k r1 => pIx d k fun y => q y r1
  | some _ => tb r fun k r1 => (match dat r1 i with
    | some (.own (.lst ds)) => pIx (.list ds) k fun y => q y r1
    | some (.io (.lst ds)) => pIx (.list ds) k fun y => q y r1
    | _ => False)
  | _ => False
theorem slot_list {W : Wd} {r : DSt} {F : Hp} {σ : St} {H : Hp} {i : Nat} {ds : List D} (R : Rel K W r F σ H) (h : dat r i = some (.own (.lst ds)) ∨ dat r i = some (.io (.lst ds))) : ∃ a vs, σ[i]? = some (some (V.ref a)) ∧ H a = some (.lst vs) ∧ F a = none ∧ RpAll K F vs ds := by
  rcases h with h | h
  · obtain ⟨a, o, h1, h2, h3, ⟨vs, rfl, h4⟩, _⟩ := R.own i _ h
    exact ⟨a, vs, h1, h2, h3, h4⟩
  · obtain ⟨a, o, h1, h2, h3, ⟨vs, rfl, h4⟩, _⟩ := R.io i _ h
    exact ⟨a, vs, h1, h2, h3, h4⟩
theorem d_ixv (i : Nat) {x : Str} {p : Pos} {b : Expr} {tb : DTE} {pos : Pos} (hb : DE X b tb) (hs : PlainIx b) (hN : X.N[i]? = some x := by rfl) (hv : Vis X.env.scope x := by first | exact Or.inl rfl | exact Or.inr (Or.inl rfl) | exact Or.inr (Or.inr rfl)) (hd : (x == ("__debug__" : Str)) = false := by decide)
    (hcd : (x == ("__classdict__" : Str)) = false := by decide) : DE X (.Subscript (.Name x p) b pos) (eIxV i tb) := by
  refine ⟨fun W => pe_weak (pe_ix ix_seq (pe_var hN hv hd hcd) (hb.run W) hs) fun σ H Q h => ?_⟩
  obtain ⟨r, F, q, R, t, w⟩ := h
  unfold eIxV at t
  split at t
  · rename_i d e
    obtain ⟨v, e1, e2⟩ := R.sh i d e
    refine ⟨v, e1, r, F, _, R, t, fun k r1 kv F1 H1 t1 R1 s1 pk => ?_⟩
    exact v_ix F1 H1 v kv d k _ Q R1.sub (e2.up s1) pk t1 fun y z F' H' qy ex rp => w y r1 z F' H' qy (R1.ext ex) (s1.trans ex.f) rp
  · rename_i c nsh e
    obtain ⟨m0, hm⟩ : ∃ m, dat r i = some (Cell.own m) ∨ dat r i = some (Cell.io m) := by
      cases c with
      | sh d => exact (nsh d rfl).elim
      | own m => exact ⟨m, .inl e⟩
      | io m => exact ⟨m, .inr e⟩
    obtain ⟨a, ha⟩ : ∃ a, σ[i]? = some (some (V.ref a)) := by
      rcases hm with e | e
      · obtain ⟨a, o, h1, _⟩ := R.own i _ e
        exact ⟨a, h1⟩
      · obtain ⟨a, o, h1, _⟩ := R.io i _ e
        exact ⟨a, h1⟩
    refine ⟨_, ha, r, F, _, R, t, fun k r1 kv F1 H1 t1 R1 s1 pk => ?_⟩
    have go : ∀ {ds : List D}, (dat r1 i = some (.own (.lst ds)) ∨ dat r1 i = some (.io (.lst ds))) → (pIx (.list ds) k fun y => q y r1) → rIx X.K (.ref a) kv H1 Q := fun {ds} e t2 => by
      obtain ⟨a', vs, h1, h2, h3, h4⟩ := slot_list R1 e
      rw [ha] at h1; cases h1
      cases pk with
      | int j =>
        have t' : optD (atI ds j) (fun d => q d r1) := t2
        cases e2 : atI ds j with
        | none => rw [e2] at t'; exact t'.elim
        | some d =>
          rw [e2] at t'
          obtain ⟨v, k1, k2⟩ := at_rp h4 e2
          exact .inl ⟨_, vs, j, v, rfl, rfl, SqL.of h2, k1, w d r1 v F1 H1 t' R1 s1 k2⟩
      | _ => exact t2.elim
    split at t1
    · rename_i ds e; exact go (.inl e) t1
    · rename_i ds e; exact go (.inr e) t1
    · exact t1.elim
  · exact t.elim

/-! ## slices -/
abbrev DTP := DSt → (Option Int → DSt → Prop) → Prop
def liftP (K : PySem.W.Frag) (W : Wd) (t : DTP) : TO := fun σ H Q => ∃ r F q, Rel K W r F σ H ∧ t r q ∧ ∀ o r' F' H', q o r' → Rel K W r' F' σ H' → Same F F' → Q o H'
structure DP (X : Cx) (e : Option Expr) (t : DTP) : Prop where
  run : ∀ W, PO X e (liftP X.K W t)
def pNo : DTP := fun r q => q none r
def pSome (te : DTE) : DTP := fun r q => te r fun d r1 => match d with
  | .int i => q (some i) r1
  | _ => False
theorem po_weak {e : Option Expr} {t t' : TO} (h : PO X e t) (w : ∀ σ H Q, t' σ H Q → t σ H Q) : PO X e t' := ⟨fun pins s σ H Q I q => h.run pins s σ H Q I (w σ H Q q)⟩
theorem dp_no : DP X none pNo := by
  refine ⟨fun W => po_weak po_none fun σ H Q h => ?_⟩
  obtain ⟨r, F, q, R, t, w⟩ := h
  exact w none r F H t R (Same.refl _)
theorem dp_some {e : Expr} {te : DTE} (h : DE X e te) : DP X (some e) (pSome te) := by
  refine ⟨fun W => po_weak (po_some (h.run W)) fun σ H Q h => ?_⟩
  obtain ⟨r, F, q, R, t, w⟩ := h
  refine ⟨r, F, _, R, t, fun d r' v F' H' a b c p => ?_⟩
  cases p with
  | int i => exact ⟨i, rfl, w _ r' F' H' a b c⟩
  | _ => exact a.elim
def cutD {α : Type} (xs : List α) (lo hi : Option Int) : List α := (xs.drop (HT.sIx xs.length 0 lo)).take (HT.sIx xs.length xs.length hi - HT.sIx xs.length 0 lo)
theorem cut_rp {F : Hp} {vs : List V} {ds : List D} (p : RpAll K F vs ds) (lo hi : Option Int) : RpAll K F (cutV vs lo hi) (cutD ds lo hi) := by
  unfold cutV cutD
  rw [p.length]
  exact (p.drop _).take _
def pSl (x : D) (lo hi : Option Int) (q : D → Prop) : Prop := match x with
  | .list ds => q (.list (cutD ds lo hi))
  | .tuple ds => q (.tuple (cutD ds lo hi))
  | .str z => z.length ≤ sizeLine ∧ q (.str (cutS z lo hi))
  | .dict [(.none, .list ds)] => q (.list (cutD ds lo hi))
  | _ => False
def rSlAll (K : PySem.W.Frag) : V → Option Int → Option Int → Hp → VK → Prop := fun x lo hi H Q => rSlL K x lo hi H Q ∨ rSlA K x lo hi H Q ∨ rSlS x lo hi H Q
theorem sl_all : SlR X (rSlAll X.K) := sl_list.or (sl_tupA.or sl_str)
theorem cut_all {α : Type} {xs : List α} {lo hi : Option Int} (h : HT.sIx xs.length 0 lo = 0 ∧ HT.sIx xs.length xs.length hi = xs.length) : cutD xs lo hi = xs := by
  unfold cutD
  rw [h.1, h.2, List.drop_zero, Nat.sub_zero, List.take_length]
theorem v_sl {F H : Hp} {x : V} {dx : D} {lo hi : Option Int} {q : D → Prop} {Q : VK} (s : Same F H) (px : Rp K F x dx) (t : pSl dx lo hi q) (h : Fin2 K F H q Q) : rSlAll K x lo hi H Q := by
  have newL : ∀ {vs : List V} {ds : List D}, RpAll K F vs ds → q (.list (cutD ds lo hi)) → ∀ p, H p = none → Q (.ref p) (upd H p (.lst (cutV vs lo hi))) := fun {vs ds} h2 t p hp => by
    have e := ext_new (o := .lst (cutV vs lo hi)) s hp
    exact h _ _ _ _ t e (.lst upd_same ((cut_rp h2 lo hi).up e.f))
  cases px with
  | @lst a vs ds h1 h2 => exact .inl ⟨_, vs, rfl, SqL.of (s _ _ h1), newL h2 t⟩
  | @tup a vs ds h1 h2 =>
    refine .inr (.inl ⟨_, vs, rfl, same_tup s h1, fun z => ?_, fun z p hp => ?_⟩)
    · rw [h2.length] at z
      have t' : q (.tuple (cutD ds lo hi)) := t
      rw [cut_all z] at t'
      exact fin_flat s h (.tup h1 h2) t'
    · have e := ext_new (o := .tup (cutV vs lo hi)) s hp
      exact h _ _ _ _ t e (.tup (.inl (.inl upd_same)) ((cut_rp h2 lo hi).up e.f))
  | str z => exact .inr (.inr ⟨z, rfl, t.1, fin_flat s h (.str _) t.2⟩)
  | @scr a vs ds h1 h2 => exact .inl ⟨_, vs, rfl, s.seq h1, newL h2 t⟩
  | dic h1 h2 =>
    cases h2 with
    | nil => exact t.elim
    | @cons k v ps d ds k1 k2 =>
      cases k <;> exact t.elim
  | _ => exact t.elim
def eSl (te : DTE) (tl th : DTP) : DTE := fun r q => te r fun d r1 => tl r1 fun l r2 => th r2 fun u r3 => pSl d l u fun y => q y r3
theorem d_sl {e : Expr} {lo hi : Option Expr} {te : DTE} {tl th : DTP} {pos p2 : Pos} (he : DE X e te) (hl : DP X lo tl) (hu : DP X hi th) : DE X (.Subscript e (.Slice lo hi none p2) pos) (eSl te tl th) := by
  refine ⟨fun W => pe_weak (pe_slice sl_all (he.run W) (hl.run W) (hu.run W)) fun σ H Q h => ?_⟩
  obtain ⟨r, F, q, R, t, w⟩ := h
  refine ⟨r, F, _, R, t, fun d r1 v F1 H1 t1 R1 s1 p1 => ⟨r1, F1, _, R1, t1, fun l r2 F2 H2 t2 R2' s2 => ⟨r2, F2, _, R2', t2, fun u r3 F3 H3 t3 R3 s3 => ?_⟩⟩⟩
  exact v_sl R3.sub (p1.up (s2.trans s3)) t3 fun y z F' H' qy ex rp => w y r3 z F' H' qy (R3.ext ex) (s1.trans (s2.trans (s3.trans ex.f))) rp
/-- a list's slice, one's own -/
def oSl (te : DTE) (tl th : DTP) : DTO := fun r q => te r fun d r1 => tl r1 fun l r2 => th r2 fun u r3 => match d with
  | .list ds => q (.lst (cutD ds l u)) r3
  | .dict [(.none, .list ds)] => q (.lst (cutD ds l u)) r3
  | _ => False
theorem o_sl {e : Expr} {lo hi : Option Expr} {te : DTE} {tl th : DTP} {pos p2 : Pos} (he : DE X e te) (hl : DP X lo tl) (hu : DP X hi th) : DO X (.Subscript e (.Slice lo hi none p2) pos) (oSl te tl th) := by
  refine ⟨fun W => pe_weak (pe_slice sl_list (he.run W) (hl.run W) (hu.run W)) fun σ H Q h => ?_⟩
  obtain ⟨r, F, q, R, t, w⟩ := h
  refine ⟨r, F, _, R, t, fun d r1 v F1 H1 t1 R1 s1 p1 => ⟨r1, F1, _, R1, t1, fun l r2 F2 H2 t2 R2' s2 => ⟨r2, F2, _, R2', t2, fun u r3 F3 H3 t3 R3 s3 => ?_⟩⟩⟩
  have go : ∀ {a : Addr} {vs : List V} {ds : List D}, SqL X.K F1 a vs → RpAll X.K F1 vs ds → q (.lst (cutD ds l u)) r3 → rSlL X.K (.ref a) l u H3 Q := fun {a vs ds} h1 h2 t => by
    have s23 := s2.trans s3
    refine ⟨a, vs, rfl, R3.sub.seq (s23.seq h1), fun p hp => ?_⟩
    obtain ⟨R4, f4, h4, ap⟩ := rel_newH (o := .lst (cutV vs l u)) R3 hp
    exact w _ r3 p _ F3 _ t R4 (s1.trans s23) upd_same f4 ⟨_, rfl, (cut_rp h2 l u).up s23⟩ h4 ap
  cases p1 with
  | lst h1 h2 => exact go (SqL.of h1) h2 t3
  | scr h1 h2 => exact go h1 h2 t3
  | dic h1 h2 =>
    cases h2 with
    | nil => exact t3.elim
    | @cons k v ps d ds k1 k2 =>
      cases k <;> exact t3.elim
  | _ => exact t3.elim
/-- of a slot whose list is one's own: without giving it away -/
def eSlV (i : Nat) (tl th : DTP) : DTE := fun r q => match dat r i with
  | some (.sh d) => tl r fun l r2 => th r2 fun u r3 => pSl d l u fun y => q y r3
  | some _ => tl r fun l r2 => th r2 fun u r3 => (match dat r3 i with
    | some (.own (.lst ds)) => q (.list (cutD ds l u)) r3
    | some (.io (.lst ds)) => q (.list (cutD ds l u)) r3
    | _ => False)
  | _ => False
theorem d_slv (i : Nat) {x : Str} {p : Pos} {lo hi : Option Expr} {tl th : DTP} {pos p2 : Pos} (hl : DP X lo tl) (hu : DP X hi th) (hN : X.N[i]? = some x := by rfl) (hv : Vis X.env.scope x := by first | exact Or.inl rfl | exact Or.inr (Or.inl rfl) | exact Or.inr (Or.inr rfl)) (hd : (x == ("__debug__" : Str)) = false := by decide)
    (hcd : (x == ("__classdict__" : Str)) = false := by decide) : DE X (.Subscript (.Name x p) (.Slice lo hi none p2) pos) (eSlV i tl th) := by
  refine ⟨fun W => pe_weak (pe_slice sl_all (pe_var hN hv hd hcd) (hl.run W) (hu.run W)) fun σ H Q h => ?_⟩
  obtain ⟨r, F, q, R, t, w⟩ := h
  unfold eSlV at t
  split at t
  · rename_i d e
    obtain ⟨v, e1, e2⟩ := R.sh i d e
    refine ⟨v, e1, r, F, _, R, t, fun l r2 F2 H2 t2 R2' s2 => ⟨r2, F2, _, R2', t2, fun u r3 F3 H3 t3 R3 s3 => ?_⟩⟩
    exact v_sl R3.sub (e2.up (s2.trans s3)) t3 fun y z F' H' qy ex rp => w y r3 z F' H' qy (R3.ext ex) (s2.trans (s3.trans ex.f)) rp
  · rename_i c nsh e
    obtain ⟨a, ha⟩ : ∃ a, σ[i]? = some (some (V.ref a)) := by
      cases c with
      | sh d => exact (nsh d rfl).elim
      | own m => obtain ⟨a, o, h1, _⟩ := R.own i m e; exact ⟨a, h1⟩
      | io m => obtain ⟨a, o, h1, _⟩ := R.io i m e; exact ⟨a, h1⟩
    refine ⟨_, ha, r, F, _, R, t, fun l r2 F2 H2 t2 R2' s2 => ⟨r2, F2, _, R2', t2, fun u r3 F3 H3 t3 R3 s3 => ?_⟩⟩
    have go : ∀ {ds : List D}, (dat r3 i = some (.own (.lst ds)) ∨ dat r3 i = some (.io (.lst ds))) → q (.list (cutD ds l u)) r3 → rSlAll X.K (.ref a) l u H3 Q := fun {ds} e t => by
      obtain ⟨a', vs, h1, h2, h3, h4⟩ := slot_list R3 e
      rw [ha] at h1; cases h1
      refine .inl ⟨a, vs, rfl, SqL.of h2, fun p hp => ?_⟩
      have ex := ext_new (o := .lst (cutV vs l u)) R3.sub hp
      exact w _ r3 _ _ _ t (R3.ext ex) (s2.trans (s3.trans ex.f)) (.lst upd_same ((cut_rp h4 l u).up ex.f))
    split at t3
    · rename_i ds e; exact go (.inl e) t3
    · rename_i ds e; exact go (.inr e) t3
    · exact t3.elim
  · exact t.elim
end
end DL
end

section
set_option Elab.async false
set_option linter.all false
set_option maxRecDepth 100000
set_option maxHeartbeats 1000000
namespace DL
open PySem PySem.Spec PyProof.Rows L2 RZ

/-! ## enumerate, zip, signs -/
def enumD : Int → List D → List D
  | _, [] => []
  | k, d :: t => .tuple [.int k, d] :: enumD (k + 1) t
theorem enumD_len : ∀ (k : Int) (ds : List D), (enumD k ds).length = ds.length
  | _, [] => rfl
  | k, _ :: t => congrArg (· + 1) (enumD_len (k + 1) t)
theorem enumD_get : ∀ (k : Int) (ds : List D) (i : Nat), (enumD k ds)[i]? = (ds[i]?).map fun d => PyData.tuple [.int (k + (i : Nat)), d]
  | _, [], _ => by simp [enumD]
  | k, d :: t, 0 => by simp [enumD]
  | k, d :: t, i + 1 => by
    have := enumD_get (k + 1) t i
    simp only [enumD, List.getElem?_cons_succ, this]
    have e : k + 1 + (i : Int) = k + ((i + 1 : Nat) : Int) := by omega
    simp only [e]
def zipD : List D → List D → List D
  | a :: s, b :: t => .tuple [a, b] :: zipD s t
  | _, _ => []
theorem zipD_get : ∀ (as bs : List D) (i : Nat) (d : D), (zipD as bs)[i]? = some d → ∃ a b, as[i]? = some a ∧ bs[i]? = some b ∧ d = .tuple [a, b]
  | [], _, _, _, h => by simp [zipD] at h
  | _ :: _, [], _, _, h => by simp [zipD] at h
  | a :: s, b :: t, 0, d, h => by simp [zipD] at h; exact ⟨a, b, rfl, rfl, h.symm⟩
  | a :: s, b :: t, i + 1, d, h => by simpa using zipD_get s t i d (by simpa [zipD] using h)
theorem zipD_len : ∀ (as bs : List D), (zipD as bs).length = min as.length bs.length
  | [], _ => by simp [zipD]
  | _ :: _, [] => by simp [zipD]
  | a :: s, b :: t => by simp [zipD, zipD_len s t]
def signsD (z : Str) : List D := z.cps.toList.map fun c => PyData.str ⟨#[c]⟩
section
variable {X : Cx} {K : PySem.W.Frag}
theorem jok_enum {F0 : Hp} {a : Addr} {vs : List V} {ds : List D} (h : SqL K F0 a vs) (p : RpAll K F0 vs ds) : JOk K F0 (Ite K a) (enumD 0 ds) where
  stop := fun i F H s1 s2 hi => ⟨vs, s2.seq (s1.seq h), by rw [enumD_len] at hi; rw [p.length]; exact hi⟩
  go := fun i F H s1 s2 hi => by
    rw [enumD_len] at hi
    have hi' : i < vs.length := p.length ▸ hi
    exact ⟨vs, vs[i], s2.seq (s1.seq h), by simp [hi']⟩
  yld := fun i F H x H' d s1 s2 y e => by
    obtain ⟨T, v, rfl, hT, rfl, y⟩ := y
    have ex := y vs (s2.seq (s1.seq h))
    obtain ⟨d', e1, e2⟩ := p.get ex
    rw [enumD_get, e1] at e
    have e' : PyData.tuple [.int (0 + (i : Nat)), d'] = d := Option.some.inj e
    subst e'
    have xt := ext_new (o := .tup [.int (i : Nat), v]) s2 hT
    refine ⟨_, xt, .tup (.inl (.inl upd_same)) (.cons ?_ (.cons ((e2.up s1).up xt.f) .nil))⟩
    rw [Int.zero_add]
    exact .int _
theorem jok_zip {F0 : Hp} {a b : Addr} {vs ws : List V} {ds es : List D} (h : SqL K F0 a vs) (p : RpAll K F0 vs ds) (h' : SqL K F0 b ws) (p' : RpAll K F0 ws es) : JOk K F0 (Itz K a b) (zipD ds es) where
  stop := fun i F H s1 s2 hi => ⟨vs, ws, s2.seq (s1.seq h), s2.seq (s1.seq h'), by rw [zipD_len] at hi; rw [p.length, p'.length]; omega⟩
  go := fun i F H s1 s2 hi => by
    rw [zipD_len] at hi
    have h1 : i < vs.length := by rw [p.length]; omega
    have h2 : i < ws.length := by rw [p'.length]; omega
    exact ⟨vs, ws, vs[i], ws[i], s2.seq (s1.seq h), s2.seq (s1.seq h'), by simp [h1], by simp [h2]⟩
  yld := fun i F H x H' d s1 s2 y e => by
    obtain ⟨T, u, v, rfl, hT, rfl, y1, y2⟩ := y
    obtain ⟨d1, d2, e1, e2, rfl⟩ := zipD_get _ _ _ _ e
    obtain ⟨d1', k1, k2⟩ := p.get (y1 vs (s2.seq (s1.seq h)))
    obtain ⟨d2', k3, k4⟩ := p'.get (y2 ws (s2.seq (s1.seq h')))
    rw [e1] at k1; cases k1
    rw [e2] at k3; cases k3
    have xt := ext_new (o := .tup [u, v]) s2 hT
    exact ⟨_, xt, .tup (.inl (.inl upd_same)) (.cons ((k2.up s1).up xt.f) (.cons ((k4.up s1).up xt.f) .nil))⟩
theorem jok_zipT {F0 : Hp} {a b : Addr} {vs ws : List V} {ds es : List D} (h : SqT K F0 a vs) (p : RpAll K F0 vs ds) (h' : SqT K F0 b ws) (p' : RpAll K F0 ws es) : JOk K F0 (ItzT K a b) (zipD ds es) where
  stop := fun i F H s1 s2 hi => ⟨vs, ws, same_tup s2 (same_tup s1 h), same_tup s2 (same_tup s1 h'), by rw [zipD_len] at hi; rw [p.length, p'.length]; omega⟩
  go := fun i F H s1 s2 hi => by
    rw [zipD_len] at hi
    have h1 : i < vs.length := by rw [p.length]; omega
    have h2 : i < ws.length := by rw [p'.length]; omega
    exact ⟨vs, ws, vs[i], ws[i], same_tup s2 (same_tup s1 h), same_tup s2 (same_tup s1 h'), by simp [h1], by simp [h2]⟩
  yld := fun i F H x H' d s1 s2 y e => by
    obtain ⟨T, u, v, rfl, hT, rfl, y1, y2⟩ := y
    obtain ⟨d1, d2, e1, e2, rfl⟩ := zipD_get _ _ _ _ e
    obtain ⟨d1', k1, k2⟩ := p.get (y1 vs (same_tup s2 (same_tup s1 h)))
    obtain ⟨d2', k3, k4⟩ := p'.get (y2 ws (same_tup s2 (same_tup s1 h')))
    rw [e1] at k1; cases k1
    rw [e2] at k3; cases k3
    have xt := ext_new (o := .tup [u, v]) s2 hT
    exact ⟨_, xt, .tup (.inl (.inl upd_same)) (.cons ((k2.up s1).up xt.f) (.cons ((k4.up s1).up xt.f) .nil))⟩
theorem jok_str {F0 : Hp} (z : Str) : JOk K F0 (Its z) (signsD z) where
  stop := fun i F H s1 s2 hi => by
    unfold signsD at hi
    show z.cps.size ≤ i
    simpa using hi
  go := fun i F H s1 s2 hi => by
    unfold signsD at hi
    show i < z.cps.size
    simpa using hi
  yld := fun i F H x H' d s1 s2 y e => by
    obtain ⟨rfl, c, y1, rfl⟩ := y
    unfold signsD at e
    rw [List.getElem?_map] at e
    have : z.cps.toList[i]? = some c := by simpa using y1
    rw [this] at e
    cases e
    exact ⟨F, Ext.refl s2, .str _⟩
def iEnm (ta : DTA) : DTI := fun r q => ta r fun ds r1 => match ds with
  | [.list xs] => q (enumD 0 xs) r1
  | [.dict [(.none, .list xs)]] => q (enumD 0 xs) r1
  | _ => False
def iZp (ta : DTA) : DTI := fun r q => ta r fun ds r1 => match ds with
  | [.list xs, .list ys] => q (zipD xs ys) r1
  | [.tuple xs, .tuple ys] => q (zipD xs ys) r1
  | _ => False
def iSg (te : DTE) : DTI := fun r q => te r fun d r1 => match d with
  | .str z => q (signsD z) r1
  | _ => False
theorem scr_inv {F : Hp} {v : V} {ds : List D} (p : Rp K F v (.dict [(.none, .list ds)])) : ∃ a vs, v = .ref a ∧ SqL K F a vs ∧ RpAll K F vs ds := by
  cases p with
  | scr h1 h2 => exact ⟨_, _, rfl, h1, h2⟩
  | dic h1 h2 =>
    have key : ∀ {ps : List (Key × V)} {es : List (D × D)}, RpKv K F ps es → es ≠ [(.none, .list ds)] := fun {ps es} z => by
      cases z with
      | nil => exact fun y => by cases y
      | @cons k v ps d ds' k1 k2 => exact fun y => by cases k <;> cases y
    exact absurd rfl (key h2)
theorem di_enum {e : Expr} {ta : DTA} {p pos tpos : Pos} {elts : List Expr} {kk : Nat} (hg : Gl X "enumerate") (hm : X.mg "enumerate" = none) (ha : DA X [e] ta) (hs : starEach [e] X.env = [(false, eval e X.env)] := by rfl) :
    DI X (.Tuple elts kk tpos) (.Call (.Name "enumerate" p) [e] [] pos) (iEnm ta) := by
  refine ⟨fun W => pi_weak (pi_enum hg hm (ha.run W) hs) fun σ H Q h => ?_⟩
  obtain ⟨r, F, q, R, t, w⟩ := h
  refine ⟨r, F, _, R, t, fun ds r' vs F' H' a b c p => ?_⟩
  unfold iEnm at a
  split at a
  · cases p with
    | cons p1 p2 =>
      cases p2
      cases p1 with
      | lst h1 h2 => exact ⟨_, _, rfl, SqL.of (b.sub _ _ h1), w _ r' _ F' H' a b c (jok_enum (SqL.of h1) h2)⟩
  · cases p with
    | cons p1 p2 =>
      cases p2
      obtain ⟨l, us, rfl, h1, h2⟩ := scr_inv p1
      exact ⟨_, _, rfl, b.sub.seq h1, w _ r' _ F' H' a b c (jok_enum h1 h2)⟩
  · exact a.elim
theorem di_zip {e e2 : Expr} {ta : DTA} {p pos tpos : Pos} {elts : List Expr} {kk : Nat} (hg : Gl X "zip") (hm : X.mg "zip" = none) (ha : DA X [e, e2] ta)
    (hs : starEach [e, e2] X.env = (false, eval e X.env) :: starEach [e2] X.env := by rfl) (hpl : (backTo pos (starEach [e2] X.env)).any (·.1) = false := by rfl) :
    DI X (.Tuple elts kk tpos) (.Call (.Name "zip" p) [e, e2] [] pos) (iZp ta) := by
  refine ⟨fun W => pi_weak (pi_zipA hg hm (ha.run W) hs hpl) fun σ H Q h => ?_⟩
  obtain ⟨r, F, q, R, t, w⟩ := h
  refine ⟨r, F, _, R, t, fun ds r' vs F' H' a b c p => ?_⟩
  match ds, p, a with
  | [.list xs, .list ys], .cons (.lst h1 h2) (.cons (.lst k1 k2) .nil), a => exact ⟨_, _, _, _, rfl, .inl ⟨SqL.of (b.sub _ _ h1), SqL.of (b.sub _ _ k1), w _ r' _ F' H' a b c (jok_zip (SqL.of h1) h2 (SqL.of k1) k2)⟩⟩
  | [.tuple xs, .tuple ys], .cons (.tup h1 h2) (.cons (.tup k1 k2) .nil), a => exact ⟨_, _, _, _, rfl, .inr ⟨same_tup b.sub h1, same_tup b.sub k1, w _ r' _ F' H' a b c (jok_zipT h1 h2 k1 k2)⟩⟩
theorem di_str {tg e : Expr} {te : DTE} (h : DE X e te) : DI X tg e (iSg te) := by
  refine ⟨fun W => pi_weak (pi_str (h.run W)) fun σ H Q h => ?_⟩
  obtain ⟨r, F, q, R, t, w⟩ := h
  refine ⟨r, F, _, R, t, fun d r' v F' H' a b c p => ?_⟩
  cases p with
  | str z => exact ⟨z, rfl, w _ r' _ F' H' a b c (jok_str z)⟩
  | _ => exact a.elim

/-! ## built-in calls -/
def lenD : D → (Nat → Prop) → Prop
  | .list ds, q => q ds.length
  | .tuple ds, q => q ds.length
  | .str z, q => z.length ≤ sizeLine ∧ q z.length
  | .dict [(.none, .list ds)], q => q ds.length
  | _, _ => False
def pLen : PN := fun xs q => match xs with
  | [x] => lenD x fun n => q (.int (n : Nat))
  | _ => False
theorem v_len : VCall K (fun xs H Q => ∃ x n, xs = [x] ∧ LenV K x H n ∧ Q (.int n) H) pLen := by
  intro F H xs ds q Q s p t h
  cases p with
  | nil => exact t.elim
  | cons p1 p2 =>
    cases p2 with
    | cons _ _ => exact t.elim
    | nil =>
      cases p1 with
      | lst h1 h2 => exact ⟨_, _, rfl, .inl ⟨_, SqL.of (s _ _ h1), h2.length.symm⟩, fin_flat s h (.int _) t⟩
      | tup h1 h2 => exact ⟨_, _, rfl, .inr ⟨_, same_tup s h1, h2.length.symm⟩, fin_flat s h (.int _) t⟩
      | str z => exact ⟨_, _, rfl, ⟨t.1, rfl⟩, fin_flat s h (.int _) t.2⟩
      | scr h1 h2 => exact ⟨_, _, rfl, .inl ⟨_, s.seq h1, h2.length.symm⟩, fin_flat s h (.int _) t⟩
      | dic h1 h2 =>
        cases h2 with
        | nil => exact t.elim
        | @cons k v ps d ds k1 k2 => cases k <;> exact t.elim
      | _ => exact t.elim
def pAbs : PN := fun xs q => match xs with
  | [.int i] => q (.int (if i < 0 then -i else i))
  | _ => False
theorem v_abs : VCall K (fun xs H Q => ∃ i, xs = [.int i] ∧ Q (.int (if i < 0 then -i else i)) H) pAbs := by
  intro F H xs ds q Q s p t h
  match ds, p, t with
  | [.int i], .cons (.int _) .nil, t => exact ⟨i, rfl, fin_flat s h (.int _) t⟩
def pInt : PN := fun xs q => match xs with
  | [.int i] => q (.int i)
  | [.bool b] => q (.int (if b then 1 else 0))
  | _ => False
theorem v_int1 : VCall K (fun xs H Q => (∃ i, xs = [.int i] ∧ Q (.int i) H) ∨ ∃ k, xs = [.bl k] ∧ Q (.int (if k then 1 else 0)) H) pInt := by
  intro F H xs ds q Q s p t h
  match ds, p, t with
  | [.int i], .cons (.int _) .nil, t => exact .inl ⟨i, rfl, fin_flat s h (.int _) t⟩
  | [.bool b], .cons (.bl _) .nil, t => exact .inr ⟨b, rfl, fin_flat s h (.int _) t⟩
def pMax2 : PN := fun xs q => match xs with
  | [.int i, .int j] => q (.int (if j > i then j else i))
  | _ => False
theorem v_max2 : VCall K (fun xs H Q => ∃ i j, xs = [.int i, .int j] ∧ Q (.int (if j > i then j else i)) H) pMax2 := by
  intro F H xs ds q Q s p t h
  match ds, p, t with
  | [.int i, .int j], .cons (.int _) (.cons (.int _) .nil), t => exact ⟨i, j, rfl, fin_flat s h (.int _) t⟩
def pMin2 : PN := fun xs q => match xs with
  | [.int i, .int j] => q (.int (if j < i then j else i))
  | _ => False
theorem v_min2 : VCall K (fun xs H Q => ∃ i j, xs = [.int i, .int j] ∧ Q (.int (if j < i then j else i)) H) pMin2 := by
  intro F H xs ds q Q s p t h
  match ds, p, t with
  | [.int i, .int j], .cons (.int _) (.cons (.int _) .nil), t => exact ⟨i, j, rfl, fin_flat s h (.int _) t⟩
def pDvm : PN := fun xs q => match xs with
  | [.int i, .int j] => CDivP i j ∧ q (.tuple [.int (i / j), .int (i % j)])
  | _ => False
theorem CDivP.small {i j : Int} (h : 0 < j) (h2 : j < 1073741824) : CDivP i j := ⟨h, PyProof.noPylong_small (by omega)⟩
theorem CDivP.wide {i j : Int} (h : 0 < j) (h2 : j.natAbs.log2 < 9000) : CDivP i j := ⟨h, PyProof.noPylong_of_log2 h2⟩
theorem v_dvm : VCall K (fun xs H Q => ∃ i j, xs = [.int i, .int j] ∧ CDivP i j ∧ ∀ p, H p = none → Q (.ref p) (upd H p (.tup [.int (i / j), .int (i % j)]))) pDvm := by
  intro F H xs ds q Q s p t h
  match ds, p, t with
  | [.int i, .int j], .cons (.int _) (.cons (.int _) .nil), t =>
    refine ⟨i, j, rfl, t.1, fun p hp => ?_⟩
    have e := ext_new (o := .tup [.int (i / j), .int (i % j)]) s hp
    exact h _ _ _ _ t.2 e (.tup (.inl (.inl upd_same)) (.cons (.int _) (.cons (.int _) .nil)))
def pTup : PN := fun xs q => match xs with
  | [.list ds] => q (.tuple ds)
  | [.tuple ds] => q (.tuple ds)
  | _ => False
theorem v_tup : VCall K (fun xs H Q => ∃ p ys, xs = [.ref p] ∧ ((SqL K H p ys ∧ ∀ l, H l = none → Q (.ref l) (upd H l (.tup ys))) ∨ (SqT K H p ys ∧ Q (.ref p) H))) pTup := by
  intro F H xs ds q Q s p t h
  match ds, p, t with
  | [.list es], .cons (@Rp.lst _ _ a vs _ h1 h2) .nil, t =>
    refine ⟨a, vs, rfl, .inl ⟨SqL.of (s _ _ h1), fun l hl => ?_⟩⟩
    have e := ext_new (o := .tup vs) s hl
    exact h _ _ _ _ t e (.tup (.inl (.inl upd_same)) (h2.up e.f))
  | [.tuple es], .cons (.tup h1 h2) .nil, t => exact ⟨_, _, rfl, .inr ⟨same_tup s h1, fin_flat s h (.tup h1 h2) t⟩⟩
/-- list(x): one's own -/
def oList (te : DTE) : DTO := fun r q => te r fun d r1 => match d with
  | .list ds => q (.lst ds) r1
  | .tuple ds => q (.lst ds) r1
  | .dict [(.none, .list ds)] => q (.lst ds) r1
  | _ => False
theorem o_list {e : Expr} {te : DTE} {p pos : Pos} (he : DE X e te) (hg : Gl X "list") (hm : X.mg "list" = none) (hb : bootBuiltins "list" = some (.type "list"))
    (hst : starEach [e] X.env = (false, eval e X.env) :: starEach [] X.env := by rfl) (hpl : (backTo pos (starEach [] X.env)).any (·.1) = false := by rfl) : DO X (.Call (.Name "list" p) [e] [] pos) (oList te) := by
  refine ⟨fun W => pe_weak (pe_callTy call_list_of hg hm hb (pa_cons (he.run W) pa_nil hst) (by decide) (by decide) hst hpl) fun σ H Q h => ?_⟩
  obtain ⟨r, F, q, R, t, w⟩ := h
  refine ⟨r, F, _, R, t, fun d r1 v F1 H1 t1 R1 s1 p1 => ?_⟩
  have go : ∀ {a : Addr} {vs : List V} {ds : List D}, (SqL X.K H1 a vs ∨ SqT X.K H1 a vs) → RpAll X.K F1 vs ds → q (.lst ds) r1 → ∃ p ys, [V.ref a] = [V.ref p] ∧ (SqL X.K H1 p ys ∨ SqT X.K H1 p ys) ∧ ∀ l, H1 l = none → Q (.ref l) (upd H1 l (.lst ys)) := fun {a vs ds} h1 h2 t => by
    refine ⟨a, vs, rfl, h1, fun l hl => ?_⟩
    obtain ⟨R4, f4, h4, ap⟩ := rel_newH (o := .lst vs) R1 hl
    exact w _ r1 l _ F1 _ t R4 s1 upd_same f4 ⟨_, rfl, h2⟩ h4 ap
  cases p1 with
  | lst h1 h2 => exact go (.inl (SqL.of (R1.sub _ _ h1))) h2 t1
  | tup h1 h2 => exact go (.inr (same_tup R1.sub h1)) h2 t1
  | scr h1 h2 => exact go (.inl (R1.sub.seq h1)) h2 t1
  | dic h1 h2 =>
    cases h2 with
    | nil => exact t1.elim
    | @cons k v ps d ds k1 k2 => cases k <;> exact t1.elim
  | _ => exact t1.elim
def pAny : PN := fun xs q => match xs with
  | [.list ds] => ∃ bs : List Bool, ds = bs.map PyData.bool ∧ q (.bool (bs.any id))
  | _ => False
def pAll : PN := fun xs q => match xs with
  | [.list ds] => ∃ bs : List Bool, ds = bs.map PyData.bool ∧ q (.bool (bs.all id))
  | _ => False
theorem RpAll.ofBools {F : Hp} : ∀ {bs : List Bool} {vs : List V}, RpAll K F vs (bs.map PyData.bool) → vs = bs.map V.bl
  | [], _, h => by cases h; rfl
  | n :: ns, _, h => by
    cases h with
    | cons h1 h2 =>
      cases h1
      rw [RpAll.ofBools h2]
      rfl
theorem v_any : VCall K (rAny K) pAny := by
  intro F H xs ds q Q s p t h
  match ds, p, t with
  | [.list es], .cons (@Rp.lst _ _ a vs _ h1 h2) .nil, ⟨bs, e, t⟩ =>
    subst e
    exact ⟨a, bs, rfl, by rw [← RpAll.ofBools h2]; exact SqL.of (s _ _ h1), fin_flat s h (.bl _) t⟩
theorem v_all : VCall K (rAll K) pAll := by
  intro F H xs ds q Q s p t h
  match ds, p, t with
  | [.list es], .cons (@Rp.lst _ _ a vs _ h1 h2) .nil, ⟨bs, e, t⟩ =>
    subst e
    exact ⟨a, bs, rfl, by rw [← RpAll.ofBools h2]; exact SqL.of (s _ _ h1), fin_flat s h (.bl _) t⟩
/-! ### sum, max, min of lists and tuples of ints -/
def rSumA (K : PySem.W.Frag) : List V → Hp → VK → Prop := fun vs H Q => ∃ (a : Addr) (ns : List Int), vs = [V.ref a] ∧ (SqL K H a (ns.map V.int) ∨ SqT K H a (ns.map V.int)) ∧ Q (.int ns.sum) H
theorem cr_sumA (hc : X.calm = true) : CallR X (.builtin "sum") (rSumA X.K) := by
  intro pins s σ H vs us Q I r h
  obtain ⟨a, ns, rfl, hs | hs, q⟩ := h
  · exact cr_sum hc pins s σ H _ us Q I r ⟨a, ns, rfl, hs, q⟩
  · obtain ⟨its, rv, hl, _⟩ := I.tuple hs
    rw [Vals.ref1 r]
    have hi := rv.ints
    obtain ⟨xs, e⟩ := hi.allInts.items
    have hn : numsOf (intItems xs).toList = ns := by rw [← e]; exact hi.numsOf
    rw [nums_intItems] at hn
    have hl' : s.heap.IsTuple a (intItems xs) := by rw [← e]; exact hl
    refine PySem.W.ktm_sumG (I.ok.hd hc) hl' fun h' tk t' hk => ?_
    rw [preSum_eq, List.take_of_length_le (by simp), hn]
    exact ⟨.int _, H, I.kept hk, ⟨_, rfl⟩, q⟩
def pSum : PN := fun xs q => match xs with
  | [.list ds] => ∃ ns : List Int, ds = ns.map PyData.int ∧ q (.int ns.sum)
  | [.tuple ds] => ∃ ns : List Int, ds = ns.map PyData.int ∧ q (.int ns.sum)
  | _ => False
theorem v_sum : VCall K (rSumA K) pSum := by
  intro F H xs ds q Q s p t h
  match ds, p, t with
  | [.list es], .cons (@Rp.lst _ _ a vs _ h1 h2) .nil, ⟨ns, e, t⟩ =>
    subst e
    exact ⟨a, ns, rfl, .inl (by rw [← RpAll.ofInts h2]; exact SqL.of (s _ _ h1)), fin_flat s h (.int _) t⟩
  | [.tuple es], .cons (@Rp.tup _ _ a vs _ h1 h2) .nil, ⟨ns, e, t⟩ =>
    subst e
    exact ⟨a, ns, rfl, .inr (by rw [← RpAll.ofInts h2]; exact same_tup s h1), fin_flat s h (.int _) t⟩

/-! ### isinstance -/
def typeD : D → String
  | .none => "NoneType"
  | .bool _ => "bool"
  | .int _ => "int"
  | .str _ => "str"
  | .list _ => "list"
  | .tuple _ => "tuple"
  | .dict _ => "dict"
inductive Ty where
  | int | bool | str | list | tuple
def Ty.name : Ty → String
  | .int => "int"
  | .bool => "bool"
  | .str => "str"
  | .list => "list"
  | .tuple => "tuple"
def isTy : Ty → D → Bool
  | .int, .int _ => true
  | .int, .bool _ => true
  | .bool, .bool _ => true
  | .str, .str _ => true
  | .list, .list _ => true
  | .tuple, .tuple _ => true
  | _, _ => false
theorem kit_pairs : kitB "NoneType" "int" = some false ∧ kitB "bool" "int" = some true ∧ kitB "int" "int" = some true ∧ kitB "str" "int" = some false ∧ kitB "list" "int" = some false ∧ kitB "tuple" "int" = some false ∧ kitB "NoneType" "bool" = some false ∧ kitB "bool" "bool" = some true ∧ kitB "int" "bool" = some false ∧ kitB "str" "bool" = some false ∧ kitB "list" "bool" = some false ∧ kitB "tuple" "bool" = some false ∧ kitB "NoneType" "str" = some false ∧ kitB "bool" "str" = some false ∧ kitB "int" "str" = some false ∧ kitB "str" "str" = some true ∧ kitB "list" "str" = some false ∧ kitB "tuple" "str" = some false ∧ kitB "NoneType" "list" = some false ∧ kitB "bool" "list" = some false ∧ kitB "int" "list" = some false ∧ kitB "str" "list" = some false ∧ kitB "list" "list" = some true ∧ kitB "tuple" "list" = some false ∧ kitB "NoneType" "tuple" = some false ∧ kitB "bool" "tuple" = some false ∧ kitB "int" "tuple" = some false ∧ kitB "str" "tuple" = some false ∧ kitB "list" "tuple" = some false ∧ kitB "tuple" "tuple" = some true := by
  refine ⟨?_, ?_, ?_, ?_, ?_, ?_, ?_, ?_, ?_, ?_, ?_, ?_, ?_, ?_, ?_, ?_, ?_, ?_, ?_, ?_, ?_, ?_, ?_, ?_, ?_, ?_, ?_, ?_, ?_, ?_⟩ <;> decide +kernel
theorem kitB_ty (T : Ty) (d : D) (h : ∀ x, d ≠ .dict x) : kitB (typeD d) T.name = some (isTy T d) := by
  obtain ⟨k0, k1, k2, k3, k4, k5, k6, k7, k8, k9, k10, k11, k12, k13, k14, k15, k16, k17, k18, k19, k20, k21, k22, k23, k24, k25, k26, k27, k28, k29⟩ := kit_pairs
  cases T <;> cases d <;> first | exact absurd rfl (h _) | exact k0 | exact k1 | exact k2 | exact k3 | exact k4 | exact k5 | exact k6 | exact k7 | exact k8 | exact k9 | exact k10 | exact k11 | exact k12 | exact k13 | exact k14 | exact k15 | exact k16 | exact k17 | exact k18 | exact k19 | exact k20 | exact k21 | exact k22 | exact k23 | exact k24 | exact k25 | exact k26 | exact k27 | exact k28 | exact k29
theorem tyx_of {F H : Hp} {v : V} {d : D} (s : Same F H) (p : Rp K F v d) (h : ∀ x, d ≠ .dict x) : TyX K H v (.type (typeD d)) := by
  cases p with
  | non => exact .base .non
  | bl b => exact .base (.bl b)
  | int i => exact .base (.int i)
  | str z => exact .base (.str z)
  | lst h1 h2 => exact .base (.lst (s _ _ h1))
  | tup h1 h2 =>
    rcases h1 with (h1 | ⟨o, h1⟩) | ⟨o, its, n, e1, e2, _⟩
    · exact .base (.tup (s _ _ h1))
    · exact .fTuple (s _ _ h1)
    · exact .kTuple e1 e2
  | scr _ _ => exact absurd rfl (h _)
  | dic _ _ => exact absurd rfl (h _)
  | exc _ _ => exact absurd rfl (h _)
def notDict : D → Bool
  | .dict _ => false
  | _ => true
theorem notDict_ne {d : D} (h : notDict d = true) : ∀ x, d ≠ .dict x := fun x e => by subst e; cases h
def eIsi (T : Ty) (te : DTE) : DTE := fun r q => te r fun d r1 => notDict d = true ∧ q (.bool (isTy T d)) r1
theorem d_isi (T : Ty) {x : Str} {e : Expr} {te : DTE} {p p2 pos : Pos} (he : DE X e te) (hg : Gl X "isinstance") (hm : X.mg "isinstance" = none) (hb : bootBuiltins "isinstance" = some (.builtin "isinstance"))
    (hg2 : Gl X x) (hm2 : X.mg x = none) (hb2 : bootBuiltins x = some (.type T.name)) (hn : x ≠ "__name__") (hdb : (x == ("__debug__" : Str)) = false)
    (hst : starEach [e, .Name x p2] X.env = (false, eval e X.env) :: starEach [.Name x p2] X.env := by rfl) (hst2 : starEach [.Name x p2] X.env = (false, eval (.Name x p2) X.env) :: starEach [] X.env := by rfl) (hpl : (backTo pos (starEach [.Name x p2] X.env)).any (·.1) = false := by rfl) :
    DE X (.Call (.Name "isinstance" p) [e, .Name x p2] [] pos) (eIsi T te) := by
  refine ⟨fun W => pe_weak (pe_callB call_isi hg hm hb (pa_cons (he.run W) (pa_cons (pe_bltn (v := .ty T.name) hg2 hm2 hb2 rfl hn hdb) pa_nil hst2) hst) (by decide) (by decide) hst hpl) fun σ H Q h => ?_⟩
  obtain ⟨r, F, q, R, t, w⟩ := h
  refine ⟨r, F, _, R, t, fun d r1 v F1 H1 t1 R1 s1 p1 => ?_⟩
  exact ⟨v, .ty T.name, .type (typeD d), .type T.name, _, rfl, .ty _, tyx_of R1.sub p1 (notDict_ne t1.1), kit_ty (kitB_ty T d (notDict_ne t1.1)), w _ r1 _ F1 H1 t1.2 R1 s1 (.bl _)⟩

/-! ## lists changed in their slots -/
def VMut (r : V → List V → Hp → VK → Prop) (p : List D → List D → (D → List D → Prop) → Prop) : Prop :=
  ∀ (K : PySem.W.Frag) F H a vs ds xs es (q : D → List D → Prop) Q, Same F H → H a = some (.lst vs) → F a = none → RpAll K F vs ds → RpAll K F xs es → p ds es q →
    (∀ d ds' v vs', q d ds' → RpAll K F vs' ds' → Rp K F v d → Q v (upd H a (.lst vs'))) → r (.ref a) xs H Q
def eMut (i : Nat) (p : List D → List D → (D → List D → Prop) → Prop) (ta : DTA) : DTE := fun r q => mutAt r i = true ∧ ta r fun es r1 => match dat r1 i with
  | some (.own (.lst ds)) => p ds es fun d ds' => q d (dput r1 i (some (.own (.lst ds'))))
  | some (.io (.lst ds)) => p ds es fun d ds' => q d (dput r1 i (some (.io (.lst ds'))))
  | _ => False
def lstAt (r : DSt) (i : Nat) : Bool := match dat r i with
  | some (.own (.lst _)) => true
  | some (.io (.lst _)) => true
  | _ => false
def eMutL (i : Nat) (p : List D → List D → (D → List D → Prop) → Prop) (ta : DTA) : DTE := fun r q => lstAt r i = true ∧ eMut i p ta r q
theorem d_mut (i : Nat) {x name : Str} {id : String} {e : Expr} {es : List Expr} {rr : V → List V → Hp → VK → Prop} {pp : List D → List D → (D → List D → Prop) → Prop} {ta : DTA} {p apos cpos : Pos} (slot : Slot "list" name id) (hty : typeOf (.builtin id) = pure (.type "method_descriptor")) (hm : MtR X id rr) (hv : VMut rr pp) (ha : DA X (e :: es) ta)
    (hN : X.N[i]? = some x := by rfl) (hvis : Vis X.env.scope x := by first | exact Or.inl rfl | exact Or.inr (Or.inl rfl) | exact Or.inr (Or.inr rfl)) (hd : (x == ("__debug__" : Str)) = false := by decide) (hcd : (x == ("__classdict__" : Str)) = false := by decide)
    (hpe : ∀ (W : Wd), PE X (.Call (.Attribute (.Name x p) name apos) (e :: es) [] cpos) (tBM X.K "list" rr (tVar i) (liftA X.K W ta))) :
    DE X (.Call (.Attribute (.Name x p) name apos) (e :: es) [] cpos) (eMutL i pp ta) := by
  refine ⟨fun W => pe_weak (hpe W) fun σ H Q h => ?_⟩
  obtain ⟨r, F, q, R, ⟨hl, hm1, t⟩, w⟩ := h
  obtain ⟨m, io, a, e0, e1⟩ := mutAt_get R hm1
  have ty : tyV X.K "list" (.ref a) H := by
    unfold lstAt at hl
    split at hl
    · rename_i ds z
      obtain ⟨a', vs, k1, k2, _⟩ := slot_list R (.inl z)
      rw [e1] at k1; cases k1
      exact .inl ⟨rfl, vs, SqL.of k2⟩
    · rename_i ds z
      obtain ⟨a', vs, k1, k2, _⟩ := slot_list R (.inr z)
      rw [e1] at k1; cases k1
      exact .inl ⟨rfl, vs, SqL.of k2⟩
    · cases hl
  refine ⟨_, e1, ty, r, F, _, R, t, fun es' r1 vs F1 H1 t1 R1 s1 p1 => ?_⟩
  have go : ∀ {io : Bool} {ds : List D}, dat r1 i = some (isMut (.lst ds) io) → (pp ds es' fun d ds' => q d (dput r1 i (some (isMut (.lst ds') io)))) → rr (.ref a) vs H1 Q := fun {io ds} z t2 => by
    obtain ⟨a', o, k1, k2, ⟨ws, rfl, k3⟩, k4, k5⟩ := R1.mut z
    rw [e1] at k1; cases k1
    exact hv X.K F1 H1 a ws ds vs es' _ Q R1.sub k2 k4 k3 p1 t2 fun d ds' v vs' qd pa pv => w d _ v F1 _ qd (k5 (.lst vs') (.lst ds') ⟨vs', rfl, pa⟩) s1 pv
  split at t1
  · rename_i ds z; exact go (io := false) z t1
  · rename_i ds z; exact go (io := true) z t1
  · exact t1.elim
def pApp (ds es : List D) (q : D → List D → Prop) : Prop := match es with
  | [d] => ds.length < sizeLine ∧ q .none (ds ++ [d])
  | _ => False
theorem vm_app : VMut rAppend pApp := by
  intro K F H a vs ds xs es q Q s ha fa p1 p2 t h
  match es, p2, t with
  | [d], .cons k1 .nil, t => exact ⟨a, vs, _, rfl, rfl, ha, by rw [p1.length]; exact t.1, h _ _ _ _ t.2 (p1.append (.cons k1 .nil)) .non⟩
def pExt (ds es : List D) (q : D → List D → Prop) : Prop := match es with
  | [.list xs] => ds.length + xs.length ≤ sizeLine ∧ q .none (ds ++ xs)
  | _ => False
theorem vm_ext : VMut rExtend pExt := by
  intro K F H a vs ds xs es q Q s ha fa p1 p2 t h
  match es, p2, t with
  | [.list xs], .cons (@Rp.lst _ _ b ws _ k1 k2) .nil, t => exact ⟨a, b, vs, ws, rfl, rfl, ha, s _ _ k1, by rw [p1.length, k2.length]; exact t.1, h _ _ _ _ t.2 (p1.append k2) .non⟩
theorem d_append (i : Nat) {x : Str} {e : Expr} {ta : DTA} {p apos cpos : Pos} (ha : DA X [e] ta) (hN : X.N[i]? = some x := by rfl) (hvis : Vis X.env.scope x := by first | exact Or.inl rfl | exact Or.inr (Or.inl rfl) | exact Or.inr (Or.inr rfl)) (hd : (x == ("__debug__" : Str)) = false := by decide) (hcd : (x == ("__classdict__" : Str)) = false := by decide)
    (hbase : attributeBase (.Name x p) "append" X.env (eval (.Name x p) X.env) = eval (.Name x p) X.env := by rfl) (hline : (apos.endLine == cpos.line) = true := by rfl)
    (hfew : ((backTo cpos (starEach [e] X.env)).all (fun x => !x.1) && (backToKw cpos (keywordEach [] X.env)).all (fun x => x.1.isSome) && decide ([e].length + ([] : List Keyword).length + (if ([] : List Keyword).isEmpty then 0 else 1) < 30)) = true := by rfl)
    (hst : starEach [e] X.env = (false, eval e X.env) :: starEach [] X.env := by rfl) (hpl : (backTo cpos (starEach [] X.env)).any (·.1) = false := by rfl) :
    DE X (.Call (.Attribute (.Name x p) "append" apos) [e] [] cpos) (eMutL i pApp ta) :=
  d_mut i PySem.F.slot_list_append PySem.F.type_list_append mt_append vm_app ha hN hvis hd hcd fun W => pe_bm PySem.F.plainAttrs_list PySem.F.slot_list_append PySem.F.type_list_append mt_append (pe_var hN hvis hd hcd) (ha.run W) hbase hfew hline hst hpl
theorem d_extend (i : Nat) {x : Str} {e : Expr} {ta : DTA} {p apos cpos : Pos} (ha : DA X [e] ta) (hN : X.N[i]? = some x := by rfl) (hvis : Vis X.env.scope x := by first | exact Or.inl rfl | exact Or.inr (Or.inl rfl) | exact Or.inr (Or.inr rfl)) (hd : (x == ("__debug__" : Str)) = false := by decide) (hcd : (x == ("__classdict__" : Str)) = false := by decide)
    (hbase : attributeBase (.Name x p) "extend" X.env (eval (.Name x p) X.env) = eval (.Name x p) X.env := by rfl) (hline : (apos.endLine == cpos.line) = true := by rfl)
    (hfew : ((backTo cpos (starEach [e] X.env)).all (fun x => !x.1) && (backToKw cpos (keywordEach [] X.env)).all (fun x => x.1.isSome) && decide ([e].length + ([] : List Keyword).length + (if ([] : List Keyword).isEmpty then 0 else 1) < 30)) = true := by rfl)
    (hst : starEach [e] X.env = (false, eval e X.env) :: starEach [] X.env := by rfl) (hpl : (backTo cpos (starEach [] X.env)).any (·.1) = false := by rfl) :
    DE X (.Call (.Attribute (.Name x p) "extend" apos) [e] [] cpos) (eMutL i pExt ta) :=
  d_mut i PySem.F.slot_list_extend PySem.F.type_list_extend mt_extend vm_ext ha hN hvis hd hcd fun W => pe_bm PySem.F.plainAttrs_list PySem.F.slot_list_extend PySem.F.type_list_extend mt_extend (pe_var hN hvis hd hcd) (ha.run W) hbase hfew hline hst hpl
end
end DL
end

section
set_option Elab.async false
set_option linter.all false
set_option maxRecDepth 100000
namespace DL
open PySem PySem.Spec PyProof.Rows L2

/-! ## a law's end -/
/-- the script, as a law's def gets it -/
def scrD (ns : List Int) : D := .dict [(.none, .list (ns.map PyData.int))]
def spLaw : DSp := fun cs post => ∃ ns : List Int, cs = [.sh (scrD ns)] ∧ ns.length ≤ 63 ∧ (∀ n ∈ ns, Builtin.Int.intBits n ≤ 1048576) ∧ post (.sh (.bool true)) []
theorem start_sp {K : PySem.W.Frag} {H : Hp} {a : Addr} {ns : List Int} (hs : SqL K H a (ns.map V.int)) (hl : ns.length ≤ 63) (hb : ∀ n ∈ ns, Builtin.Int.intBits n ≤ 1048576) :
    liftSp K 1 spLaw [.ref a] H (fun v _ => v = .bl true) fun _ _ _ => False := by
  have rp : Rp K H (.ref a) (scrD ns) := .scr hs (RpAll.ints ns)
  refine ⟨rfl, [.sh (scrD ns)], H, fun c o => c = .sh (.bool true), rfl, fun i m z => ?_, ⟨fun _ _ e => e, fun _ _ e => e, fun _ _ e _ => e, fun _ e => e, fun _ e => .inl e, fun i d e => ?_, fun i m e => ?_, fun i m e => ?_, fun i b e => ?_, fun i j m n b e1 => ?_, rfl⟩, ⟨ns, rfl, hl, hb, rfl⟩, fun c outs v F' H' q _ _ an => ?_⟩
  · match i, z with
    | 0, z => simp at z
    | i + 1, z => simp at z
  · match i, e with
    | 0, e =>
      have e' : some (Cell.sh (scrD ns)) = some (Cell.sh d) := e
      cases e'
      exact ⟨_, rfl, rp⟩
  · match i, e with
    | 0, e => cases e
  · match i, e with
    | 0, e => cases e
  · obtain ⟨⟨m, e⟩, _⟩ := e
    match i, e with
    | 0, e => cases e
  · match i, e1 with
    | 0, e1 => rcases e1 with e1 | e1 <;> cases e1
    | i + 1, e1 => rcases e1 with e1 | e1 <;> cases e1
  · subst q
    cases an
    rfl
theorem law_run {P : Program} {w : World} {K : PySem.W.Frag} {mg mb : Str → Option Value} {k : Nat} {fa a : Addr} {s : Shared} {vals : List Value} {ns : List Int}
    (KX : K.In s.heap) (hns : s.heap.Ns mainGlobals mg) (hb : s.heap.Ns builtinsNs mb) (hbb : ∀ x : Str, x ≠ "__name__" → mb x = bootBuiltins x) (hlim : s.heap.NoLimit) (hgen : s.gens = #[])
    (ha : s.heap.get? a = some { cls := .type "list", data := .seq vals.toArray }) (hi : IntsAre vals ns) (hl : ns.length ≤ sizeLine) (hr : Room k callerA) (hm : mg "law" = some (.ref fa))
    (F : ∀ base : Heap, K.In base → base.Ns mainGlobals mg → Def P w K mg base k "law" 1 spLaw)
    (hsp : ∀ H : Hp, SqL K H a (ns.map V.int) → liftSp K 1 spLaw [.ref a] H (fun v _ => v = .bl true) fun _ _ _ => False) :
    codeAny (model P w) callerA (.call (.ref fa) ⟨[.ref a], []⟩) (fun r s' => r = .ok (.ret (.bool true)) ∧ OldK s.heap s'.heap ∧ s'.os = s.os ∧ AllBare s'.gens) s := by
  have rv := vals_ints hi
  have lenV := hi.length
  -- from a heap in which at most the script is tracked
  have go : ∀ H : Hp, Only H → SqL K H a (ns.map V.int) → HOk P w H s.heap → (∀ b, H b ≠ none → b = a) → (H a ≠ none → K.lookup a = none) →
      codeAny (model P w) callerA (.call (.ref fa) ⟨[.ref a], []⟩) (fun r s' => r = .ok (.ret (.bool true)) ∧ OldK s.heap s'.heap ∧ s'.os = s.os ∧ AllBare s'.gens) s := by
    intro H only sq hok onlyA kA
    have dictFree : ∀ {b : Addr} {o : Obj} {es : Array DictEntry} {ep : Nat}, s.heap.get? b = some o → o.data = .dict es ep → H b = none := fun {b o es ep} e d => by
      cases q : H b with
      | none => rfl
      | some u =>
        obtain rfl := onlyA b (ne_none q)
        rw [ha] at e; cases e
        have d' : Data.seq vals.toArray _ = Data.dict es ep := d
        cases d'
    have nsKeep : ∀ {b : Addr} {m : Str → Option Value}, s.heap.Ns b m → (hidT s.heap H).Ns b m := fun {b m} ⟨o, es, ep, e, d, z⟩ => ⟨o, es, ep, hidT_get e (dictFree e d), d, z⟩
    have inB : K.In (hidT s.heap H) := fun b o e => hidT_get (KX b o e) (by
      cases q : H b with
      | none => rfl
      | some u =>
        obtain rfl := onlyA b (ne_none q)
        rw [kA (ne_none q)] at e; cases e)
    have mod : Mod K mg (hidT s.heap H) := ⟨inB, nsKeep hns, ⟨mb, nsKeep hb, hbb⟩, let ⟨mc, h1, h2⟩ := hlim; ⟨mc, nsKeep h1, h2⟩⟩
    have e0 : Env0 P w K mg (hidT s.heap H) callerA [] s H := ⟨rfl, mod, fun b o e => of_hidT e, Nat.le_of_eq (hidT_size _ _), trivial, fun b hb => absurd (show b ∈ ([] : List Addr) from hb) (by simp), hok, .of_eq hgen⟩
    obtain ⟨f, fd, ps, G, hf, _, bi⟩ := (F _ inB (nsKeep hns)).ex
    rw [hm] at hf
    cases hf
    have hlen := G.len _ _ _ _ (hsp H sq)
    have bd : BindsTo s fd ⟨[.ref a], []⟩ (ps.zip ([.ref a] ++ [])) := bi s [.ref a] KX hlen
    refine codeAny_mono (G.run callerA [] s H ⟨[.ref a], []⟩ [.ref a] [.ref a] _ _ hr rfl e0 bd (.cons rfl .nil) (hsp H sq)) fun r s' out => ?_
    cases r with
    | error e => exact False.elim out
    | ok fl =>
      cases fl with
      | next => exact False.elim out
      | brk => exact False.elim out
      | cont => exact False.elim out
      | ret u =>
        obtain ⟨v, H', os, bare, un, hok', rel, q⟩ := out
        have q' : v = .bl true := q
        subst q'
        obtain rfl : u = Value.bool true := rel
        refine ⟨rfl, OldK.of_keep fun b o e => ?_, os, bare⟩
        cases z : H b with
        | none => exact un.keep b o e z (fun y => absurd (show b ∈ ([] : List Addr) from y) (by simp)) (by simp)
        | some u =>
          rcases only b with y | ⟨ob, xs, y⟩
          · rw [z] at y; cases y
          · have y2 := un.frzs b ob _ y
            obtain ⟨f1, _⟩ := hok b _ y
            obtain ⟨f2, _⟩ := hok' b _ y2
            rw [e] at f1; cases f1
            exact f2
  cases hk : K.lookup a with
  | some o =>
    have e := KX a o hk
    rw [ha] at e
    cases e
    exact go (fun _ => none) (fun _ => .inl rfl) (.inr ⟨_, vals.toArray, _, hk, rfl, rfl, rfl, by rw [List.size_toArray, lenV]; exact hl, by simpa using rv⟩) (fun b u z => by have z' : (none : Option HO) = some u := z; cases z') (fun b z => absurd rfl z) fun z => absurd rfl z
  | none =>
    have at_a : ∀ {b : Addr} {u : HO}, (if b = a then some (HO.frz { cls := .type "list", data := .seq vals.toArray } (.lst (ns.map V.int))) else none) = some u → b = a ∧ u = HO.frz { cls := .type "list", data := .seq vals.toArray } (.lst (ns.map V.int)) := fun {b u} z => by
      by_cases hb : b = a
      · rw [if_pos hb] at z; cases z; exact ⟨hb, rfl⟩
      · rw [if_neg hb] at z; cases z
    refine go (fun b => if b = a then some (.frz { cls := .type "list", data := .seq vals.toArray } (.lst (ns.map V.int))) else none) (fun b => ?_) (.inl (.inr ⟨_, if_pos rfl⟩)) (fun b u z => ?_) (fun b z => ?_) fun _ => hk
    · by_cases hb : b = a
      · exact .inr ⟨_, _, if_pos hb⟩
      · exact .inl (if_neg hb)
    · obtain ⟨rfl, rfl⟩ := at_a z
      exact ⟨ha, by rw [List.length_map]; exact hl, vals, _, rv, ha⟩
    · obtain ⟨u, z⟩ := some_of z
      exact (at_a z).1
/-- THE END: the goal that k_head leaves, from the law's promise over every base -/
theorem law_end {l : PySem.W.OpenLaw} {k : Nat} {q : Program} {loose : List Str} {XP : (Str → Option Value) → Heap → Prop} {YP : World → Heap → Prop} {d : DefRec} {K : Params → PySem.W.Frag}
    (hn : l.most = some 63) (hdf : d.params.defaults = []) (hr : Room k callerA) (hname : d.name = "law")
    (hY : ∀ (w : World) (h : Heap), YP w h → (K w.params).In h)
    (F : ∀ (w : World) (mg : Str → Option Value) (h : Heap), (K w.params).In h → h.Ns mainGlobals mg → ∀ base : Heap, (K w.params).In base → base.Ns mainGlobals mg → Def l.prog w (K w.params) mg base k "law" 1 spLaw) :
    PySem.W.WalkO q loose XP YP l.row.toRowW d [] (fun f vs => PySem.call f vs) := by
  refine Att.attach_callB hn hdf fun w s0 s1 mg mb fa o pm cd doc a vs ns G Y ho hd hcd hmg hobj hints hlen hbits hg => ?_
  rw [hname] at hmg
  exact law_run (hY w _ Y) G.T.g G.T.b G.T.builtins G.T.nolimit hg hobj hints (Nat.le_trans hlen (by decide)) hr hmg (F w mg _ (hY w _ Y) G.T.g) fun H hS => start_sp hS hlen hbits
/-- a def as the head's facts tell it -/
theorem is_mk {K : PySem.W.Frag} {h : Heap} {mg : Str → Option Value} {x : Str} {st : Stmt} {ps : List Str} (X : K.In h) (G : h.Ns mainGlobals mg) {f : Addr} {oc : Value} {od an : Option Addr} {osl : Array (Option Value)} {kV doc pm cdv ct : Value}
    (a : PySem.W.nsIn K mainGlobals x = some (some (.ref f))) (l : K.lookup f = some ⟨oc, od, .func (PySem.W.fnOf x x (defArgs st) (defBody st) (defScope st) .none kV doc pm an cdv ct), osl⟩) (c : PySem.W.codeIn K cdv x = true) (k : PySem.W.keepIn K (.ref f) = true)
    (hb : ∀ (kV doc pm : Value) (an : Option Addr) (cdv ct : Value) (us : List Value), us.length = ps.length → bindArgs (PySem.W.fnOf x x (defArgs st) (defBody st) (defScope st) .none kV doc pm an cdv ct) ⟨us, []⟩ = pure (ps.zip us)) : Is K mg x st ps :=
  ⟨f, _, fun_mk l c k, PySem.W.mg_of X G a, (fun_mk l c k).binds hb⟩
end DL
namespace DL
abbrev kOf {K : PySem.W.Frag} {h : PySem.Heap} (_ : K.In h) : PySem.W.Frag := K
end DL
end

section
set_option Elab.async false
set_option linter.all false
set_option maxRecDepth 100000
namespace DL
open PySem PySem.Spec PyProof.Rows L2

/-! ## what is walked, whatever it is -/
def iAnyV (K : PySem.W.Frag) (tl : TE) : TI := fun σ H R => tl σ H fun x H1 => (∃ a, x = .ref a ∧ (∃ xs, SqL K H1 a xs) ∧ R (Itl K a) H1) ∨ (∃ a, x = .ref a ∧ (∃ xs, SqT K H1 a xs) ∧ R (Itt K a) H1) ∨ ∃ z, x = .str z ∧ R (Its z) H1
def iAny (te : DTE) : DTI := fun r q => te r fun d r1 => match d with
  | .list ds => q ds r1
  | .tuple ds => q ds r1
  | .str z => q (signsD z) r1
  | _ => False
section
variable {X : Cx} {tg : Expr}
theorem pi_any {l : Expr} {tl : TE} (hl : PE X l tl) : PI X tg l (iAnyV X.K tl) := by
  -- each kind by its own rule, over a reading that keeps just this kind
  refine ⟨fun pins s σ H R I h => ?_⟩
  refine thn (hl.run pins s σ H _ I h) fun v s1 ⟨x, H1, I1, r1, q⟩ => ?_
  rcases q with ⟨a, rfl, ⟨xs, hq⟩, q⟩ | ⟨a, rfl, ⟨xs, hq⟩, q⟩ | ⟨z, rfl, q⟩
  · cases r1
    obtain ⟨its, rv, p, hz⟩ := I1.list hq
    refine wpAny_pyIter_list p.isList ⟨s1.heap.objs.size, [s1.heap.objs.size], _, _, H1, rfl, I1.kept (t' := s1.toks) fun b o e => Heap.get?_push_of_some _ e, turn_list a _, ⟨_, Heap.get?_push_size _ rfl, rfl, rfl⟩, fun b hb => ?_, q⟩
    obtain rfl : b = s1.heap.objs.size := by simpa using hb
    exact I1.fpOk (Nat.le_refl _) (I1.hok.fresh (Nat.le_refl _))
  · cases r1
    obtain ⟨its, rv, p, hz⟩ := I1.tuple hq
    refine wpAny_pyIter_tuple (show s1.heap.IsTuple a its.toArray from p) ⟨s1.heap.objs.size, [s1.heap.objs.size], _, _, H1, rfl, I1.kept (t' := s1.toks) fun b o e => Heap.get?_push_of_some _ e, turn_tuple a _, ⟨_, Heap.get?_push_size _ rfl, rfl, rfl⟩, fun b hb => ?_, q⟩
    obtain rfl : b = s1.heap.objs.size := by simpa using hb
    exact I1.fpOk (Nat.le_refl _) (I1.hok.fresh (Nat.le_refl _))
  · obtain ⟨t, rfl⟩ := r1
    cases ha : z.cps.all (· < 128)
    · exact wpAny_pyIter_wide ha (pi_one (tk := s1.toks) I1 _ (turn_str _ z t "str_iterator" (.inr rfl)) ⟨_, Heap.get?_push_size _ rfl, rfl, rfl⟩ q)
    · exact wpAny_pyIter_ascii ha (pi_one (tk := s1.toks) I1 _ (turn_str _ z t "str_ascii_iterator" (.inl rfl)) ⟨_, Heap.get?_push_size _ rfl, rfl, rfl⟩ q)
theorem di_any {l : Expr} {te : DTE} (h : DE X l te) : DI X tg l (iAny te) := by
  refine ⟨fun W => pi_weak (pi_any (h.run W)) fun σ H Q h => ?_⟩
  obtain ⟨r, F, q, R, t, w⟩ := h
  refine ⟨r, F, _, R, t, fun d r' v F' H' a b c p => ?_⟩
  cases p with
  | lst h1 h2 => exact .inl ⟨_, rfl, ⟨_, SqL.of (b.sub _ _ h1)⟩, w _ r' _ F' H' a b c (jok_list (SqL.of h1) h2)⟩
  | tup h1 h2 => exact .inr (.inl ⟨_, rfl, ⟨_, same_tup b.sub h1⟩, w _ r' _ F' H' a b c (jok_tup h1 h2)⟩)
  | str z => exact .inr (.inr ⟨z, rfl, w _ r' _ F' H' a b c (jok_str z)⟩)
  | _ => exact a.elim
/-! ## len of a slot's list -/
def eLenV (i : Nat) : DTE := fun r q => match dat r i with
  | some (.sh d) => lenD d fun n => q (.int (n : Nat)) r
  | some (.own (.lst ds)) => q (.int (ds.length : Nat)) r
  | some (.io (.lst ds)) => q (.int (ds.length : Nat)) r
  | _ => False
theorem d_lenv (i : Nat) {x : Str} {pp p pos : Pos} (hg : Gl X "len") (hm : X.mg "len" = none) (hN : X.N[i]? = some x := by rfl) (hv : Vis X.env.scope x := by first | exact Or.inl rfl | exact Or.inr (Or.inl rfl) | exact Or.inr (Or.inr rfl)) (hd : (x == ("__debug__" : Str)) = false := by decide)
    (hcd : (x == ("__classdict__" : Str)) = false := by decide) (hst : starEach [.Name x p] X.env = (false, eval (.Name x p) X.env) :: starEach [] X.env := by rfl) (hpl : (backTo pos (starEach [] X.env)).any (·.1) = false := by rfl) :
    DE X (.Call (.Name "len" pp) [.Name x p] [] pos) (eLenV i) := by
  refine ⟨fun W => pe_weak (pe_callB call_len hg hm PySem.boot_len (pa_cons (pe_var hN hv hd hcd) pa_nil hst) (by decide) (by decide) hst hpl) fun σ H Q h => ?_⟩
  obtain ⟨r, F, q, R, t, w⟩ := h
  unfold eLenV at t
  split at t
  · rename_i d e
    obtain ⟨v, e1, e2⟩ := R.sh i d e
    exact ⟨v, e1, v_len F H [v] [d] (fun y => q y r) Q R.sub (.cons e2 .nil) t fun y z F' H' qy ex rp => w y r z F' H' qy (R.ext ex) ex.f rp⟩
  · rename_i ds e
    obtain ⟨a, vs, h1, h2, h3, h4⟩ := slot_list R (.inl e)
    refine ⟨_, h1, _, vs.length, rfl, .inl ⟨vs, SqL.of h2, rfl⟩, ?_⟩
    rw [h4.length]
    exact w _ r _ F H t R (Same.refl _) (.int _)
  · rename_i ds e
    obtain ⟨a, vs, h1, h2, h3, h4⟩ := slot_list R (.inr e)
    refine ⟨_, h1, _, vs.length, rfl, .inl ⟨vs, SqL.of h2, rfl⟩, ?_⟩
    rw [h4.length]
    exact w _ r _ F H t R (Same.refl _) (.int _)
  · exact t.elim
/-! ## lists put together, one's own -/
def oCat (ta tb : DTE) : DTO := fun r q => ta r fun x r1 => tb r1 fun y r2 => match x, y with
  | .list a, .list b => a.length + b.length ≤ sizeLine ∧ q (.lst (a ++ b)) r2
  | _, _ => False
def oRep (ta tb : DTE) : DTO := fun r q => ta r fun x r1 => tb r1 fun y r2 => match x, y with
  | .list a, .int k => (-(2 ^ 63) ≤ k ∧ k < 2 ^ 63 ∧ a.length * k.toNat ≤ sizeLine) ∧ q (.lst (List.replicate k.toNat a).flatten) r2
  | _, _ => False
theorem o_cat {a b : Expr} {ta tb : DTE} {pos : Pos} (ha : DE X a ta) (hb : DE X b tb) : DO X (.BinOp a .Add b pos) (oCat ta tb) := by
  refine ⟨fun W => pe_weak (pe_op op_cat (ha.run W) (hb.run W)) fun σ H Q h => ?_⟩
  obtain ⟨r, F, q, R, t, w⟩ := h
  refine ⟨r, F, _, R, t, fun dx r1 v1 F1 H1 t1 R1 s1 p1 => ⟨r1, F1, _, R1, t1, fun dy rr v2 F2 H2 t2 R2' s2 p2 => ?_⟩⟩
  cases p1 with
  | @lst _ vs _ h1 h2 =>
    cases p2 with
    | @lst _ ws _ k1 k2 =>
      refine ⟨_, _, vs, ws, rfl, rfl, R2'.sub _ _ (s2 _ _ h1), R2'.sub _ _ k1, by rw [h2.length, k2.length]; exact t2.1, fun p hp => ?_⟩
      obtain ⟨R4, f4, h4, ap⟩ := rel_newH (o := .lst (vs ++ ws)) R2' hp
      exact w _ rr p _ F2 _ t2.2 R4 (s1.trans s2) upd_same f4 ⟨_, rfl, (h2.up s2).append k2⟩ h4 ap
    | _ => exact t2.elim
  | _ => cases p2 <;> exact t2.elim
theorem o_rep {a b : Expr} {ta tb : DTE} {pos : Pos} (ha : DE X a ta) (hb : DE X b tb) : DO X (.BinOp a .Mult b pos) (oRep ta tb) := by
  refine ⟨fun W => pe_weak (pe_op op_rep (ha.run W) (hb.run W)) fun σ H Q h => ?_⟩
  obtain ⟨r, F, q, R, t, w⟩ := h
  refine ⟨r, F, _, R, t, fun dx r1 v1 F1 H1 t1 R1 s1 p1 => ⟨r1, F1, _, R1, t1, fun dy rr v2 F2 H2 t2 R2' s2 p2 => ?_⟩⟩
  cases p1 with
  | @lst _ vs _ h1 h2 =>
    cases p2 with
    | int k =>
      refine ⟨_, k, vs, rfl, rfl, R2'.sub _ _ (s2 _ _ h1), t2.1.1, t2.1.2.1, by rw [h2.length]; exact t2.1.2.2, fun p hp => ?_⟩
      obtain ⟨R4, f4, h4, ap⟩ := rel_newH (o := .lst (List.replicate k.toNat vs).flatten) R2' hp
      exact w _ rr p _ F2 _ t2.2 R4 (s1.trans s2) upd_same f4 ⟨_, rfl, (h2.up s2).flat k.toNat⟩ h4 ap
    | _ => exact t2.elim
  | _ => cases p2 <;> exact t2.elim
end
end DL
end

section
set_option Elab.async false
set_option linter.all false
set_option maxRecDepth 100000
set_option maxHeartbeats 1000000
namespace DL
open PySem PySem.Spec PyProof.Rows L2

/-! ## what never comes: a raise that no promise reaches -/
def sBad : DTS := fun _ _ => False
section
variable {X : Cx}
theorem ds_bad {st : Stmt} : DS X st sBad := by
  refine ⟨fun W => ⟨fun pins s σ H D I h => ?_⟩⟩
  obtain ⟨r, F, q, R, t, w⟩ := h
  exact t.elim
/-! ## max, min of a list of ints -/
def pMaxA : PN := fun xs q => match xs with
  | [.list ds] => ∃ ns : List Int, ds = ns.map PyData.int ∧ 0 < ns.length ∧ ∀ m, m ∈ ns → (∀ y ∈ ns, y ≤ m) → q (.int m)
  | _ => False
def pMinA : PN := fun xs q => match xs with
  | [.list ds] => ∃ ns : List Int, ds = ns.map PyData.int ∧ 0 < ns.length ∧ ∀ m, m ∈ ns → (∀ y ∈ ns, m ≤ y) → q (.int m)
  | _ => False
theorem v_maxA {K : PySem.W.Frag} : VCall K (rMax K) pMaxA := by
  intro F H xs ds q Q s p t h
  match ds, p, t with
  | [.list es], .cons (@Rp.lst _ _ a vs _ h1 h2) .nil, ⟨ns, e, l, t⟩ =>
    subst e
    exact ⟨a, ns, rfl, by rw [← RpAll.ofInts h2]; exact SqL.of (s _ _ h1), l, fun m hm hy => fin_flat s h (.int _) (t m hm hy)⟩
theorem v_minA {K : PySem.W.Frag} : VCall K (rMin K) pMinA := by
  intro F H xs ds q Q s p t h
  match ds, p, t with
  | [.list es], .cons (@Rp.lst _ _ a vs _ h1 h2) .nil, ⟨ns, e, l, t⟩ =>
    subst e
    exact ⟨a, ns, rfl, by rw [← RpAll.ofInts h2]; exact SqL.of (s _ _ h1), l, fun m hm hy => fin_flat s h (.int _) (t m hm hy)⟩
/-! ## isinstance of two types -/
def eIsi2 (T U : Ty) (te : DTE) : DTE := fun r q => te r fun d r1 => notDict d = true ∧ q (.bool (isTy T d || isTy U d)) r1
theorem d_isi2 (T U : Ty) {x y : Str} {e : Expr} {te : DTE} {p p2 p3 p4 pos : Pos} {kk : Nat} (he : DE X e te) (hg : Gl X "isinstance") (hm : X.mg "isinstance" = none) (hb : bootBuiltins "isinstance" = some (.builtin "isinstance"))
    (hg2 : Gl X x) (hm2 : X.mg x = none) (hb2 : bootBuiltins x = some (.type T.name)) (hn : x ≠ "__name__") (hdb : (x == ("__debug__" : Str)) = false)
    (hg3 : Gl X y) (hm3 : X.mg y = none) (hb3 : bootBuiltins y = some (.type U.name)) (hn3 : y ≠ "__name__") (hdb3 : (y == ("__debug__" : Str)) = false)
    (ht : PA X [.Name x p2, .Name y p3] (tCons (tC (.ty T.name)) (tCons (tC (.ty U.name)) tNil)) → PE X (.Tuple [.Name x p2, .Name y p3] kk p4) (tTup (tCons (tC (.ty T.name)) (tCons (tC (.ty U.name)) tNil))) := by exact fun h => pe_tup h)
    (hst : starEach [e, .Tuple [.Name x p2, .Name y p3] kk p4] X.env = (false, eval e X.env) :: starEach [.Tuple [.Name x p2, .Name y p3] kk p4] X.env := by rfl)
    (hst2 : starEach [.Tuple [.Name x p2, .Name y p3] kk p4] X.env = (false, eval (.Tuple [.Name x p2, .Name y p3] kk p4) X.env) :: starEach [] X.env := by rfl)
    (hpl : (backTo pos (starEach [.Tuple [.Name x p2, .Name y p3] kk p4] X.env)).any (·.1) = false := by rfl) 
    (hs1 : starEach [.Name x p2, .Name y p3] X.env = (false, eval (.Name x p2) X.env) :: starEach [.Name y p3] X.env := by rfl)
    (hs2 : starEach [.Name y p3] X.env = (false, eval (.Name y p3) X.env) :: starEach [] X.env := by rfl) :
    DE X (.Call (.Name "isinstance" p) [e, .Tuple [.Name x p2, .Name y p3] kk p4] [] pos) (eIsi2 T U te) := by
  refine ⟨fun W => pe_weak (pe_callB call_isiT hg hm hb (pa_cons (he.run W) (pa_cons (ht (pa_cons (pe_bltn (v := .ty T.name) hg2 hm2 hb2 rfl hn hdb) (pa_cons (pe_bltn (v := .ty U.name) hg3 hm3 hb3 rfl hn3 hdb3) pa_nil hs2) hs1)) pa_nil hst2) hst) (by decide) (by decide) hst hpl) fun σ H Q h => ?_⟩
  obtain ⟨r, F, q, R, t, w⟩ := h
  refine ⟨r, F, _, R, t, fun d r1 v F1 H1 t1 R1 s1 p1 => ?_⟩
  refine ⟨(by decide : 2 ≤ sizeLine), fun a ha => ?_⟩
  obtain ⟨R4, f4, h4, ap⟩ := rel_newH (o := .tup [.ty T.name, .ty U.name]) R1 ha
  have k1 := kitB_ty T d (notDict_ne t1.1)
  have k2 := kitB_ty U d (notDict_ne t1.1)
  refine ⟨v, a, _, .type (typeD d), [.type T.name, .type U.name], _, rfl, upd_same, .cons (.ty _) (.cons (.ty _) .nil), tyx_of R4.sub p1 (notDict_ne t1.1), ?_, w _ r1 _ F1 _ t1.2 R4 s1 (.bl _)⟩
  show (match PySem.W.kitOne X.K (.type (typeD d)) (.type T.name) with
    | some true => some true
    | some false => (match PySem.W.kitOne X.K (.type (typeD d)) (.type U.name) with
      | some true => some true
      | some false => some false
      | none => none)
    | none => none) = some (isTy T d || isTy U d)
  rw [kit_ty k1, kit_ty k2]
  cases isTy T d <;> cases isTy U d <;> rfl
/-! ## list(range(..)) -/
theorem rgV_rp {K : PySem.W.Frag} {F : Hp} (a b : Int) : RpAll K F (rgV a b) (rngD a (b - a).toNat) := by
  unfold rgV rngD
  generalize List.range (b - a).toNat = l
  induction l with
  | nil => exact .nil
  | cons i l ih => exact .cons (.int _) ih
def oRg1 (ta : DTE) : DTO := fun r q => ta r fun d r1 => match d with
  | .int n => RgOk 0 n ∧ q (.lst (rngD 0 n.toNat)) r1
  | _ => False
theorem o_rg1 {e : Expr} {ta : DTE} {p pos p2 pos2 : Pos} (he : DE X e ta) (hc : X.calm = true) (hg : Gl X "list") (hm : X.mg "list" = none) (hg2 : Gl X "range") (hm2 : X.mg "range" = none)
    (na : starEach [.Call (.Name "range" p2) [e] [] pos2] X.env = (false, eval (.Call (.Name "range" p2) [e] [] pos2) X.env) :: starEach [] X.env := by rfl)
    (nb : starEach [e] X.env = (false, eval e X.env) :: starEach [] X.env := by rfl) : DO X (.Call (.Name "list" p) [.Call (.Name "range" p2) [e] [] pos2] [] pos) (oRg1 ta) := by
  refine ⟨fun W => pe_weak (pe_listRg hc hg hm (prg_1 hg2 hm2 (he.run W) nb) na) fun σ H Q h => ?_⟩
  obtain ⟨r, F, q, R, t, w⟩ := h
  refine ⟨r, F, _, R, t, fun d r1 v F1 H1 t1 R1 s1 p1 => ?_⟩
  cases p1 with
  | int n =>
    refine ⟨n, rfl, t1.1, fun l hl => ?_⟩
    obtain ⟨R4, f4, h4, ap⟩ := rel_newH (o := .lst (rgV 0 n)) R1 hl
    refine w _ r1 l _ F1 _ t1.2 R4 s1 upd_same f4 ⟨_, rfl, ?_⟩ h4 ap
    have := rgV_rp (K := X.K) (F := F1) 0 n
    rw [Int.sub_zero] at this
    exact this
  | _ => exact t1.elim
/-! ## a method of a list or a text that changes nothing -/
def VMeth (K : PySem.W.Frag) (rr : V → List V → Hp → VK → Prop) (pp : D → List D → (D → Prop) → Prop) : Prop :=
  ∀ F H x xs dx ds q Q, Same F H → Rp K F x dx → RpAll K F xs ds → pp dx ds q → Fin2 K F H q Q → rr x xs H Q
def eMeth (T : Ty) (pp : D → List D → (D → Prop) → Prop) (te : DTE) (ta : DTA) : DTE := fun r q => te r fun d r1 => isTy T d = true ∧ ta r1 fun ds r2 => pp d ds fun e => q e r2
theorem tyv_list {K : PySem.W.Frag} {F H : Hp} {v : V} {d : D} (s : Same F H) (p : Rp K F v d) (h : isTy .list d = true) : tyV K "list" v H := by
  cases p with
  | lst h1 h2 => exact .inl ⟨rfl, _, SqL.of (s _ _ h1)⟩
  | _ => cases h
theorem tyv_str {K : PySem.W.Frag} {F H : Hp} {v : V} {d : D} (s : Same F H) (p : Rp K F v d) (h : isTy .str d = true) : tyV K "str" v H := by
  cases p with
  | str z => rfl
  | _ => cases h
theorem d_meth {T : Ty} {o e : Expr} {es : List Expr} {name : Str} {id : String} {rr : V → List V → Hp → VK → Prop} {pp : D → List D → (D → Prop) → Prop} {te : DTE} {ta : DTA} {apos cpos : Pos}
    (pa : PlainAttrs T.name) (slot : Slot T.name name id) (hty : typeOf (.builtin id) = pure (.type "method_descriptor")) (hm : MtR X id rr) (hv : VMeth X.K rr pp)
    (tv : ∀ {F H : Hp} {v : V} {d : D}, Same F H → Rp X.K F v d → isTy T d = true → tyV X.K T.name v H) (ho : DE X o te) (ha : DA X (e :: es) ta)
    (hbase : attributeBase o name X.env (eval o X.env) = eval o X.env := by rfl)
    (hfew : ((backTo cpos (starEach (e :: es) X.env)).all (fun x => !x.1) && (backToKw cpos (keywordEach [] X.env)).all (fun x => x.1.isSome)
      && decide ((e :: es).length + ([] : List Keyword).length + (if ([] : List Keyword).isEmpty then 0 else 1) < 30)) = true := by rfl)
    (hline : (apos.endLine == cpos.line) = true := by rfl) (hs : starEach (e :: es) X.env = (false, eval e X.env) :: starEach es X.env := by rfl) (hplain : (backTo cpos (starEach es X.env)).any (·.1) = false := by rfl) :
    DE X (.Call (.Attribute o name apos) (e :: es) [] cpos) (eMeth T pp te ta) := by
  refine ⟨fun W => pe_weak (pe_bm pa slot hty hm (ho.run W) (ha.run W) hbase hfew hline hs hplain) fun σ H Q h => ?_⟩
  obtain ⟨r, F, q, R, t, w⟩ := h
  refine ⟨r, F, _, R, t, fun d r1 v F1 H1 t1 R1 s1 p1 => ⟨tv R1.sub p1 t1.1, r1, F1, _, R1, t1.2, fun ds r2 vs F2 H2 t2 R2' s2 p2 => ?_⟩⟩
  exact hv F2 H2 v vs d ds _ _ R2'.sub (p1.up s2) p2 t2 fun d' v' F3 H3 qd ex rp => w d' r2 v' F3 H3 qd (R2'.ext ex) ((s1.trans s2).trans ex.f) rp
/-- l.index(x), ints: the first place -/
def pIdx (x : D) (es : List D) (q : D → Prop) : Prop := match x, es with
  | .list ds, [.int i] => ∃ ns : List Int, ds = ns.map PyData.int ∧ i ∈ ns ∧ q (.int (ns.idxOf i : Nat))
  | _, _ => False
theorem flat_ints (ns : List Int) : (ns.map V.int).all flatV = true := by
  induction ns with
  | nil => rfl
  | cons n ns ih => simpa [flatV] using ih
theorem vm_idx {K : PySem.W.Frag} : VMeth K (rIndex K) pIdx := by
  intro F H x xs dx ds q Q s px ps t h
  match dx, ds, px, ps, t with
  | .list es, [.int i], .lst h1 h2, .cons (.int _) .nil, ⟨ns, e, m, t⟩ =>
    subst e
    have hl : ns.idxOf i < ns.length := List.idxOf_lt_length_iff.2 m
    refine ⟨_, ns.map V.int, .int i, ns.idxOf i, .int i, rfl, rfl, by rw [← RpAll.ofInts h2]; exact SqL.of (s _ _ h1), rfl, flat_ints ns, ?_, ?_, fun k z hk hz => ?_, fin_flat s h (.int _) t⟩
    · rw [List.getElem?_map, List.getElem?_eq_getElem hl, List.getElem_idxOf hl]; rfl
    · show decide (i = i) = true
      simp
    · rw [List.getElem?_map] at hz
      have hk2 : k < ns.length := by omega
      rw [List.getElem?_eq_getElem hk2] at hz
      cases hz
      show decide (ns[k] = i) = false
      have := List.not_of_lt_findIdx (p := fun x => x == i) (xs := ns) (i := k) hk
      simpa using this
theorem d_index {o e : Expr} {te : DTE} {ta : DTA} {apos cpos : Pos} (ho : DE X o te) (ha : DA X [e] ta)
    (hbase : attributeBase o "index" X.env (eval o X.env) = eval o X.env := by rfl)
    (hfew : ((backTo cpos (starEach [e] X.env)).all (fun x => !x.1) && (backToKw cpos (keywordEach [] X.env)).all (fun x => x.1.isSome)
      && decide ([e].length + ([] : List Keyword).length + (if ([] : List Keyword).isEmpty then 0 else 1) < 30)) = true := by rfl)
    (hline : (apos.endLine == cpos.line) = true := by rfl) (hs : starEach [e] X.env = (false, eval e X.env) :: starEach [] X.env := by rfl) (hplain : (backTo cpos (starEach [] X.env)).any (·.1) = false := by rfl) :
    DE X (.Call (.Attribute o "index" apos) [e] [] cpos) (eMeth .list pIdx te ta) :=
  d_meth (T := .list) PySem.F.plainAttrs_list PySem.F.slot_list_index PySem.F.type_list_index mt_index vm_idx tyv_list ho ha hbase hfew hline hs hplain
end
end DL
end

section
set_option Elab.async false
set_option linter.all false
set_option maxRecDepth 100000
set_option maxHeartbeats 1000000
namespace DL
open PySem PySem.Spec PyProof.Rows L2
open Sem (wp)

/-! ## enumerate of a tuple -/
theorem new_enumB {v : Value} {o : Obj} {G : Heap → Prop} (B : Begins v o G) : Meets (Builtin.«enumerate.__new__» ⟨[.type "enumerate", v], []⟩) (fun _ R s => G s.heap ∧
    R (.ok (.ret (.ref (s.heap.push o).objs.size))) { s with heap := (s.heap.push o).push { cls := .type "enumerate", data := .fields #[.none, .bool false, .ref s.heap.objs.size, rawInt 0, .none, .none] } }) :=
  .of_wp fun prog w A R s h => by
    obtain ⟨hp, g, dd, tk, os⟩ := s
    obtain ⟨hl, h⟩ := h
    have kk := sub_enumerate
    have itr : ∀ {A' : Around} {E' : Value → Shared → Prop} {Q' : Value → Shared → Prop}, Q' (.ref hp.objs.size) ⟨hp.push o, g, dd, tk, os⟩ → wpAny (model prog w) A' (pyIter v) Q' E' ⟨hp, g, dd, tk, os⟩ := fun q => B.iter prog w _ _ ⟨hp, g, dd, tk, os⟩ _ hl q
    wp_walk using itr
    refine wpAny_stack_any (fun stk => wpAny_pure ?_); split
    · rename_i c _ _ _ _ _
      cases (c == Value.type "enumerate") <;> (wp_walk using itr; exact ⟨_, rfl, h⟩)
    · wp_walk using itr; exact ⟨_, rfl, h⟩
theorem call_enumB {prog : Program} {w : World} {A : Around} {E : Value → Shared → Prop} {s : Shared} {v : Value} {o : Obj} {G : Heap → Prop} {Q : Value → Shared → Prop} (B : Begins v o G) (h1 : G s.heap)
    (h : ∀ h', IsEnum h' (s.heap.objs.size + 1) s.heap.objs.size 0 .none → h'.get? s.heap.objs.size = some o → h'.objs.size = s.heap.objs.size + 2 → (∀ b u, s.heap.get? b = some u → h'.get? b = some u) → Q (.ref (s.heap.objs.size + 1)) { s with heap := h' }) :
    wpAny (model prog w) A (call (.type "enumerate") [v]) Q E s := by
  refine callType_new PySem.F.called_enumerate (by decide) (PySem.F.typeCall_enumerate_1 _) (PySem.F.newCall_enumerate_1 _) (fun ob => PySem.F.args_object_init_2 ob _) PySem.F.entry_enumerate_new (new_enumB B) ⟨h1, ?_⟩
  have hz : (s.heap.push o).objs.size = s.heap.objs.size + 1 := Heap.size_push .. 
  show _ ∧ _; rw [hz]
  have he := Heap.get?_push_size (s.heap.push o) (o := { cls := .type "enumerate", data := .fields #[.none, .bool false, .ref s.heap.objs.size, rawInt 0, .none, .none] }) rfl
  rw [hz] at he
  exact ⟨⟨_, he, rfl⟩, h _ he (Heap.get?_push_of_some _ (Heap.get?_push_size _ B.free)) (by rw [Heap.size_push, hz]) fun b u x => Heap.get?_push_of_some _ (Heap.get?_push_of_some _ x)⟩
/-- the tuple at a as it stands at each turn, each item in a new pair -/
def IteT (K : PySem.W.Frag) (a : Addr) : It :=
  ⟨fun i H => ∃ (vs : List V) (x : V), SqT K H a vs ∧ vs[i]? = some x, fun i H v H' => ∃ T x, v = .ref T ∧ H T = none ∧ H' = upd H T (.tup [.int (i : Nat), x]) ∧ ∀ vs, SqT K H a vs → vs[i]? = some x, fun i H => ∃ vs : List V, SqT K H a vs ∧ vs.length ≤ i⟩
theorem turn_enumT {P : Program} {w : World} {K : PySem.W.Frag} {elts : List Expr} {kk : Nat} {tpos : Pos} (a e it : Addr) :
    Turn P w K (.Tuple elts kk tpos) (IteT K a) [e, it] e (fun i h => (∃ old, IsEnum h e it ((i : Nat) : Int) old) ∧ h.IsTupleIter it a i ∧ e ≠ it ∧ e ≠ a ∧ a ≠ it) where
  mem := by simp
  obj := fun i h st b hb => by
    obtain ⟨⟨old, he⟩, ⟨o, ho, hc, hd⟩, _⟩ := st
    rcases (by simpa using hb : b = e ∨ b = it) with z | z
    · rw [z]; exact ⟨_, he, fun v q => nomatch q⟩
    · rw [z]; exact ⟨o, ho, fun v q => by rw [hd] at q; cases q⟩
  keep := fun i h h' st k => let ⟨⟨old, he⟩, hi, hr⟩ := st; ⟨⟨old, k e (by simp) _ he⟩, hi.at fun o q => k it (by simp) o q, hr⟩
  item := by
    intro X hP hw hK hc i pins s σ H E I hf st hg
    subst hP hw hK
    obtain ⟨⟨old, he⟩, hit, hne, hea, hai⟩ := st
    obtain ⟨vs, x, hq, hx⟩ := hg
    obtain ⟨its, rv, p, hz⟩ := I.tuple hq
    obtain ⟨u, hu, ru⟩ := rv.get hx
    have hel : e < s.heap.objs.size := Heap.lt_size he
    have hil : it < s.heap.objs.size := by obtain ⟨_, q, _⟩ := hit; exact Heap.lt_size q
    have hlt : i < its.toArray.size := by have := (List.getElem?_eq_some_iff.1 hu).1; simpa using this
    refine wpAny_pyNext_enum_itemD (Draws.tuple (A := X.A.in1) (show X.A.in1.handled = none from I.ok.hd hc) it a hai its.toArray) he ⟨hit, p⟩ hlt hne (by simp [hne, hea]) fun y h' tk hy ho hst hT hsz hk => ?_
    have hy' : its[i]? = some y := by simpa using hy
    rw [hu] at hy'
    cases hy'
    refine ⟨_, rfl, wpAny_letOwnedTupleGo_enum (s := { s with heap := h', toks := tk + 1 }) ho fun h2 he' sb => ?_⟩
    have hT2 : h2.get? s.heap.objs.size = some { cls := .type "tuple", data := .seq #[.int i tk, u] } := (sb.2 _ (Nat.ne_of_gt hel)).trans hT
    have new : ObjOk X.prog X.w (upd H s.heap.objs.size (.tup [.int (i : Nat), x])) h2 s.heap.objs.size (.tup [.int (i : Nat), x]) := ⟨(by decide : 2 ≤ sizeLine), [.int i tk, u], .cons ⟨_, rfl⟩ (.cons ru .nil), ⟨_, hT2, rfl, _, rfl⟩⟩
    have I1 : Inv X pins σ (upd H s.heap.objs.size (.tup [.int (i : Nat), x])) { s with heap := h2, toks := tk + 1 } :=
      I.turnedNew (ch := [e, it]) (fun b ob hb q => (sb.2 b (fun z => hb (by simp [z]))).trans (hk b ob (fun z => hb (by simp [z])) (fun z => hb (by simp [z])) q)) hf (Nat.le_refl _) new
    refine ⟨.ref s.heap.objs.size, _, I1, rfl, ⟨_, x, rfl, I.hok.fresh (Nat.le_refl _), rfl, fun ys hy => by rw [I.tuple_inj hy hq]; exact hx⟩, ⟨⟨u, ?_⟩, hst.1.at fun o q => (sb.2 it (Ne.symm hne)).trans q, hne, hea, hai⟩, fun b hb => ?_⟩
    · rw [show ((i + 1 : Nat) : Int) = (i : Int) + 1 by omega]; exact he'
    · have hb' : b < s.heap.objs.size := by
        rcases (by simpa using hb : b = e ∨ b = it) with z | z
        · rw [z]; exact hel
        · rw [z]; exact hil
      rw [upd_ne (Nat.ne_of_lt hb')]; exact (hf b hb).1
  done := by
    intro X hP hw hK hc i pins s σ H E I hf st hg
    subst hP hw hK
    obtain ⟨⟨old, he⟩, hit, hne, hea, hai⟩ := st
    obtain ⟨vs, hq, hx⟩ := hg
    obtain ⟨its, rv, p, hz⟩ := I.tuple hq
    obtain ⟨f0, f1, f2, f3, f4, f5⟩ := hf it (by simp)
    have hl := rv.length
    have D : Draws X.prog X.w X.A.in1 it [it, a] i (fun _ _ => True) (fun j h => j = i ∧ h.IsTupleIter it a i ∧ h.IsTuple a its.toArray) := {
      live := fun _ _ st => let ⟨o, ho, _⟩ := st.2.1; ⟨o, ho⟩
      frame := fun _ _ _ st hk => ⟨st.1, st.2.1.at fun o e => hk it (by simp) o e, st.2.2.at fun o e => hk a (by simp) o e⟩
      item := fun j s Q E hj st _ => absurd st.1 (Nat.ne_of_lt hj)
      done := fun s Q E st hE => wpAny_nextOf_tuple_end (show X.A.in1.handled = none from I.ok.hd hc) st.2.1 st.2.2 (by simp; omega) hE }
    exact wpAny_pyNext_enum_endD D he ⟨rfl, hit, p⟩ fun h' eb => ⟨rfl, I.turned (t' := s.toks) (fun b o hb q => eb b o hb q) f0 f1 f3 f4 f5⟩
  self := fun A i s Q E st h => let ⟨⟨_, he⟩, _⟩ := st; wpAny_pyIter_enum he h
def iEnumA (K : PySem.W.Frag) (ta : TA) : TI := fun σ H R => ta σ H fun vs H1 => ∃ a xs, vs = [.ref a] ∧ ((SqL K H1 a xs ∧ R (Ite K a) H1) ∨ (SqT K H1 a xs ∧ R (IteT K a) H1))
theorem pi_enumA {X : Cx} {e : Expr} {ta : TA} {p pos tpos : Pos} {elts : List Expr} {kk : Nat} (hg : Gl X "enumerate") (hm : X.mg "enumerate" = none) (ha : PA X [e] ta) (hs : starEach [e] X.env = [(false, eval e X.env)] := by rfl) :
    PI X (.Tuple elts kk tpos) (.Call (.Name "enumerate" p) [e] [] pos) (iEnumA X.K ta) := by
  refine ⟨fun pins s σ H R I h => ?_⟩
  refine Call_ (ld_blt I hg hm boot_enumerate (PyProof.Rows.callWith_type1 (thn (ha.run pos pins s σ H _ I h) fun us s1 ⟨vs, H1, I1, r1, a, xs, ex, q⟩ => ?_) hs rfl))
  subst ex
  cases r1 with
  | cons r rr =>
    cases rr
    cases r
    have two : ∀ b, b ∈ [s1.heap.objs.size + 1, s1.heap.objs.size] → FpOk X pins H1 b := fun b hb => by
      have hle : s1.heap.objs.size ≤ b := by
        rcases (by simpa using hb : b = s1.heap.objs.size + 1 ∨ b = s1.heap.objs.size) with z | z <;> omega
      exact I1.fpOk hle (I1.hok.fresh hle)
    rcases q with ⟨hq, q⟩ | ⟨hq, q⟩
    · obtain ⟨its, rv, p', hz⟩ := I1.list hq
      refine call_enumerate_list p'.isList fun h' he hit hsz hk => wpAny_pyIter_enum he ?_
      have I2 : Inv X pins σ H1 { s1 with heap := h' } := I1.kept (t' := s1.toks) hk
      exact ⟨s1.heap.objs.size + 1, _, _, _, H1, rfl, I2, turn_enum a (s1.heap.objs.size + 1) s1.heap.objs.size, ⟨⟨.none, he⟩, hit, Nat.succ_ne_self _⟩, two, q⟩
    · obtain ⟨its, rv, p', hz⟩ := I1.tuple hq
      obtain ⟨o, ho, _⟩ := id p'
      have hal : a < s1.heap.objs.size := Heap.lt_size ho
      refine call_enumB (begins_tuple a its.toArray) p' fun h' he hit hsz hk => wpAny_pyIter_enum he ?_
      have I2 : Inv X pins σ H1 { s1 with heap := h' } := I1.kept (t' := s1.toks) hk
      exact ⟨s1.heap.objs.size + 1, _, _, _, H1, rfl, I2, turn_enumT a (s1.heap.objs.size + 1) s1.heap.objs.size, ⟨⟨.none, he⟩, ⟨_, hit, rfl, rfl⟩, Nat.succ_ne_self _, Nat.ne_of_gt (Nat.lt_succ_of_lt hal), Nat.ne_of_lt hal⟩, two, q⟩
section
variable {X : Cx} {K : PySem.W.Frag}
theorem jok_enumT {F0 : Hp} {a : Addr} {vs : List V} {ds : List D} (h : SqT K F0 a vs) (p : RpAll K F0 vs ds) : JOk K F0 (IteT K a) (enumD 0 ds) where
  stop := fun i F H s1 s2 hi => ⟨vs, same_tup s2 (same_tup s1 h), by rw [enumD_len] at hi; rw [p.length]; exact hi⟩
  go := fun i F H s1 s2 hi => by
    rw [enumD_len] at hi
    have hi' : i < vs.length := p.length ▸ hi
    exact ⟨vs, vs[i], same_tup s2 (same_tup s1 h), by simp [hi']⟩
  yld := fun i F H x H' d s1 s2 y e => by
    obtain ⟨T, v, rfl, hT, rfl, y⟩ := y
    have ex := y vs (same_tup s2 (same_tup s1 h))
    obtain ⟨d', e1, e2⟩ := p.get ex
    rw [enumD_get, e1] at e
    have e' : PyData.tuple [.int (0 + (i : Nat)), d'] = d := Option.some.inj e
    subst e'
    have xt := ext_new (o := .tup [.int (i : Nat), v]) s2 hT
    refine ⟨_, xt, .tup (.inl (.inl upd_same)) (.cons ?_ (.cons ((e2.up s1).up xt.f) .nil))⟩
    rw [Int.zero_add]
    exact .int _
def iEnm' (ta : DTA) : DTI := fun r q => ta r fun ds r1 => match ds with
  | [.list xs] => q (enumD 0 xs) r1
  | [.tuple xs] => q (enumD 0 xs) r1
  | [.dict [(.none, .list xs)]] => q (enumD 0 xs) r1
  | _ => False
theorem di_enum' {e : Expr} {ta : DTA} {p pos tpos : Pos} {elts : List Expr} {kk : Nat} (hg : Gl X "enumerate") (hm : X.mg "enumerate" = none) (ha : DA X [e] ta) (hs : starEach [e] X.env = [(false, eval e X.env)] := by rfl) :
    DI X (.Tuple elts kk tpos) (.Call (.Name "enumerate" p) [e] [] pos) (iEnm' ta) := by
  refine ⟨fun W => pi_weak (pi_enumA hg hm (ha.run W) hs) fun σ H Q h => ?_⟩
  obtain ⟨r, F, q, R, t, w⟩ := h
  refine ⟨r, F, _, R, t, fun ds r' vs F' H' a b c p => ?_⟩
  unfold iEnm' at a
  split at a
  · cases p with
    | cons p1 p2 =>
      cases p2
      cases p1 with
      | lst h1 h2 => exact ⟨_, _, rfl, .inl ⟨SqL.of (b.sub _ _ h1), w _ r' _ F' H' a b c (jok_enum (SqL.of h1) h2)⟩⟩
  · cases p with
    | cons p1 p2 =>
      cases p2
      cases p1 with
      | tup h1 h2 => exact ⟨_, _, rfl, .inr ⟨same_tup b.sub h1, w _ r' _ F' H' a b c (jok_enumT h1 h2)⟩⟩
  · cases p with
    | cons p1 p2 =>
      cases p2
      obtain ⟨l, us, rfl, h1, h2⟩ := scr_inv p1
      exact ⟨_, _, rfl, .inl ⟨b.sub.seq h1, w _ r' _ F' H' a b c (jok_enum h1 h2)⟩⟩
  · exact a.elim
end
end DL
end

section
set_option Elab.async false
set_option linter.all false
set_option maxRecDepth 100000
set_option maxHeartbeats 1000000
namespace DL
open PySem PySem.Spec PyProof.Rows L2

/-! ## str, repr of data -/
def strD : D → Str
  | .str z => z
  | d => d.shown
def rStrD (K : PySem.W.Frag) : List V → Hp → VK → Prop := fun xs H Q => ∃ x d, xs = [x] ∧ Dp K H x d ∧ ((∃ z, d = .str z) ∨ (d.canLay0 = true ∧ d.showable = true ∧ d.depth ≤ 50 ∧ (strD d).length ≤ sizeLine)) ∧ Q (.str (strD d)) H
def rReprD (K : PySem.W.Frag) : List V → Hp → VK → Prop := fun xs H Q => ∃ x d, xs = [x] ∧ Dp K H x d ∧ d.canLay0 = true ∧ d.showable = true ∧ d.depth ≤ 50 ∧ d.shown.length ≤ sizeLine ∧ Q (.str d.shown) H
section
variable {X : Cx}
theorem call_strD (hg : X.A.guards = some []) (hu : X.A.units + 64 < cLine) : CallR X (.type "str") (rStrD X.K) := by
  intro pins s σ H xs us Q I r h
  obtain ⟨x, d, rfl, hd, hz | ⟨hc, hs, hdep, hz⟩, q⟩ := h
  · obtain ⟨z, rfl⟩ := hz
    obtain ⟨u, rfl, ru⟩ := vals1 r
    cases hd
    obtain ⟨t, rfl⟩ := ru
    exact PySem.P.str_of_str ⟨.str z, H, I, ⟨t, rfl⟩, q⟩
  obtain ⟨u, rfl, ru⟩ := vals1 r
  have go : ∀ {a : Addr}, u = .ref a → strD d = d.shown → wpAny (model X.prog X.w) X.A (call (.type "str") [u]) (EP X pins σ Q) X.xe s := fun {a} e e2 => by
    obtain ⟨as, rd⟩ := Dp.reads I d x u hd ru
    subst e
    rw [e2] at hz q
    exact str_of_reads rd hs (PyData.noDict_hsm (PyData.hasDict_of_canLay d hc)) hg (by omega) (fun _ _ e => e) (fun h' t tk hk => ⟨.str _, H, I.kept hk, ⟨_, rfl⟩, q⟩) hz
  cases hd with
  | non => cases ru; exact PySem.P.str_of_none ⟨.str _, H, I.tok _, ⟨_, rfl⟩, q⟩
  | bl b => cases ru; exact PySem.P.str_of_bool ⟨.str _, H, I.tok _, ⟨_, rfl⟩, q⟩
  | int i =>
    obtain ⟨t, rfl⟩ := ru
    exact PySem.P.str_of_int (by simpa [PyData.showable] using hs) ⟨.str _, H, I.tok _, ⟨_, rfl⟩, q⟩
  | str z =>
    obtain ⟨t, rfl⟩ := ru
    exact PySem.P.str_of_str ⟨.str z, H, I, ⟨t, rfl⟩, q⟩
  | lst h1 h2 => cases ru; exact go rfl rfl
  | tup h1 h2 => cases ru; exact go rfl rfl
theorem call_reprD (hg : X.A.guards = some []) (hu : X.A.units + 64 < cLine) : CallR X (.builtin "repr") (rReprD X.K) := by
  intro pins s σ H xs us Q I r h
  obtain ⟨x, d, rfl, hd, hc, hs, hdep, hz, q⟩ := h
  obtain ⟨u, rfl, ru⟩ := vals1 r
  have go : ∀ {a : Addr}, u = .ref a → wpAny (model X.prog X.w) X.A (call (.builtin "repr") [u]) (EP X pins σ Q) X.xe s := fun {a} e => by
    obtain ⟨as, rd⟩ := Dp.reads I d x u hd ru
    subst e
    exact repr_of_reads' rd hs (PyData.noDict_hsm (PyData.hasDict_of_canLay d hc)) hg (by omega) (fun _ _ e => e) (fun h' t tk hk => ⟨.str _, H, I.kept hk, ⟨_, rfl⟩, q⟩) hz
  cases hd with
  | non => cases ru; exact PySem.P.repr_of_none ⟨.str _, H, I.tok _, ⟨_, rfl⟩, q⟩
  | bl b => cases ru; exact PySem.P.repr_of_bool ⟨.str _, H, I.tok _, ⟨_, rfl⟩, q⟩
  | int i =>
    obtain ⟨t, rfl⟩ := ru
    exact PySem.P.repr_of_int (by simpa [PyData.showable] using hs) ⟨.str _, H, I.tok _, ⟨_, rfl⟩, q⟩
  | str z =>
    obtain ⟨t, rfl⟩ := ru
    exact PySem.P.repr_of_str ⟨.str _, H, I.tok _, ⟨_, rfl⟩, q⟩ hz
  | lst h1 h2 => cases ru; exact go rfl
  | tup h1 h2 => cases ru; exact go rfl
end
def Shows (d : D) : Prop := (∃ z, d = .str z) ∨ (d.canLay0 = true ∧ d.showable = true ∧ d.depth ≤ 50 ∧ (strD d).length ≤ sizeLine)
def ShowsR (d : D) : Prop := d.canLay0 = true ∧ d.showable = true ∧ d.depth ≤ 50 ∧ d.shown.length ≤ sizeLine
def pStr : PN := fun xs q => match xs with
  | [d] => Shows d ∧ q (.str (strD d))
  | _ => False
def pRepr : PN := fun xs q => match xs with
  | [d] => ShowsR d ∧ q (.str d.shown)
  | _ => False
theorem v_strD {K : PySem.W.Frag} : VCall K (rStrD K) pStr := by
  intro F H xs ds q Q s p t h
  match ds, p, t with
  | [d], .cons k .nil, ⟨.inr ⟨a, b, c, e⟩, t⟩ => exact ⟨_, d, rfl, dp_of s d _ a k, .inr ⟨a, b, c, e⟩, fin_flat s h (.str _) t⟩
  | [d], .cons k .nil, ⟨.inl ⟨z, e⟩, t⟩ =>
    subst e
    cases k
    exact ⟨_, _, rfl, .str z, .inl ⟨z, rfl⟩, fin_flat s h (.str _) t⟩
theorem v_reprD {K : PySem.W.Frag} : VCall K (rReprD K) pRepr := by
  intro F H xs ds q Q s p t h
  match ds, p, t with
  | [d], .cons k .nil, ⟨⟨a, b, c, e⟩, t⟩ => exact ⟨_, d, rfl, dp_of s d _ a k, a, b, c, e, fin_flat s h (.str _) t⟩
end DL
namespace DL
open PySem PySem.Spec PyProof.Rows L2
/-! ## a module's constants -/
structure GlobD (K : PySem.W.Frag) (mg : Str → Option Value) (x : Str) (d : D) : Prop where
  ex : ∃ v u, mg x = some u ∧ RelV v u ∧ ∀ F, Rp K F v d
theorem d_globD {X : Cx} {x : Str} {pos : Pos} {d : D} (hg : Gl X x) (h : GlobD X.K X.mg x d) (hd : (x == ("__debug__" : Str)) = false := by decide) : DE X (.Name x pos) (eC d) := by
  obtain ⟨v, u, hm, r, hr⟩ := h.ex
  exact d_glob hg hm r hr hd
theorem glob_int {K : PySem.W.Frag} {h : PySem.Heap} {mg : Str → Option Value} {x : Str} {i : Int} {t : Tok} (X : K.In h) (G : h.Ns mainGlobals mg) (e : PySem.W.nsIn K mainGlobals x = some (some (.int i t))) : GlobD K mg x (.int i) :=
  ⟨.int i, _, PySem.W.mg_of X G e, ⟨t, rfl⟩, fun _ => .int i⟩
theorem glob_str {K : PySem.W.Frag} {h : PySem.Heap} {mg : Str → Option Value} {x z : Str} {t : Tok} (X : K.In h) (G : h.Ns mainGlobals mg) (e : PySem.W.nsIn K mainGlobals x = some (some (.str z t))) : GlobD K mg x (.str z) :=
  ⟨.str z, _, PySem.W.mg_of X G e, ⟨t, rfl⟩, fun _ => .str z⟩
end DL
namespace DL
open PySem PySem.Spec PyProof.Rows L2
/-- a promise that asks what can not be -/
theorem def_no {P : Program} {w : World} {K : PySem.W.Frag} {mg : Str → Option Value} {base : PySem.Heap} {k : Nat} {x : Str} {st : Stmt} {ps : List Str} {n : Nat} {sp : DSp} (I : Is K mg x st ps) (h : ∀ cs post, sp cs post → False) : Def P w K mg base k x n sp := by
  obtain ⟨f, fd, F, hm, bi⟩ := I.ex
  exact ⟨f, fd, ps, ⟨fun vs H Q E ⟨_, cs, _, _, _, _, _, h5, _⟩ => (h _ _ h5).elim, fun A outer s H args us vs Q E hr hg he hb hv ⟨_, cs, _, _, _, _, _, h5, _⟩ => (h _ _ h5).elim⟩, hm, F.kp, bi⟩
end DL
namespace DL
open PySem PySem.Spec PyProof.Rows L2
/-! ## l.pop() -/
section
variable {X : Cx}
def eMut0 (i : Nat) (p : List D → List D → (D → List D → Prop) → Prop) : DTE := fun r q => lstAt r i = true ∧ match dat r i with
  | some (.own (.lst ds)) => p ds [] fun d ds' => nrm (dput r i (some (.own (.lst ds')))) (q d)
  | some (.io (.lst ds)) => p ds [] fun d ds' => nrm (dput r i (some (.io (.lst ds')))) (q d)
  | _ => False
theorem d_mut0 (i : Nat) {x name : Str} {rr : V → List V → Hp → VK → Prop} {pp : List D → List D → (D → List D → Prop) → Prop} {p apos cpos : Pos} (hv : VMut rr pp)
    (hN : X.N[i]? = some x) (hvis : Vis X.env.scope x) (hpe : PE X (.Call (.Attribute (.Name x p) name apos) [] [] cpos) (tBM0 X.K "list" rr (tVar i))) :
    DE X (.Call (.Attribute (.Name x p) name apos) [] [] cpos) (eMut0 i pp) := by
  refine ⟨fun W => pe_weak hpe fun σ H Q h => ?_⟩
  obtain ⟨r, F, q, R, ⟨hl, t⟩, w⟩ := h
  have go : ∀ {io : Bool} {ds : List D}, dat r i = some (isMut (.lst ds) io) → (pp ds [] fun d ds' => nrm (dput r i (some (isMut (.lst ds') io))) (q d)) → tBM0 X.K "list" rr (tVar i) σ H Q := fun {io ds} z t2 => by
    obtain ⟨a, o, k1, k2, ⟨ws, rfl, k3⟩, k4, k5⟩ := R.mut z
    refine ⟨.ref a, k1, .inl ⟨rfl, ws, SqL.of k2⟩, ?_⟩
    exact hv X.K F H a ws ds [] [] _ Q R.sub k2 k4 k3 .nil t2 fun d ds' v vs' qd pa pv => w d _ v F _ (nrm_el qd) (k5 (.lst vs') (.lst ds') ⟨vs', rfl, pa⟩) (Same.refl _) pv
  split at t
  · rename_i ds z; exact go (io := false) z t
  · rename_i ds z; exact go (io := true) z t
  · exact t.elim
def pPop (ds es : List D) (q : D → List D → Prop) : Prop := match es with
  | [] => ∃ d, ds[ds.length - 1]? = some d ∧ q d ds.dropLast
  | _ => False
theorem vm_pop : VMut rPop pPop := by
  intro K F H a vs ds xs es q Q s ha fa p1 p2 t h
  match es, p2, t with
  | [], .nil, ⟨d, hd, t⟩ =>
    obtain ⟨v, h1, h2⟩ := p1.getD (i := ds.length - 1) hd
    refine ⟨a, vs, v, rfl, rfl, ha, by rw [p1.length]; exact h1, ?_⟩
    refine h d ds.dropLast v vs.dropLast t ?_ h2
    rw [List.dropLast_eq_take, List.dropLast_eq_take, p1.length]
    exact p1.take _
theorem d_pop0 (i : Nat) {x : Str} {p apos cpos : Pos} (hN : X.N[i]? = some x := by rfl) (hvis : Vis X.env.scope x := by first | exact Or.inl rfl | exact Or.inr (Or.inl rfl) | exact Or.inr (Or.inr rfl)) (hd : (x == ("__debug__" : Str)) = false := by decide) (hcd : (x == ("__classdict__" : Str)) = false := by decide)
    (hbase : attributeBase (.Name x p) "pop" X.env (eval (.Name x p) X.env) = eval (.Name x p) X.env := by rfl) (hline : (apos.endLine == cpos.line) = true := by rfl) :
    DE X (.Call (.Attribute (.Name x p) "pop" apos) [] [] cpos) (eMut0 i pPop) :=
  d_mut0 i vm_pop hN hvis (pe_bm0 PySem.F.plainAttrs_list PySem.F.slot_list_pop PySem.F.type_list_pop mt_pop (pe_var hN hvis hd hcd) hbase hline)
end
end DL
namespace DL
open PySem PySem.Spec PyProof.Rows L2
section
variable {X : Cx}
def gTp' (n : Nat) (gs : DTGs) : DTG := fun d r q => match d with
  | .tuple ds => ds.length = n ∧ gs ds r q
  | .list ds => ds.length = n ∧ gs ds r q
  | _ => False
theorem dg_tup' {es : List Expr} {k n : Nat} {pos : Pos} {gs : DTGs} (hc : X.calm = true) (h : DGs X es gs) (hn : (assignEach es X.env).length = n := by rfl) (hst : (assignEach es X.env).findIdx? (·.1) = none := by rfl) : DG X (.Tuple es k pos) (gTp' n gs) := by
  refine ⟨fun W => ⟨fun pins s σ H v u Q I ru hq => ?_⟩⟩
  obtain ⟨d, r, F, q, R, p, t, w⟩ := hq
  cases p with
  | tup h1 h2 =>
    exact (pg_tup (k := k) (pos := pos) hc (h.run W) hn hst).run pins s σ H _ u Q I ru ⟨_, _, rfl, same_tup R.sub h1, by rw [h2.length]; exact t.1, ⟨_, r, F, q, R, h2, t.2, w⟩⟩
  | lst h1 h2 =>
    exact (pg_lst (k := k) (pos := pos) hc (h.run W) hn hst).run pins s σ H _ u Q I ru ⟨_, _, rfl, SqL.of (R.sub _ _ h1), by rw [h2.length]; exact t.1, ⟨_, r, F, q, R, h2, t.2, w⟩⟩
  | _ => exact t.elim
end
end DL
end

section
set_option Elab.async false
set_option linter.all false
set_option maxRecDepth 100000
namespace DL
open PySem L2

/-! ## what all laws have: a box of draws, cells folded -/
def b_box : DTS :=
  (sSeq (sSet 2 (eC (.int 0)))
  (sSeq (sIf (tBl (eOp2 pLt (eVar 1) (eLenV 0))) (sSet 2 (eIxV 0 (eVar 1))) sNext)
  (sRetO (oLst (aCons (eOp2 pMul (eCall pAbs (aCons (eVar 2) aNil)) (eCall pInt (aCons (eOp2 pGe (eCall pAbs (aCons (eVar 2) aNil)) (eOp2 pPow (eC (.int 10)) (eC (.int 18)))) aNil))) (aCons (eOp2 pMod (eOp2 pAdd (eVar 2) (eOp2 pMul (eOp2 pMul (eC (.int 7919)) (eVar 1)) (eVar 1))) (eC (.int 2147483647))) (aCons (eC (.int 0)) aNil)))))))
def b_take : DTS :=
  (sSeq (sIf (tBl (eOp2 pGt (eIxV 0 (eC (.int 0))) (eC (.int 0)))) (sSeq (sAsg (eCall pDvm (aCons (eIxV 0 (eC (.int 0))) (aCons (eVar 1) aNil))) (gTp' 2 (gsCons (gSb 0 (eC (.int 0))) (gsCons (gNm 3) gsNil))))
  (sRet (eVar 3))) sNext)
  (sSeq (sAsg (eOp2 pAdd (eIxV 0 (eC (.int 2))) (eC (.int 1))) (gSb 0 (eC (.int 2))))
  (sSeq (sSet 2 (eOp2 pMod (eOp2 pPow (eOp2 pAdd (eIxV 0 (eC (.int 1))) (eOp2 pMul (eC (.int 39373)) (eIxV 0 (eC (.int 2))))) (eC (.int 5))) (eC (.int 2147483647))))
  (sRet (eOp2 pMod (eOp2 pDiv (eOp2 pMod (eOp2 pAdd (eOp2 pMul (eVar 2) (eC (.int 48271))) (eOp2 pMul (eOp2 pMul (eIxV 0 (eC (.int 2))) (eIxV 0 (eC (.int 2)))) (eC (.int 7919)))) (eC (.int 2147483629))) (eC (.int 64))) (eVar 1))))))
def b_fold : DTS :=
  (sSeq (sSetO 2 (oList (eSlV 0 pNo (pSome (eVar 1)))))
  (sSeq (sFor (iEnm' (aCons (eSlV 0 (pSome (eVar 1)) (pSome (eC (.int 63)))) aNil)) (gTp' 2 (gsCons (gNm 3) (gsCons (gNm 4) gsNil))) (sAsg (eOp2 pAdd (eIxV 2 (eOp2 pMod (eVar 3) (eVar 1))) (eOp2 pMul (eVar 4) (eOp2 pAdd (eVar 3) (eC (.int 2))))) (gSb 2 (eOp2 pMod (eVar 3) (eVar 1)))))
  (sRet (eVar 2))))

theorem ifB {b : Bool} {A B : Prop} (h1 : b = true → A) (h2 : b = false → B) : if b = true then A else B := by
  cases b with
  | true => exact h1 rfl
  | false => exact iteF (h2 rfl)
theorem ifD {p : Prop} [Decidable p] {A B : Prop} (h1 : p → A) (h2 : ¬ p → B) : if decide p = true then A else B := by
  by_cases h : p
  · rw [decide_eq_true h]; exact iteT (h1 h)
  · rw [decide_eq_false h]; exact iteF (h2 h)
theorem ifN {p : Prop} [Decidable p] {A B : Prop} (h1 : ¬ p → A) (h2 : p → B) : if (!decide p) = true then A else B := by
  by_cases h : p
  · rw [decide_eq_true h]; exact iteF (h2 h)
  · rw [decide_eq_false h]; exact iteT (h1 h)
theorem ifT {p : Prop} [Decidable p] {A B : Prop} (h : p) (h1 : A) : if decide p = true then A else B := by
  rw [decide_eq_true h]; exact iteT h1
theorem ifF {p : Prop} [Decidable p] {A B : Prop} (h : ¬ p) (h1 : B) : if decide p = true then A else B := by
  rw [decide_eq_false h]; exact iteF h1
/-- a box: what is left of a cell, what it was mixed to, how many draws there were (n at most) -/
def Box (n : Int) (m : M) : Prop := ∃ x y z : Int, m = .lst [.int x, .int y, .int z] ∧ 0 ≤ x ∧ 0 ≤ y ∧ y < 2147483647 ∧ 0 ≤ z ∧ z ≤ n
theorem Box.le {n k : Int} {m : M} (h : Box n m) (l : n ≤ k) : Box k m := by
  obtain ⟨x, y, z, e, h1, h2, h3, h4, h5⟩ := h
  exact ⟨x, y, z, e, h1, h2, h3, h4, by omega⟩
/-- the line that no law's draws come to -/
def farB : Int := 2 ^ 40
def sp_box : DSp := fun cs post => ∃ (ns : List Int) (k : Int), cs = [.sh (.list (ns.map PyData.int)), .sh (.int k)] ∧ 0 ≤ k ∧ k < 2 ^ 20 ∧ ∀ m, Box 0 m → post (.own m) []
def sp_take : DSp := fun cs post => ∃ (m : M) (n k : Int), cs = [.io m, .sh (.int k)] ∧ Box n m ∧ n < farB ∧ 0 < k ∧ k < 2 ^ 64 ∧ ∀ v m', 0 ≤ v → v < k → Box (n + 1) m' → post (.sh (.int v)) [m']
def sp_fold : DSp := fun cs post => ∃ (ns : List Int) (k : Int), cs = [.sh (scrD ns), .sh (.int k)] ∧ 0 < k ∧ k < 63 ∧ ns.length ≤ 63 ∧ ∀ es : List Int, (es.length : Int) ≤ k → post (.sh (.list (es.map PyData.int))) []
theorem log2_small {n : Nat} (h : n < 2 ^ 64) : n.log2 < 9000 := by
  have := PySem.Flt.log2_lt_of (n := n) (k := 64) (by decide) h
  omega
theorem p_take (cs post) (h : sp_take cs post) : runD 4 b_take cs post := by
  obtain ⟨m, n, k, rfl, ⟨x, y, z, rfl, hx, hy0, hy, hz0, hz⟩, hn, hk0, hk, q⟩ := h
  have hf : farB = 1099511627776 := by decide
  refine ifD (fun h => ?_) (fun h => ?_)
  · refine ⟨CDivP.wide hk0 (log2_small (by omega)), rfl, rfl, 0, rfl, ?_⟩
    exact q (x % k) (.lst [.int (x / k), .int y, .int z]) (Int.emod_nonneg _ (by omega)) (Int.emod_lt_of_pos _ hk0) ⟨_, _, _, rfl, Int.ediv_nonneg hx (by omega), hy0, hy, hz0, by omega⟩
  · refine ⟨rfl, 2, rfl, MulOk.left (by decide), ⟨by decide, by decide, ?_⟩, (by decide : (0 : Int) < 2147483647), MulOk.right (by decide), MulOk.left ?_, MulOk.right (by decide), (by decide : (0 : Int) < 2147483629), DivOk.small (by decide) (by decide), hk0, ?_⟩
    · show (y + 39373 * (z + 1)).natAbs < 2 ^ 64
      omega
    · show (z + 1).natAbs < 2 ^ 64
      omega
    · exact q _ _ (Int.emod_nonneg _ (by omega)) (Int.emod_lt_of_pos _ hk0) ⟨x, y, z + 1, rfl, hx, hy0, hy, by omega, by omega⟩
theorem b01 (b : Bool) : (if b = true then (1 : Int) else 0) = 0 ∨ (if b = true then (1 : Int) else 0) = 1 := by
  cases b <;> simp
theorem p_box (cs post) (h : sp_box cs post) : runD 3 b_box cs post := by
  obtain ⟨ns, k, rfl, hk0, hk, q⟩ := h
  have key : ∀ c b : Int, (b = 0 ∨ b = 1) → MulOk (if c < 0 then -c else c) b ∧ MulOk 7919 k ∧ MulOk (7919 * k) k ∧ (0 : Int) < 2147483647 ∧ 3 ≤ sizeLine ∧ post (.own (.lst [.int ((if c < 0 then -c else c) * b), .int ((c + 7919 * k * k) % 2147483647), .int 0])) [] := fun c b hb => by
      refine ⟨MulOk.right (by omega), MulOk.left (by decide), MulOk.right (by omega), by decide, by decide, q _ ⟨_, _, _, rfl, ?_, Int.emod_nonneg _ (by decide), Int.emod_lt_of_pos _ (by decide), by decide, by decide⟩⟩
      rcases hb with rfl | rfl
      · omega
      · split <;> omega
  refine ifD (fun h => ?_) (fun h => ?_)
  · have hk2 : k < (ns.length : Nat) := by simpa using h
    have e : atI (ns.map PyData.int) k = some (.int (ns.getD k.toNat 0)) := by
      have hl : k.toNat < ns.length := by omega
      unfold atI ixN
      rw [List.length_map, if_pos hk0, if_pos (by omega)]
      simp [hl]
    refine optD_of e ?_
    exact ⟨⟨by decide, by decide, by decide⟩, key _ _ (b01 _)⟩
  · exact ⟨⟨by decide, by decide, by decide⟩, key _ _ (b01 _)⟩
theorem loop_inv {g : DTG} {tb : DTS} (I : List D → DSt → Prop) {E : DEnds} (step : ∀ d t r (N : DSt → Prop), I (d :: t) r → (∀ r', I t r' → N r') → g d r fun r1 => tb { E with nx := N, ct := N, bk := E.nx } r1)
    (fin : ∀ r, I [] r → E.nx r) : ∀ ds r, I ds r → loopD g tb ds E r
  | [], r, h => fin r h
  | d :: t, r, h => step d t r _ h fun r' h' => loop_inv I step fin t r' h'
theorem cut_hi {α : Type} (xs : List α) (k : Int) (h : 0 ≤ k) : cutD xs none (some k) = xs.take k.toNat := by
  show (xs.drop 0).take ((if k < 0 then (k + (xs.length : Int)).toNat else min k.toNat xs.length) - 0) = _
  rw [if_neg (by omega), List.drop_zero, Nat.sub_zero]
  by_cases h2 : k.toNat ≤ xs.length
  · rw [Nat.min_eq_left h2]
  · rw [Nat.min_eq_right (by omega), List.take_length, List.take_of_length_le (by omega)]
theorem cut_lo {α : Type} (xs : List α) (k j : Int) (h : 0 ≤ k) (h2 : k ≤ j) : cutD xs (some k) (some j) = (xs.take j.toNat).drop k.toNat := by
  show (xs.drop (if k < 0 then (k + (xs.length : Int)).toNat else min k.toNat xs.length)).take ((if j < 0 then (j + (xs.length : Int)).toNat else min j.toNat xs.length) - (if k < 0 then (k + (xs.length : Int)).toNat else min k.toNat xs.length)) = _
  rw [if_neg (by omega), if_neg (by omega), List.drop_take]
  by_cases h3 : k.toNat ≤ xs.length
  · rw [Nat.min_eq_left h3]
    by_cases h4 : j.toNat ≤ xs.length
    · rw [Nat.min_eq_left h4]
    · rw [Nat.min_eq_right (by omega), List.take_of_length_le (by simp), List.take_of_length_le (by simp; omega)]
  · rw [Nat.min_eq_right (by omega), List.drop_eq_nil_of_le (by omega), List.drop_eq_nil_of_le (by omega)]
    simp
theorem at_ints {es : List Int} {i : Int} (h : 0 ≤ i) (h2 : i < es.length) : atI (es.map PyData.int) i = some (.int (es.getD i.toNat 0)) := by
  have hl : i.toNat < es.length := by omega
  unfold atI ixN
  rw [List.length_map, if_pos h, if_pos (by omega)]
  simp [hl]
theorem ix_in {n : Nat} {i : Int} (h : 0 ≤ i) (h2 : i < n) : ixN n i = some i.toNat := by
  unfold ixN
  rw [if_pos h, if_pos (by omega)]
theorem enumD_mem : ∀ (k : Int) (ds : List D) (d : D), d ∈ enumD k ds → ∃ j c, d = .tuple [.int j, c] ∧ k ≤ j ∧ j < k + ds.length ∧ c ∈ ds
  | _, [], _, h => by cases h
  | k, x :: t, d, h => by
    rcases List.mem_cons.1 h with rfl | h
    · exact ⟨k, x, rfl, by omega, by simp; omega, by simp⟩
    · obtain ⟨j, c, e, h1, h2, h3⟩ := enumD_mem (k + 1) t d h
      exact ⟨j, c, e, by omega, by simp; omega, by simp [h3]⟩
theorem p_fold (cs post) (h : sp_fold cs post) : runD 5 b_fold cs post := by
  obtain ⟨ns, k, rfl, hk0, hk, hn, q⟩ := h
  refine loop_inv (fun t r => ∃ (es : List Int) (c3 c4 : Option Cell), r = [some (.sh (scrD ns)), some (.sh (.int k)), some (.own (.lst (es.map PyData.int))), c3, c4] ∧ (es.length : Int) ≤ k ∧ (t ≠ [] → (es.length : Int) = k) ∧ ∀ d ∈ t, ∃ j c : Int, d = .tuple [.int j, .int c] ∧ 0 ≤ j ∧ j < 64) ?_ ?_ _ _ ?_
  · rintro d t r N ⟨es, c3, c4, rfl, h1, h2, h3⟩ hN
    obtain ⟨j, c, rfl, hj, hj2⟩ := h3 _ List.mem_cons_self
    have hl := h2 (by simp)
    have m0 := Int.emod_nonneg j (show k ≠ 0 by omega)
    have m1 := Int.emod_lt_of_pos j hk0
    refine ⟨rfl, hk0, optD_of (at_ints m0 (by omega)) ⟨MulOk.right (by omega), rfl, hk0, (j % k).toNat, (by rw [List.length_map]; exact ix_in m0 (by omega)), hN _ ⟨es.set (j % k).toNat (es.getD (j % k).toNat 0 + c * (j + 2)), some (.sh (.int j)), some (.sh (.int c)), ?_, ?_, ?_, ?_⟩⟩⟩
    · rw [List.map_set]; rfl
    · rw [List.length_set]; exact h1
    · intro _; rw [List.length_set]; exact hl
    · exact fun d hd => h3 d (List.mem_cons_of_mem _ hd)
  · rintro r ⟨es, c3, c4, rfl, h1, _⟩
    exact q es h1
  · refine ⟨ns.take k.toNat, none, none, ?_, ?_, ?_, ?_⟩
    · rw [cut_hi _ _ (by omega), ← List.map_take]
    · rw [List.length_take]; omega
    · intro hne
      rw [cut_lo _ _ _ (by omega) (by omega)] at hne
      rw [List.length_take]
      by_cases hh : k.toNat ≤ ns.length
      · omega
      · exfalso; apply hne
        rw [List.drop_eq_nil_of_le (by simp; omega)]; rfl
    · intro d hd
      rw [cut_lo _ _ _ (by omega) (by omega)] at hd
      obtain ⟨j, c, e, a, b, m⟩ := enumD_mem _ _ _ hd
      have m2 := List.mem_of_mem_take (List.mem_of_mem_drop m)
      obtain ⟨c', _, rfl⟩ := List.mem_map.1 m2
      refine ⟨j, c', e, a, ?_⟩
      simp at b
      omega
end DL
namespace DL
theorem rng_mem : ∀ (n : Nat) (i : Int) (d : D), d ∈ rngD i n → ∃ k : Int, d = .int k ∧ i ≤ k ∧ k < i + n := by
  intro n i d h
  unfold rngD at h
  obtain ⟨j, hj, rfl⟩ := List.mem_map.1 h
  have := List.mem_range.1 hj
  exact ⟨_, rfl, by omega, by omega⟩
end DL
namespace DL
open PySem PySem.Spec PyProof.Rows L2
theorem at_last (l : List D) (d : D) : atI (l ++ [d]) (-1) = some d := by
  unfold atI ixN
  rw [if_neg (by decide), if_pos (by simp; omega)]
  show (l ++ [d])[((-1 : Int) + ((l ++ [d]).length : Nat)).toNat]? = some d
  rw [show ((-1 : Int) + ((l ++ [d]).length : Nat)).toNat = l.length by simp; omega]
  simp
end DL
namespace DL
open PySem PySem.Spec PyProof.Rows L2
theorem sz0 : 0 ≤ sizeLine := by decide
theorem sz1 : 1 ≤ sizeLine := by decide
theorem sz2 : 2 ≤ sizeLine := by decide
theorem sz3 : 3 ≤ sizeLine := by decide
theorem sz4 : 4 ≤ sizeLine := by decide
theorem sz5 : 5 ≤ sizeLine := by decide
theorem sz6 : 6 ≤ sizeLine := by decide
theorem sz7 : 7 ≤ sizeLine := by decide
theorem sz8 : 8 ≤ sizeLine := by decide
theorem sz9 : 9 ≤ sizeLine := by decide
theorem sz10 : 10 ≤ sizeLine := by decide
theorem sz11 : 11 ≤ sizeLine := by decide
theorem sz12 : 12 ≤ sizeLine := by decide
theorem sz13 : 13 ≤ sizeLine := by decide
theorem sz14 : 14 ≤ sizeLine := by decide
theorem sz15 : 15 ≤ sizeLine := by decide
theorem sz16 : 16 ≤ sizeLine := by decide
theorem sz17 : 17 ≤ sizeLine := by decide
theorem sz18 : 18 ≤ sizeLine := by decide
theorem sz19 : 19 ≤ sizeLine := by decide
theorem sz20 : 20 ≤ sizeLine := by decide
theorem sz21 : 21 ≤ sizeLine := by decide
theorem sz22 : 22 ≤ sizeLine := by decide
theorem sz23 : 23 ≤ sizeLine := by decide
theorem sz24 : 24 ≤ sizeLine := by decide
theorem sz25 : 25 ≤ sizeLine := by decide
theorem sz26 : 26 ≤ sizeLine := by decide
theorem sz27 : 27 ≤ sizeLine := by decide
theorem sz28 : 28 ≤ sizeLine := by decide
theorem sz29 : 29 ≤ sizeLine := by decide
theorem sz30 : 30 ≤ sizeLine := by decide
theorem sz31 : 31 ≤ sizeLine := by decide
theorem sz32 : 32 ≤ sizeLine := by decide
theorem sz33 : 33 ≤ sizeLine := by decide
theorem sz34 : 34 ≤ sizeLine := by decide
theorem sz35 : 35 ≤ sizeLine := by decide
theorem sz36 : 36 ≤ sizeLine := by decide
theorem sz37 : 37 ≤ sizeLine := by decide
theorem sz38 : 38 ≤ sizeLine := by decide
theorem sz39 : 39 ≤ sizeLine := by decide
theorem sz40 : 40 ≤ sizeLine := by decide
theorem at_all {l : List D} {i : Int} (h0 : 0 ≤ i) (h1 : i < l.length) {q : D → Prop} (h : ∀ d ∈ l, q d) : optD (atI l i) q := by
  have hl : i.toNat < l.length := by omega
  have e : atI l i = some (l[i.toNat]) := by
    unfold atI
    rw [ix_in h0 h1]
    simp [hl]
  exact optD_of e (h _ (List.getElem_mem hl))
end DL
namespace DL
theorem nd1 (i : Nat) : [i].Nodup := by simp
end DL
namespace DL
open PySem PySem.Spec PyProof.Rows L2
theorem comp_inv {one : Bool} {js : List Nat} {tt : DTT} {te : DTE} {q : List D → DSt → Prop} (I : List D → List D → DSt → Prop)
    (step : ∀ d t acc r (N : List D → DSt → Prop), I (d :: t) acc r → (∀ acc' r', I t acc' (wipeD r' js) → N acc' r') → tgD one js d r fun r1 => tt r1 fun b r2 => if b = true then te r2 fun y r3 => N (acc ++ [y]) r3 else N acc r2)
    (fin : ∀ acc r, I [] acc r → q acc r) : ∀ ds acc r, I ds acc r → compD one js tt te ds acc r q
  | [], acc, r, h => fin acc r h
  | d :: t, acc, r, h => step d t acc r (fun acc' r' => compD one js tt te t acc' (wipeD r' js) q) h fun acc' r' h' => comp_inv I step fin t acc' (wipeD r' js) h'
end DL
namespace DL
open PySem PySem.Spec PyProof.Rows L2
theorem idx_loop {g : DTG} {tb : DTS} {E : DEnds} (ds : List D) (I : Nat → DSt → Prop)
    (step : ∀ (i : Nat) (h : i < ds.length) r (N : DSt → Prop), I i r → (∀ r', I (i + 1) r' → N r') → g ds[i] r fun r1 => tb { E with nx := N, ct := N, bk := E.nx } r1)
    (fin : ∀ r, I ds.length r → E.nx r) (r : DSt) (h : I 0 r) : loopD g tb ds E r := by
  refine loop_inv (fun t r => ∃ i, i ≤ ds.length ∧ t = ds.drop i ∧ I i r) ?_ ?_ ds r ⟨0, by omega, rfl, h⟩
  · rintro d t r N ⟨i, hi, e, hI⟩ hN
    have hk : i < ds.length := by
      rcases Nat.lt_or_ge i ds.length with h | h
      · exact h
      · rw [List.drop_eq_nil_of_le h] at e; cases e
    rw [List.drop_eq_getElem_cons hk] at e
    cases e
    exact step i hk r N hI fun r' h' => hN r' ⟨i + 1, by omega, rfl, h'⟩
  · rintro r ⟨i, hi, e, hI⟩
    have hk : i = ds.length := by
      rcases Nat.lt_or_ge i ds.length with h | h
      · rw [List.drop_eq_getElem_cons h] at e; cases e
      · omega
    subst hk
    exact fin r hI
theorem rng_get (lo : Int) (n i : Nat) (h : i < (rngD lo n).length) : (rngD lo n)[i] = .int (lo + i) := by
  have h' : i < n := by rw [rngD_len] at h; exact h
  have e : (rngD lo n)[i]? = some (.int (lo + i)) := by
    unfold rngD
    rw [List.getElem?_map, List.getElem?_range h']
    rfl
  exact (List.getElem?_eq_some_iff.1 e).2
theorem rng_loop {g : DTG} {tb : DTS} {E : DEnds} (lo : Int) (n : Nat) (I : Nat → DSt → Prop)
    (step : ∀ (i : Nat) (h : i < n) r (N : DSt → Prop), I i r → (∀ r', I (i + 1) r' → N r') → g (.int (lo + i)) r fun r1 => tb { E with nx := N, ct := N, bk := E.nx } r1)
    (fin : ∀ r, I n r → E.nx r) (r : DSt) (h : I 0 r) : loopD g tb (rngD lo n) E r := by
  refine idx_loop (rngD lo n) I (fun i hi r N hI hN => ?_) (by rw [rngD_len]; exact fin) r h
  have hi' : i < n := by rw [rngD_len] at hi; exact hi
  rw [rng_get]
  exact step i hi' r N hI hN
theorem ints_loop {g : DTG} {tb : DTS} {E : DEnds} (ns : List Int) (I : Nat → DSt → Prop)
    (step : ∀ (i : Nat) (h : i < ns.length) r (N : DSt → Prop), I i r → (∀ r', I (i + 1) r' → N r') → g (.int ns[i]) r fun r1 => tb { E with nx := N, ct := N, bk := E.nx } r1)
    (fin : ∀ r, I ns.length r → E.nx r) (r : DSt) (h : I 0 r) : loopD g tb (ns.map PyData.int) E r := by
  refine idx_loop (ns.map PyData.int) I (fun i hi r N hI hN => ?_) (by rw [List.length_map]; exact fin) r h
  have hi' : i < ns.length := by rw [List.length_map] at hi; exact hi
  rw [List.getElem_map]
  exact step i hi' r N hI hN
theorem idx_comp {one : Bool} {js : List Nat} {tt : DTT} {te : DTE} {q : List D → DSt → Prop} (ds : List D) (I : Nat → List D → DSt → Prop)
    (step : ∀ (i : Nat) (h : i < ds.length) acc r (N : List D → DSt → Prop), I i acc r → (∀ acc' r', I (i + 1) acc' (wipeD r' js) → N acc' r') → tgD one js ds[i] r fun r1 => tt r1 fun b r2 => if b = true then te r2 fun y r3 => N (acc ++ [y]) r3 else N acc r2)
    (fin : ∀ acc r, I ds.length acc r → q acc r) (r : DSt) (h : I 0 [] r) : compD one js tt te ds [] r q := by
  refine comp_inv (fun t acc r => ∃ i, i ≤ ds.length ∧ t = ds.drop i ∧ I i acc r) ?_ ?_ ds [] r ⟨0, by omega, rfl, h⟩
  · rintro d t acc r N ⟨i, hi, e, hI⟩ hN
    have hk : i < ds.length := by
      rcases Nat.lt_or_ge i ds.length with h | h
      · exact h
      · rw [List.drop_eq_nil_of_le h] at e; cases e
    rw [List.drop_eq_getElem_cons hk] at e
    cases e
    exact step i hk acc r N hI fun acc' r' h' => hN acc' r' ⟨i + 1, by omega, rfl, h'⟩
  · rintro acc r ⟨i, hi, e, hI⟩
    have hk : i = ds.length := by
      rcases Nat.lt_or_ge i ds.length with h | h
      · rw [List.drop_eq_getElem_cons h] at e; cases e
      · omega
    subst hk
    exact fin acc r hI
theorem rng_comp {one : Bool} {js : List Nat} {tt : DTT} {te : DTE} {q : List D → DSt → Prop} (lo : Int) (n : Nat) (I : Nat → List D → DSt → Prop)
    (step : ∀ (i : Nat) (h : i < n) acc r (N : List D → DSt → Prop), I i acc r → (∀ acc' r', I (i + 1) acc' (wipeD r' js) → N acc' r') → tgD one js (.int (lo + i)) r fun r1 => tt r1 fun b r2 => if b = true then te r2 fun y r3 => N (acc ++ [y]) r3 else N acc r2)
    (fin : ∀ acc r, I n acc r → q acc r) (r : DSt) (h : I 0 [] r) : compD one js tt te (rngD lo n) [] r q := by
  refine idx_comp (rngD lo n) I (fun i hi acc r N hI hN => ?_) (by rw [rngD_len]; exact fin) r h
  have hi' : i < n := by rw [rngD_len] at hi; exact hi
  rw [rng_get]
  exact step i hi' acc r N hI hN
theorem ints_comp {one : Bool} {js : List Nat} {tt : DTT} {te : DTE} {q : List D → DSt → Prop} (ns : List Int) (I : Nat → List D → DSt → Prop)
    (step : ∀ (i : Nat) (h : i < ns.length) acc r (N : List D → DSt → Prop), I i acc r → (∀ acc' r', I (i + 1) acc' (wipeD r' js) → N acc' r') → tgD one js (.int ns[i]) r fun r1 => tt r1 fun b r2 => if b = true then te r2 fun y r3 => N (acc ++ [y]) r3 else N acc r2)
    (fin : ∀ acc r, I ns.length acc r → q acc r) (r : DSt) (h : I 0 [] r) : compD one js tt te (ns.map PyData.int) [] r q := by
  refine idx_comp (ns.map PyData.int) I (fun i hi acc r N hI hN => ?_) (by rw [List.length_map]; exact fin) r h
  have hi' : i < ns.length := by rw [List.length_map] at hi; exact hi
  rw [List.getElem_map]
  exact step i hi' acc r N hI hN
end DL
namespace DL
open PySem PySem.Spec PyProof.Rows L2
theorem enum_loop {g : DTG} {tb : DTS} {E : DEnds} (ds : List D) (I : Nat → DSt → Prop)
    (step : ∀ (i : Nat) (h : i < ds.length) r (N : DSt → Prop), I i r → (∀ r', I (i + 1) r' → N r') → g (.tuple [.int i, ds[i]]) r fun r1 => tb { E with nx := N, ct := N, bk := E.nx } r1)
    (fin : ∀ r, I ds.length r → E.nx r) (r : DSt) (h : I 0 r) : loopD g tb (enumD 0 ds) E r := by
  refine idx_loop (enumD 0 ds) I (fun i hi r N hI hN => ?_) (by rw [enumD_len]; exact fin) r h
  have hi' : i < ds.length := by rw [enumD_len] at hi; exact hi
  have e : (enumD 0 ds)[i]? = some (.tuple [.int i, ds[i]]) := by
    rw [enumD_get, List.getElem?_eq_getElem hi']
    simp
  rw [(List.getElem?_eq_some_iff.1 e).2]
  exact step i hi' r N hI hN
end DL
end

section
set_option Elab.async false
set_option linter.all false
set_option maxRecDepth 100000
namespace DL
open PySem PySem.Spec PyProof.Rows L2

/-! ## sizes -/
/-- a whole number of at most n bits -/
def Sz (n : Nat) (i : Int) : Prop := i.natAbs < 2 ^ n
theorem Sz.mono {n m : Nat} {i : Int} (h : Sz n i) (l : n ≤ m) : Sz m i := Nat.lt_of_lt_of_le h (Nat.pow_le_pow_right (by decide) l)
theorem Sz.mul {n m : Nat} {i j : Int} (h : Sz n i) (k : Sz m j) : Sz (n + m) (i * j) := by
  show (i * j).natAbs < 2 ^ (n + m)
  rw [Int.natAbs_mul, Nat.pow_add]
  exact Nat.mul_lt_mul'' h k
theorem Sz.add {n : Nat} {i j : Int} (h : Sz n i) (k : Sz n j) : Sz (n + 1) (i + j) := by
  have h1 : i.natAbs < 2 ^ n := h
  have h2 : j.natAbs < 2 ^ n := k
  show (i + j).natAbs < 2 ^ (n + 1)
  rw [Nat.pow_succ]
  omega
theorem Sz.neg {n : Nat} {i : Int} (h : Sz n i) : Sz n (-i) := by
  have h1 : i.natAbs < 2 ^ n := h
  show (-i).natAbs < 2 ^ n
  omega
theorem Sz.sub {n : Nat} {i j : Int} (h : Sz n i) (k : Sz n j) : Sz (n + 1) (i - j) := by
  rw [Int.sub_eq_add_neg]; exact h.add k.neg
theorem Sz.le {n : Nat} {i j : Int} (h : Sz n i) (k : j.natAbs ≤ i.natAbs) : Sz n j := Nat.lt_of_le_of_lt k h
theorem Sz.log {n : Nat} {i : Int} (h : Sz n i) : i.natAbs.log2 < n + 1 := PySem.Flt.log2_lt_of (by omega) (Nat.lt_of_lt_of_le h (Nat.pow_le_pow_right (by decide) (by omega)))
theorem Sz.mulOk {n m : Nat} {i j : Int} (h : Sz n i) (k : Sz m j) (l : n + m < 999000) : MulOk i j := by
  refine .inr ?_
  have := h.log
  have := k.log
  show i.natAbs.log2 + j.natAbs.log2 < 1000000
  omega
theorem Sz.divOk {n : Nat} {i j : Int} (h : Sz n j) (h0 : 0 < j) (l : n < 8990) : DivOk i j := ⟨h0, by have := h.log; omega⟩
theorem Sz.abs {n : Nat} {i : Int} (h : Sz n i) : Sz n (if i < 0 then -i else i) := h.le (by split <;> omega)

/-! ## fractions: a Rat, as a pair -/
def fD (x : Rat) : D := .tuple [.int x.num, .int (x.den : Int)]
def Szr (n : Nat) (x : Rat) : Prop := Sz n x.num ∧ Sz n (x.den : Int)
theorem Szr.mono {n m : Nat} {x : Rat} (h : Szr n x) (l : n ≤ m) : Szr m x := ⟨h.1.mono l, h.2.mono l⟩
theorem Szr.of {n : Nat} {a b : Int} (ha : Sz n a) (hb : Sz n b) (h0 : b ≠ 0) : Szr n (Rat.divInt a b) := by
  constructor
  · rw [Rat.num_divInt]
    refine ha.le (Nat.le_trans (Int.natAbs_ediv_le_natAbs _ _) ?_)
    rw [Int.natAbs_mul, Int.natAbs_sign_of_ne_zero h0, Nat.one_mul]
    exact Nat.le_refl _
  · rw [Rat.den_divInt, if_neg h0]
    refine hb.le ?_
    rw [Int.natAbs_natCast]
    exact Nat.div_le_self _ _
theorem add_dv (x y : Rat) : x + y = Rat.divInt (x.num * y.den + y.num * x.den) (x.den * y.den) := by
  rw [Rat.add_def', ← Rat.divInt_ofNat, Int.natCast_mul]
theorem sub_dv (x y : Rat) : x - y = Rat.divInt (x.num * y.den - y.num * x.den) (x.den * y.den) := by
  rw [Rat.sub_def', ← Rat.divInt_ofNat, Int.natCast_mul]
theorem mul_dv (x y : Rat) : x * y = Rat.divInt (x.num * y.num) (x.den * y.den) := by
  rw [Rat.mul_def', ← Rat.divInt_ofNat, Int.natCast_mul]
theorem den_ne (x : Rat) : (x.den : Int) ≠ 0 := by have := x.den_nz; omega
theorem dd_ne (x y : Rat) : (x.den * y.den : Int) ≠ 0 := Int.mul_ne_zero (den_ne x) (den_ne y)
theorem Szr.add {n m : Nat} {x y : Rat} (h : Szr n x) (k : Szr m y) : Szr (n + m + 1) (x + y) := by
  rw [add_dv]
  exact Szr.of (Sz.add (h.1.mul k.2) ((k.1.mul h.2).mono (by omega))) ((h.2.mul k.2).mono (by omega)) (dd_ne x y)
theorem Szr.sub {n m : Nat} {x y : Rat} (h : Szr n x) (k : Szr m y) : Szr (n + m + 1) (x - y) := by
  rw [sub_dv]
  exact Szr.of (Sz.sub (h.1.mul k.2) ((k.1.mul h.2).mono (by omega))) ((h.2.mul k.2).mono (by omega)) (dd_ne x y)
theorem Szr.mul {n m : Nat} {x y : Rat} (h : Szr n x) (k : Szr m y) : Szr (n + m) (x * y) := by
  rw [mul_dv]
  exact Szr.of (h.1.mul k.1) (h.2.mul k.2) (dd_ne x y)

/-! ## the program's fractions -/
def b_common_divisor : DTS :=
  (sSeq (sPar 0 1 (aCons (eCall pAbs (aCons (eVar 0) aNil)) (aCons (eCall pAbs (aCons (eVar 1) aNil)) aNil)))
  (sSeq (sWhile (tBl (eOp2 pGt (eVar 1) (eC (.int 0)))) (sPar 0 1 (aCons (eVar 1) (aCons (eOp2 pMod (eVar 0) (eVar 1)) aNil))))
  (sRet (eVar 0))))
def b_fraction (sp_common_divisor : DSp) : DTS :=
  (sSeq (sIf (tBl (eOp2 pLt (eVar 1) (eC (.int 0)))) (sPar 0 1 (aCons (eOp1 pNeg (eVar 0)) (aCons (eOp1 pNeg (eVar 1)) aNil))) sNext)
  (sSeq (sSet 2 (eCallF 2 sp_common_divisor (cCons (eVar 0) (cCons (eVar 1) cNil))))
  (sRet (eTup (aCons (eOp2 pDiv (eVar 0) (eVar 2)) (aCons (eOp2 pDiv (eVar 1) (eVar 2)) aNil))))))
def b_plus (sp_fraction : DSp) : DTS :=
  (sRet (eCallF 2 sp_fraction (cCons (eOp2 pAdd (eOp2 pMul (eIxV 0 (eC (.int 0))) (eIxV 1 (eC (.int 1)))) (eOp2 pMul (eIxV 1 (eC (.int 0))) (eIxV 0 (eC (.int 1))))) (cCons (eOp2 pMul (eIxV 0 (eC (.int 1))) (eIxV 1 (eC (.int 1)))) cNil))))
def b_minus (sp_fraction : DSp) : DTS :=
  (sRet (eCallF 2 sp_fraction (cCons (eOp2 pSub (eOp2 pMul (eIxV 0 (eC (.int 0))) (eIxV 1 (eC (.int 1)))) (eOp2 pMul (eIxV 1 (eC (.int 0))) (eIxV 0 (eC (.int 1))))) (cCons (eOp2 pMul (eIxV 0 (eC (.int 1))) (eIxV 1 (eC (.int 1)))) cNil))))
def b_times (sp_fraction : DSp) : DTS :=
  (sRet (eCallF 2 sp_fraction (cCons (eOp2 pMul (eIxV 0 (eC (.int 0))) (eIxV 1 (eC (.int 0)))) (cCons (eOp2 pMul (eIxV 0 (eC (.int 1))) (eIxV 1 (eC (.int 1)))) cNil))))
def b_before : DTS :=
  (sRet (eOp2 pLt (eOp2 pMul (eIxV 0 (eC (.int 0))) (eIxV 1 (eC (.int 1)))) (eOp2 pMul (eIxV 1 (eC (.int 0))) (eIxV 0 (eC (.int 1))))))
def sp_common_divisor : DSp := fun cs post => ∃ a b : Int, cs = [.sh (.int a), .sh (.int b)] ∧ post (.sh (.int (Int.gcd a b : Nat))) []
def sp_fraction : DSp := fun cs post => ∃ a b : Int, cs = [.sh (.int a), .sh (.int b)] ∧ b ≠ 0 ∧ Sz 8900 b ∧ post (.sh (fD (Rat.divInt a b))) []
def sp_plus : DSp := fun cs post => ∃ x y : Rat, cs = [.sh (fD x), .sh (fD y)] ∧ Szr 4000 x ∧ Szr 4000 y ∧ post (.sh (fD (x + y))) []
def sp_minus : DSp := fun cs post => ∃ x y : Rat, cs = [.sh (fD x), .sh (fD y)] ∧ Szr 4000 x ∧ Szr 4000 y ∧ post (.sh (fD (x - y))) []
def sp_times : DSp := fun cs post => ∃ x y : Rat, cs = [.sh (fD x), .sh (fD y)] ∧ Szr 4000 x ∧ Szr 4000 y ∧ post (.sh (fD (x * y))) []
def sp_before : DSp := fun cs post => ∃ x y : Rat, cs = [.sh (fD x), .sh (fD y)] ∧ Szr 4000 x ∧ Szr 4000 y ∧ post (.sh (.bool (decide (x < y)))) []
theorem gcd_abs (a b : Int) : Int.gcd (if a < 0 then -a else a) (if b < 0 then -b else b) = Int.gcd a b := by
  split <;> split <;> simp [Int.gcd]
theorem gcd_step {c d : Int} (hc : 0 ≤ c) (hd : 0 ≤ d) : Int.gcd d (c % d) = Int.gcd c d := by
  obtain ⟨m, rfl⟩ := Int.eq_ofNat_of_zero_le hc
  obtain ⟨n, rfl⟩ := Int.eq_ofNat_of_zero_le hd
  rw [← Int.natCast_emod]
  show Nat.gcd n (m % n) = Nat.gcd m n
  rw [Nat.gcd_comm, ← Nat.gcd_rec, Nat.gcd_comm]
theorem p_common_divisor (cs post) (h : sp_common_divisor cs post) : runD 2 b_common_divisor cs post := by
  obtain ⟨a, b, rfl, q⟩ := h
  refine ⟨fun m r => ∃ c d : Int, r = [some (.sh (.int c)), some (.sh (.int d))] ∧ 0 ≤ c ∧ 0 ≤ d ∧ m = d.toNat ∧ Int.gcd c d = Int.gcd a b, ⟨_, _, _, rfl, ?_, ?_, rfl, gcd_abs a b⟩, ?_⟩
  · split <;> omega
  · split <;> omega
  · rintro m r ⟨c, d, rfl, hc, hd, hm, hg⟩
    refine ifD (fun h => ?_) (fun h => ?_)
    · have m1 := Int.emod_lt_of_pos c h
      have m0 := Int.emod_nonneg c (show d ≠ 0 by omega)
      exact ⟨h, (c % d).toNat, by omega, d, c % d, rfl, hd, m0, rfl, by rw [gcd_step hc hd]; exact hg⟩
    · have : d = 0 := by omega
      subst this
      have e : c = ((Int.gcd a b : Nat) : Int) := by
        rw [← hg, Int.gcd_zero]; omega
      rw [e]
      exact q
theorem p_fraction (cs post) (h : sp_fraction cs post) : runD 3 (b_fraction sp_common_divisor) cs post := by
  obtain ⟨a, b, rfl, h0, hs, q⟩ := h
  have hg : ∀ {c d : Int}, d ≠ 0 → Sz 8900 d → 0 < ((Int.gcd c d : Nat) : Int) ∧ Sz 8900 ((Int.gcd c d : Nat) : Int) := fun {c d} h h2 => by
    have h1 : 0 < Int.gcd c d := Int.gcd_pos_of_ne_zero_right _ h
    exact ⟨by omega, h2.le (by rw [Int.natAbs_natCast]; exact Nat.le_of_dvd (by omega) (Int.gcd_dvd_natAbs_right c d))⟩
  refine ifD (fun h => ?_) (fun h => ?_)
  · obtain ⟨g1, g2⟩ := hg (c := -a) (d := -b) (by omega) hs.neg
    refine ⟨rfl, .nil, _, _, rfl, g2.divOk g1 (by decide), g2.divOk g1 (by decide), ?_⟩
    have e : fD (Rat.divInt a b) = .tuple [.int (-a / ((Int.gcd (-a) (-b) : Nat) : Int)), .int (-b / ((Int.gcd (-a) (-b) : Nat) : Int))] := by
      unfold fD
      rw [← Rat.neg_divInt_neg, Rat.num_divInt, Rat.den_divInt, if_neg (by omega), Int.sign_eq_one_of_pos (by omega), Int.one_mul, Int.gcd_comm (-b), Int.natCast_ediv, Int.natAbs_of_nonneg (by omega)]
    rw [e] at q
    exact ⟨(by decide : 2 ≤ sizeLine), q⟩
  · obtain ⟨g1, g2⟩ := hg (c := a) (d := b) (by omega) hs
    refine ⟨rfl, .nil, _, _, rfl, g2.divOk g1 (by decide), g2.divOk g1 (by decide), ?_⟩
    have e : fD (Rat.divInt a b) = .tuple [.int (a / ((Int.gcd a b : Nat) : Int)), .int (b / ((Int.gcd a b : Nat) : Int))] := by
      unfold fD
      rw [Rat.num_divInt, Rat.den_divInt, if_neg (by omega), Int.sign_eq_one_of_pos (by omega), Int.one_mul, Int.gcd_comm b, Int.natCast_ediv, Int.natAbs_of_nonneg (by omega)]
    rw [e] at q
    exact ⟨(by decide : 2 ≤ sizeLine), q⟩
theorem p_plus (cs post) (h : sp_plus cs post) : runD 2 (b_plus sp_fraction) cs post := by
  obtain ⟨x, y, rfl, hx, hy, q⟩ := h
  rw [add_dv] at q
  exact ⟨hx.1.mulOk hy.2 (by decide), hy.1.mulOk hx.2 (by decide), hx.2.mulOk hy.2 (by decide), rfl, .nil, _, _, rfl, dd_ne x y, (hx.2.mul hy.2).mono (by decide), q⟩
theorem p_minus (cs post) (h : sp_minus cs post) : runD 2 (b_minus sp_fraction) cs post := by
  obtain ⟨x, y, rfl, hx, hy, q⟩ := h
  rw [sub_dv] at q
  exact ⟨hx.1.mulOk hy.2 (by decide), hy.1.mulOk hx.2 (by decide), hx.2.mulOk hy.2 (by decide), rfl, .nil, _, _, rfl, dd_ne x y, (hx.2.mul hy.2).mono (by decide), q⟩
theorem p_times (cs post) (h : sp_times cs post) : runD 2 (b_times sp_fraction) cs post := by
  obtain ⟨x, y, rfl, hx, hy, q⟩ := h
  rw [mul_dv] at q
  exact ⟨hx.1.mulOk hy.1 (by decide), hx.2.mulOk hy.2 (by decide), rfl, .nil, _, _, rfl, dd_ne x y, (hx.2.mul hy.2).mono (by decide), q⟩
theorem p_before (cs post) (h : sp_before cs post) : runD 2 b_before cs post := by
  obtain ⟨x, y, rfl, hx, hy, q⟩ := h
  rw [decide_eq_decide.2 (Rat.lt_iff x y)] at q
  exact ⟨hx.1.mulOk hy.2 (by decide), hy.1.mulOk hx.2 (by decide), q⟩
end DL
namespace DL
open PySem PySem.Spec PyProof.Rows L2
theorem eqv_fD (x y : Rat) : PyData.eqv (fD x) (fD y) = decide (x = y) := by
  have e : PyData.eqv (fD x) (fD y) = ((x.num == y.num) && (((x.den : Int) == (y.den : Int)) && true)) := by
    simp [fD, PyData.eqv, PyData.eqvAll]
  rw [e]
  by_cases h : x = y
  · subst h; simp
  · rw [decide_eq_false h]
    by_cases h1 : x.num = y.num
    · have h2 : ¬ (x.den : Int) = (y.den : Int) := fun h2 => h (Rat.ext h1 (by omega))
      simp only [beq_eq_false_iff_ne.2 h2, Bool.and_false, Bool.false_and]
    · simp only [beq_eq_false_iff_ne.2 h1, Bool.false_and]
theorem eqv_fD_self (x : Rat) : PyData.eqv (fD x) (fD x) = true := by rw [eqv_fD]; simp
end DL
namespace DL
theorem dv_cross {a b : Int} (h : b ≠ 0) : (Rat.divInt a b).num * b = a * ((Rat.divInt a b).den : Int) :=
  (Rat.divInt_eq_divInt_iff (den_ne _) h).1 (Rat.num_divInt_den _)
end DL
namespace DL
def b_law_divisor : DTS :=
  (sSeq (sPar 0 1 (aCons (eCall pAbs (aCons (eVar 0) aNil)) (aCons (eCall pAbs (aCons (eVar 1) aNil)) aNil)))
  (sSeq (sWhile (tAn (tBl (eOp2 pGt (eVar 0) (eC (.int 0)))) (tBl (eOp2 pGt (eVar 1) (eC (.int 0))))) (sSeq (sIf (tBl (eOp2 pLt (eVar 0) (eVar 1))) (sPar 0 1 (aCons (eVar 1) (aCons (eVar 0) aNil))) sNext)
  (sSet 0 (eOp2 pMod (eVar 0) (eVar 1)))))
  (sRet (eOp2 pAdd (eVar 0) (eVar 1)))))
theorem p_law_divisor (cs post) (h : sp_common_divisor cs post) : runD 2 b_law_divisor cs post := by
  obtain ⟨a, b, rfl, q⟩ := h
  refine ⟨fun m r => ∃ c d : Int, r = [some (.sh (.int c)), some (.sh (.int d))] ∧ 0 ≤ c ∧ 0 ≤ d ∧ m = (c + d).toNat ∧ Int.gcd c d = Int.gcd a b, ⟨_, _, _, rfl, ?_, ?_, rfl, gcd_abs a b⟩, ?_⟩
  · split <;> omega
  · split <;> omega
  · rintro m r ⟨c, d, rfl, hc, hd, hm, hg⟩
    have done : (c = 0 ∨ d = 0) → c + d = ((Int.gcd a b : Nat) : Int) := by
      rintro (rfl | rfl)
      · rw [← hg, Int.gcd_comm, Int.gcd_zero]; omega
      · rw [← hg, Int.gcd_zero]; omega
    refine ifD (fun h => ?_) (fun h => ?_)
    · refine ifD (fun h2 => ?_) (fun h2 => ?_)
      · refine ifD (fun h3 => ?_) (fun h3 => ?_)
        · have m1 := Int.emod_lt_of_pos d h
          have m0 := Int.emod_nonneg d (show c ≠ 0 by omega)
          exact ⟨h, (d % c + c).toNat, by omega, d % c, c, rfl, m0, by omega, rfl, by rw [Int.gcd_comm, gcd_step hd hc, Int.gcd_comm]; exact hg⟩
        · have m1 := Int.emod_lt_of_pos c h2
          have m0 := Int.emod_nonneg c (show d ≠ 0 by omega)
          exact ⟨h2, (c % d + d).toNat, by omega, c % d, d, rfl, m0, by omega, rfl, by rw [Int.gcd_comm, gcd_step hc hd]; exact hg⟩
      · have e := done (by omega)
        rw [← e] at q
        exact q
    · have e := done (by omega)
      rw [← e] at q
      exact q

end DL
end

section
set_option Elab.async false
set_option linter.all false
set_option maxRecDepth 100000
namespace DL
open PySem PySem.Spec PyProof.Rows L2

/-! ## rows of bits -/
def bD (bs : List Int) : D := .tuple (bs.map PyData.int)
def Bits (bs : List Int) : Prop := ∀ b ∈ bs, b = 0 ∨ b = 1
theorem Bits.nil : Bits [] := fun _ h => by cases h
theorem Bits.app {as bs : List Int} (h : Bits as) (k : Bits bs) : Bits (as ++ bs) := fun b m => by
  rcases List.mem_append.1 m with m | m
  · exact h b m
  · exact k b m
theorem Bits.one {b : Int} (h : b = 0 ∨ b = 1) : Bits [b] := fun c m => by rw [List.mem_singleton.1 m]; exact h
theorem Bits.rep {n : Nat} {b : Int} (h : b = 0 ∨ b = 1) : Bits (List.replicate n b) := fun c m => by rw [List.eq_of_mem_replicate m]; exact h
theorem rep_int (n : Nat) (b : Int) : (List.replicate n [PyData.int b]).flatten = (List.replicate n b).map PyData.int := by
  induction n with
  | zero => rfl
  | succ n ih => rw [List.replicate_succ, List.flatten_cons, ih]; rfl
theorem line_big : (2 : Nat) ^ 24 ≤ sizeLine := by decide
def b_row_a (sp_law_take : DSp) : DTS :=
  (sSeq (sSet 2 (eCallF 2 sp_law_take (cIo 0 (cCons (eC (.int 8)) cNil))))
  (sSeq (sIf (tBl (eOp2 pLt (eVar 2) (eC (.int 3)))) (sRet (eCall pTup (aCons (eFrz (oComp true [6] (iR1 (aCons (eVar 1) aNil)) tYesD (eCallF 2 sp_law_take (cIo 0 (cCons (eC (.int 2)) cNil))))) aNil))) sNext)
  (sSeq (sIf (tBl (eOp2 pEq (eVar 2) (eC (.int 3)))) (sRet (eOp2 pMul (eTup (aCons (eCallF 2 sp_law_take (cIo 0 (cCons (eC (.int 2)) cNil))) aNil)) (eVar 1))) sNext)
  (sSeq (sAsg (eTup (aCons (eCallF 2 sp_law_take (cIo 0 (cCons (eOp2 pAdd (eVar 1) (eC (.int 1))) cNil))) (aCons (eOp2 pAdd (eC (.int 1)) (eCallF 2 sp_law_take (cIo 0 (cCons (eVar 1) cNil)))) (aCons (eCallF 2 sp_law_take (cIo 0 (cCons (eVar 1) cNil))) aNil)))) (gTp' 3 (gsCons (gNm 3) (gsCons (gNm 4) (gsCons (gNm 5) gsNil)))))
  (sSeq (sIf (tBl (eOp2 pEq (eVar 2) (eC (.int 4)))) (sRet (eOp2 pAdd (eOp2 pMul (eTup (aCons (eC (.int 1)) aNil)) (eVar 3)) (eOp2 pMul (eTup (aCons (eC (.int 0)) aNil)) (eOp2 pSub (eVar 1) (eVar 3))))) sNext)
  (sSeq (sIf (tBl (eOp2 pEq (eVar 2) (eC (.int 5)))) (sRet (eOp2 pAdd (eOp2 pMul (eTup (aCons (eC (.int 0)) aNil)) (eOp2 pSub (eVar 1) (eVar 3))) (eOp2 pMul (eTup (aCons (eC (.int 1)) aNil)) (eVar 3)))) sNext)
  (sSeq (sIf (tBl (eOp2 pEq (eVar 2) (eC (.int 6)))) (sRet (eCall pTup (aCons (eFrz (oComp true [6] (iR1 (aCons (eVar 1) aNil)) tYesD (eCall pInt (aCons (eOp2 pLt (eOp2 pMod (eOp2 pAdd (eVar 5) (eOp2 pMul (eVar 4) (eVar 6))) (eVar 1)) (eVar 3)) aNil)))) aNil))) sNext)
  (sRet (eCall pTup (aCons (eFrz (oComp true [6] (iR1 (aCons (eVar 1) aNil)) tYesD (eCall pInt (aCons (eOp2 pEq (eCallF 2 sp_law_take (cIo 0 (cCons (eC (.int 9)) cNil))) (eC (.int 0))) aNil)))) aNil))))))))))
def sp_row_a : DSp := fun cs post => ∃ (m : M) (k n : Int), cs = [.io m, .sh (.int n)] ∧ Box k m ∧ 1 ≤ n ∧ n < 2 ^ 22 ∧ k + n + 5 < farB ∧ ∀ bs m', (bs.length : Int) = n → Bits bs → Box (k + n + 5) m' → post (.sh (bD bs)) [m']
theorem bit_of {v : Int} (h0 : 0 ≤ v) (h1 : v < 2) : v = 0 ∨ v = 1 := by omega
theorem p_row_a (cs post) (h : sp_row_a cs post) : runD 7 (b_row_a sp_take) cs post := by
  obtain ⟨m, k, n, rfl, hb, hn1, hn2, hk, q⟩ := h
  have hf : farB = 1099511627776 := by decide
  have hl : n.toNat ≤ sizeLine := Nat.le_trans (by omega : n.toNat ≤ 2 ^ 24) line_big
  refine ⟨rfl, rfl, nd1 0, m, k, 8, rfl, hb, by omega, by decide, by decide, fun way m1 a1 z1 b1 => ?_⟩
  refine ifD (fun h => ?_) (fun h => ?_)
  · refine ⟨by omega, by omega, by rw [rngD_len]; exact hl, ?_⟩
    refine comp_inv (fun t acc r => ∃ (bs : List Int) (m2 : M), acc = bs.map PyData.int ∧ Bits bs ∧ (bs.length + t.length : Int) = n ∧ Box (k + 1 + bs.length) m2 ∧ r = [some (.io m2), some (.sh (.int n)), some (.sh (.int way)), none, none, none, none]) ?_ ?_ _ _ _ ⟨[], m1, rfl, Bits.nil, ?_, ?_, rfl⟩
    · rintro d t acc r N ⟨bs, m2, rfl, hbs, hlen, hbox, rfl⟩ hN
      rw [List.length_cons] at hlen
      refine ⟨rfl, rfl, nd1 0, m2, _, 2, rfl, hbox, by omega, by decide, by decide, fun v m3 a3 z3 b3 => ?_⟩
      refine hN _ _ ⟨bs ++ [v], m3, by rw [List.map_append]; rfl, hbs.app (Bits.one (bit_of a3 z3)), by rw [List.length_append, List.length_singleton]; omega, ?_, rfl⟩
      rw [List.length_append, List.length_singleton]
      exact b3.le (by omega)
    · rintro acc r ⟨bs, m2, rfl, hbs, hlen, hbox, rfl⟩
      rw [List.length_nil] at hlen
      exact q bs m2 (by omega) hbs (hbox.le (by omega))
    · rw [rngD_len, List.length_nil]; omega
    · exact b1.le (by simp)
  · refine ifD (fun h => ?_) (fun h => ?_)
    · refine ⟨rfl, rfl, nd1 0, m1, _, 2, rfl, b1, by omega, by decide, by decide, fun v m2 a2 z2 b2 => ?_⟩
      refine ⟨sz1, ⟨by omega, by omega, ?_⟩, ?_⟩
      · show 1 * n.toNat ≤ sizeLine
        omega
      have e := rep_int n.toNat v
      have q' := q (List.replicate n.toNat v) m2 (by rw [List.length_replicate]; omega) (Bits.rep (bit_of a2 z2)) (b2.le (by omega))
      unfold bD at q'
      rw [← e] at q'
      exact q'
    · refine ⟨rfl, rfl, nd1 0, m1, _, n + 1, rfl, b1, by omega, by omega, by omega, fun c m2 a2 z2 b2 => ?_⟩
      refine ⟨rfl, rfl, nd1 0, m2, _, n, rfl, b2, by omega, by omega, by omega, fun st m3 a3 z3 b3 => ?_⟩
      refine ⟨rfl, rfl, nd1 0, m3, _, n, rfl, b3, by omega, by omega, by omega, fun f m4 a4 z4 b4 => ?_⟩
      refine ⟨sz3, rfl, ?_⟩
      have b5 := b4.le (show k + 1 + 1 + 1 + 1 ≤ k + n + 5 by omega)
      have two : ∀ (x y : Int) (u v : Nat), (x = 0 ∨ x = 1) → (y = 0 ∨ y = 1) → (u + v : Int) = n → (List.replicate u [PyData.int x]).flatten.length + (List.replicate v [PyData.int y]).flatten.length ≤ sizeLine ∧ post (.sh (.tuple ((List.replicate u [PyData.int x]).flatten ++ (List.replicate v [PyData.int y]).flatten))) [m4] := fun x y u v hx hy e => by
        rw [rep_int, rep_int]
        refine ⟨by rw [List.length_map, List.length_map, List.length_replicate, List.length_replicate]; omega, ?_⟩
        have q' := q (List.replicate u x ++ List.replicate v y) m4 (by rw [List.length_append, List.length_replicate, List.length_replicate]; omega) ((Bits.rep hx).app (Bits.rep hy)) b5
        unfold bD at q'
        rw [List.map_append] at q'
        exact q'
      have len1 : ∀ w : Int, w ≤ n → 1 * w.toNat ≤ sizeLine := fun w hw => by omega
      refine ifD (fun h => ?_) (fun h => ?_)
      · exact ⟨sz1, ⟨by omega, by omega, len1 c (by omega)⟩, sz1, ⟨by omega, by omega, len1 (n - c) (by omega)⟩, two 1 0 c.toNat (n - c).toNat (.inr rfl) (.inl rfl) (by omega)⟩
      · refine ifD (fun h => ?_) (fun h => ?_)
        · exact ⟨sz1, ⟨by omega, by omega, len1 (n - c) (by omega)⟩, sz1, ⟨by omega, by omega, len1 c (by omega)⟩, two 0 1 (n - c).toNat c.toNat (.inl rfl) (.inr rfl) (by omega)⟩
        · refine ifD (fun h => ?_) (fun h => ?_)
          · refine ⟨by omega, by omega, by rw [rngD_len]; exact hl, ?_⟩
            refine comp_inv (fun t acc r => ∃ (bs : List Int), acc = bs.map PyData.int ∧ Bits bs ∧ (bs.length + t.length : Int) = n ∧ (∀ d ∈ t, ∃ j : Int, d = .int j ∧ 0 ≤ j ∧ j < n) ∧ r = [some (.io m4), some (.sh (.int n)), some (.sh (.int way)), some (.sh (.int c)), some (.sh (.int (1 + st))), some (.sh (.int f)), none]) ?_ ?_ _ _ _ ⟨[], rfl, Bits.nil, ?_, ?_, rfl⟩
            · rintro d t acc r N ⟨bs, rfl, hbs, hlen, hd, rfl⟩ hN
              rw [List.length_cons] at hlen
              obtain ⟨j, rfl, hj0, hj1⟩ := hd d List.mem_cons_self
              refine ⟨MulOk.right (by omega), by omega, ?_⟩
              refine hN _ _ ⟨bs ++ [_], by rw [List.map_append]; rfl, hbs.app (Bits.one (b01 _)), by rw [List.length_append, List.length_singleton]; omega, fun d h => hd d (List.mem_cons_of_mem _ h), rfl⟩
            · rintro acc r ⟨bs, rfl, hbs, hlen, _, rfl⟩
              rw [List.length_nil] at hlen
              exact q bs m4 (by omega) hbs b5
            · rw [rngD_len, List.length_nil]; omega
            · intro d h
              obtain ⟨j, e, h1, h2⟩ := rng_mem _ _ _ h
              exact ⟨j, e, h1, by omega⟩
          · refine ⟨by omega, by omega, by rw [rngD_len]; exact hl, ?_⟩
            refine comp_inv (fun t acc r => ∃ (bs : List Int) (m2 : M), acc = bs.map PyData.int ∧ Bits bs ∧ (bs.length + t.length : Int) = n ∧ Box (k + 4 + bs.length) m2 ∧ r = [some (.io m2), some (.sh (.int n)), some (.sh (.int way)), some (.sh (.int c)), some (.sh (.int (1 + st))), some (.sh (.int f)), none]) ?_ ?_ _ _ _ ⟨[], m4, rfl, Bits.nil, ?_, ?_, rfl⟩
            · rintro d t acc r N ⟨bs, m2, rfl, hbs, hlen, hbox, rfl⟩ hN
              rw [List.length_cons] at hlen
              refine ⟨rfl, rfl, nd1 0, m2, _, 9, rfl, hbox, by omega, by decide, by decide, fun v m3 a3 z3 b3 => ?_⟩
              refine hN _ _ ⟨bs ++ [_], m3, by rw [List.map_append]; rfl, hbs.app (Bits.one (b01 _)), by rw [List.length_append, List.length_singleton]; omega, ?_, rfl⟩
              rw [List.length_append, List.length_singleton]
              exact b3.le (by omega)
            · rintro acc r ⟨bs, m2, rfl, hbs, hlen, hbox, rfl⟩
              rw [List.length_nil] at hlen
              exact q bs m2 (by omega) hbs (hbox.le (by omega))
            · rw [rngD_len, List.length_nil]; omega
            · exact b4.le (by simp; omega)
end DL

/-! ## how far the ones are off -/
namespace DL
open PySem PySem.Spec PyProof.Rows L2
def pre (bs : List Int) (k : Nat) : Int := (bs.take k).sum
def off (bs : List Int) (k : Nat) : Int := pre bs k * bs.length - k * bs.sum
def absI (i : Int) : Int := if i < 0 then -i else i
def offs (bs : List Int) : List Int := (List.range (bs.length + 1)).map (off bs)
def aoffs (bs : List Int) : List Int := (offs bs).map absI
theorem pre_zero (bs : List Int) : pre bs 0 = 0 := rfl
theorem pre_all (bs : List Int) : pre bs bs.length = bs.sum := by unfold pre; rw [List.take_length]
theorem pre_succ (bs : List Int) (k : Nat) (h : k < bs.length) : pre bs (k + 1) = pre bs k + bs[k] := by
  unfold pre
  rw [List.take_succ_eq_append_getElem h, List.sum_append]
  simp
theorem off_zero (bs : List Int) : off bs 0 = 0 := by unfold off; rw [pre_zero]; simp
theorem off_all (bs : List Int) : off bs bs.length = 0 := by unfold off; rw [pre_all, Int.mul_comm]; omega
theorem off_succ (bs : List Int) (k : Nat) (h : k < bs.length) : off bs (k + 1) = off bs k + bs[k] * bs.length - bs.sum := by
  unfold off
  rw [pre_succ bs k h, Int.add_mul, Int.natCast_add, Int.add_mul]
  omega
def b_ones : DTS := (sRet (eCall pSum (aCons (eVar 0) aNil)))
def b_offs_of (sp_ones : DSp) : DTS :=
  (sSeq (sPar 1 2 (aCons (eCallF 1 sp_ones (cCons (eVar 0) cNil)) (aCons (eLenV 0) aNil)))
  (sSeq (sSetO 3 (oLst (aCons (eC (.int 0)) aNil)))
  (sSeq (sFor (iAny (eVar 0)) (gNm 4) (sDrop (eMutL 3 pApp (aCons (eOp2 pSub (eOp2 pAdd (eIxV 3 (eOp1 pNeg (eC (.int 1)))) (eOp2 pMul (eVar 4) (eVar 2))) (eVar 1)) aNil))))
  (sRet (eVar 3)))))
def b_worst_part (sp_fraction : DSp) (sp_offs_of : DSp) : DTS :=
  (sSeq (sSetO 1 (oComp true [2] (iAny (eCallF 1 sp_offs_of (cCons (eVar 0) cNil))) tYesD (eCall pAbs (aCons (eVar 2) aNil))))
  (sRet (eTup (aCons (eCallF 2 sp_fraction (cCons (eCall pMaxA (aCons (eVar 1) aNil)) (cCons (eLenV 0) cNil))) (aCons (eMeth .list pIdx (eVar 1) (aCons (eCall pMaxA (aCons (eVar 1) aNil)) aNil)) aNil)))))
def sp_ones : DSp := fun cs post => ∃ bs : List Int, cs = [.sh (bD bs)] ∧ post (.sh (.int bs.sum)) []
def sp_offs_of : DSp := fun cs post => ∃ bs : List Int, cs = [.sh (bD bs)] ∧ Bits bs ∧ bs.length < 2 ^ 22 ∧ post (.sh (.list ((offs bs).map PyData.int))) []
def sp_worst_part : DSp := fun cs post => ∃ bs : List Int, cs = [.sh (bD bs)] ∧ Bits bs ∧ 0 < bs.length ∧ bs.length < 2 ^ 22 ∧ ∀ m ∈ aoffs bs, (∀ y ∈ aoffs bs, y ≤ m) → post (.sh (.tuple [fD (Rat.divInt m bs.length), .int ((aoffs bs).idxOf m : Nat)])) []
theorem p_ones (cs post) (h : sp_ones cs post) : runD 1 b_ones cs post := by
  obtain ⟨bs, rfl, q⟩ := h
  exact ⟨bs, rfl, q⟩
theorem bit_abs {bs : List Int} (h : Bits bs) {b : Int} (m : b ∈ bs) : b.natAbs < 2 ^ 64 := by
  rcases h b m with rfl | rfl <;> decide
theorem p_offs_of (cs post) (h : sp_offs_of cs post) : runD 5 (b_offs_of sp_ones) cs post := by
  obtain ⟨bs, rfl, hb, hl, q⟩ := h
  have hbig : (2 : Nat) ^ 24 ≤ sizeLine := line_big
  refine ⟨rfl, .nil, bs, rfl, sz1, ?_⟩
  have el : ((bs.map PyData.int).length : Nat) = bs.length := List.length_map _
  refine loop_inv (fun t r => ∃ (k : Nat) (c4 : Option Cell), t = (bs.drop k).map PyData.int ∧ k ≤ bs.length ∧ r = [some (.sh (bD bs)), some (.sh (.int bs.sum)), some (.sh (.int ((bs.map PyData.int).length : Nat))), some (.own (.lst (((List.range (k + 1)).map (off bs)).map PyData.int))), c4]) ?_ ?_ _ _ ?_
  · rintro d t r N ⟨k, c4, e, hk, rfl⟩ hN
    have hk2 : k < bs.length := by
      rcases Nat.lt_or_ge k bs.length with h | h
      · exact h
      · rw [List.drop_eq_nil_of_le h] at e; cases e
    rw [List.drop_eq_getElem_cons hk2, List.map_cons] at e
    cases e
    have e2 : ((List.range (k + 1)).map (off bs)).map PyData.int = ((List.range k).map (off bs)).map PyData.int ++ [PyData.int (off bs k)] := by
      rw [List.range_succ, List.map_append, List.map_append]; rfl
    refine ⟨rfl, rfl, ?_⟩
    rw [e2]
    refine optD_of (at_last _ _) ⟨MulOk.left (bit_abs hb (List.getElem_mem hk2)), ?_, ?_⟩
    · rw [← e2, List.length_map, List.length_map, List.length_range]; omega
    · refine hN _ ⟨k + 1, some (.sh (.int bs[k])), rfl, by omega, ?_⟩
      have e3 : ((List.range (k + 1 + 1)).map (off bs)).map PyData.int = ((List.range (k + 1)).map (off bs)).map PyData.int ++ [PyData.int (off bs (k + 1))] := by
        rw [List.range_succ, List.map_append, List.map_append]; rfl
      rw [e3, e2, off_succ bs k hk2, el]
      rfl
  · rintro r ⟨k, c4, e, hk, rfl⟩
    have hk2 : k = bs.length := by
      rcases Nat.lt_or_ge k bs.length with h | h
      · rw [List.drop_eq_getElem_cons h] at e; cases e
      · omega
    subst hk2
    exact q
  · refine ⟨0, none, rfl, by omega, ?_⟩
    have : ((List.range (0 + 1)).map (off bs)).map PyData.int = [.int 0] := by
      show [PyData.int (off bs 0)] = _
      rw [off_zero]
    rw [this]
theorem aoffs_len (bs : List Int) : (aoffs bs).length = bs.length + 1 := by unfold aoffs offs; rw [List.length_map, List.length_map, List.length_range]
theorem Szl {n : Nat} {k : Nat} (h : k < 2 ^ n) : Sz n (k : Int) := by show (k : Int).natAbs < 2 ^ n; rw [Int.natAbs_natCast]; exact h
theorem p_worst_part (cs post) (h : sp_worst_part cs post) : runD 3 (b_worst_part sp_fraction sp_offs_of) cs post := by
  obtain ⟨bs, rfl, hb, hl0, hl, q⟩ := h
  have hbig : (2 : Nat) ^ 24 ≤ sizeLine := line_big
  refine ⟨rfl, .nil, bs, rfl, hb, hl, by rw [List.length_map]; unfold offs; rw [List.length_map, List.length_range]; omega, ?_⟩
  have el : ((bs.map PyData.int).length : Nat) = bs.length := List.length_map _
  refine comp_inv (fun t acc r => ∃ (k : Nat), t = ((offs bs).drop k).map PyData.int ∧ k ≤ (offs bs).length ∧ acc = (((offs bs).take k).map absI).map PyData.int ∧ r = [some (.sh (bD bs)), none, none]) ?_ ?_ _ _ _ ⟨0, rfl, by omega, rfl, rfl⟩
  · rintro d t acc r N ⟨k, e, hk, rfl, rfl⟩ hN
    have hk2 : k < (offs bs).length := by
      rcases Nat.lt_or_ge k (offs bs).length with h | h
      · exact h
      · rw [List.drop_eq_nil_of_le h] at e; cases e
    rw [List.drop_eq_getElem_cons hk2, List.map_cons] at e
    cases e
    refine hN _ _ ⟨k + 1, rfl, by omega, ?_, rfl⟩
    rw [List.take_succ_eq_append_getElem hk2, List.map_append, List.map_append]
    rfl
  · rintro acc r ⟨k, e, hk, rfl, rfl⟩
    have hk2 : k = (offs bs).length := by
      rcases Nat.lt_or_ge k (offs bs).length with h | h
      · rw [List.drop_eq_getElem_cons h] at e; cases e
      · omega
    subst hk2
    rw [List.take_length]
    have hpos : 0 < (aoffs bs).length := by rw [aoffs_len]; omega
    refine ⟨aoffs bs, rfl, hpos, fun m hm hy => ?_⟩
    have hne : ((bs.map PyData.int).length : Int) ≠ 0 := by rw [el]; omega
    have hsz : Sz 8900 ((bs.map PyData.int).length : Int) := by rw [el]; exact (Szl hl).mono (by decide)
    refine ⟨rfl, .nil, m, _, rfl, hne, hsz, rfl, aoffs bs, rfl, hpos, fun m2 hm2 hy2 => ?_⟩
    have e2 : m2 = m := by
      have := hy _ hm2
      have := hy2 _ hm
      omega
    subst e2
    refine ⟨aoffs bs, rfl, hm, sz2, ?_⟩
    have q' := q m2 hm hy
    rw [← el] at q'
    exact q'
def b_lowest : DTS :=
  (sSeq (sPar 2 3 (aCons (eVar 0) (aCons (eVar 1) aNil)))
  (sSeq (sWhile (tBl (eOp2 pGt (eVar 3) (eC (.int 0)))) (sPar 2 3 (aCons (eVar 3) (aCons (eOp2 pMod (eVar 2) (eVar 3)) aNil))))
  (sRet (eTup (aCons (eOp2 pDiv (eVar 0) (eVar 2)) (aCons (eOp2 pDiv (eVar 1) (eVar 2)) aNil))))))
def sp_lowest : DSp := fun cs post => ∃ a b : Int, cs = [.sh (.int a), .sh (.int b)] ∧ 0 ≤ a ∧ 0 < b ∧ Sz 8900 b ∧ post (.sh (fD (Rat.divInt a b))) []
theorem fD_dv {a b : Int} (h : 0 < b) : fD (Rat.divInt a b) = .tuple [.int (a / ((Int.gcd a b : Nat) : Int)), .int (b / ((Int.gcd a b : Nat) : Int))] := by
  unfold fD
  rw [Rat.num_divInt, Rat.den_divInt, if_neg (by omega), Int.sign_eq_one_of_pos (by omega), Int.one_mul, Int.gcd_comm b, Int.natCast_ediv, Int.natAbs_of_nonneg (by omega)]
theorem p_lowest (cs post) (h : sp_lowest cs post) : runD 4 b_lowest cs post := by
  obtain ⟨a, b, rfl, ha, hb, hs, q⟩ := h
  rw [fD_dv hb] at q
  refine ⟨fun m r => ∃ c d : Int, r = [some (.sh (.int a)), some (.sh (.int b)), some (.sh (.int c)), some (.sh (.int d))] ∧ 0 ≤ c ∧ 0 ≤ d ∧ m = d.toNat ∧ Int.gcd c d = Int.gcd a b, ⟨_, a, b, rfl, ha, by omega, rfl, rfl⟩, ?_⟩
  rintro m r ⟨c, d, rfl, hc, hd, hm, hg⟩
  refine ifD (fun h => ?_) (fun h => ?_)
  · have m1 := Int.emod_lt_of_pos c h
    have m0 := Int.emod_nonneg c (show d ≠ 0 by omega)
    exact ⟨h, (c % d).toNat, by omega, d, c % d, rfl, hd, m0, rfl, by rw [gcd_step hc hd]; exact hg⟩
  · have : d = 0 := by omega
    subst this
    have e : c = ((Int.gcd a b : Nat) : Int) := by
      rw [← hg, Int.gcd_zero]; omega
    have g0 : 0 < Int.gcd a b := Int.gcd_pos_of_ne_zero_right _ (by omega)
    have g1 : Sz 8900 ((Int.gcd a b : Nat) : Int) := hs.le (by rw [Int.natAbs_natCast]; exact Nat.le_of_dvd (by omega) (Int.gcd_dvd_natAbs_right a b))
    rw [← e] at q g1
    exact ⟨g1.divOk (by omega) (by decide), g1.divOk (by omega) (by decide), sz2, q⟩
theorem bits_sum : ∀ {bs : List Int}, Bits bs → 0 ≤ bs.sum ∧ bs.sum ≤ bs.length
  | [], _ => ⟨by decide, by decide⟩
  | b :: bs, h => by
    have h1 := h b List.mem_cons_self
    have h2 := bits_sum (bs := bs) fun c m => h c (List.mem_cons_of_mem _ m)
    rw [List.sum_cons, List.length_cons]
    omega
theorem Bits.take {bs : List Int} (h : Bits bs) (k : Nat) : Bits (bs.take k) := fun b m => h b (List.mem_of_mem_take m)
theorem Bits.drop {bs : List Int} (h : Bits bs) (k : Nat) : Bits (bs.drop k) := fun b m => h b (List.mem_of_mem_drop m)
theorem pre_ends {bs : List Int} (h : Bits bs) {k : Nat} (hk : k ≤ bs.length) : ∃ p d : Int, pre bs k = p ∧ bs.sum = p + d ∧ 0 ≤ p ∧ p ≤ k ∧ 0 ≤ d ∧ d ≤ bs.length - k := by
  have h1 := bits_sum (h.take k)
  have h2 := bits_sum (h.drop k)
  rw [List.length_take] at h1
  rw [List.length_drop] at h2
  refine ⟨(bs.take k).sum, (bs.drop k).sum, rfl, ?_, h1.1, by omega, h2.1, by omega⟩
  have := congrArg List.sum (List.take_append_drop k bs)
  rw [List.sum_append] at this
  exact this.symm
theorem absI_le {i m : Int} (h1 : i ≤ m) (h2 : -i ≤ m) : absI i ≤ m := by unfold absI; split <;> omega
theorem sq_nn (x : Int) : 0 ≤ x * x := by
  rcases Int.le_total 0 x with h | h
  · exact Int.mul_nonneg h h
  · have := Int.mul_nonneg (show 0 ≤ -x by omega) (show 0 ≤ -x by omega)
    rw [Int.neg_mul_neg] at this
    exact this
theorem off_most {bs : List Int} (h : Bits bs) {k : Nat} (hk : k ≤ bs.length) : 4 * absI (off bs k) ≤ bs.length * bs.length := by
  obtain ⟨p, d, e1, e2, p0, p1, d0, d1⟩ := pre_ends h hk
  have e : off bs k = p * (bs.length - k) - k * d := by
    unfold off
    rw [e1, e2]
    grind
  have a1 : 0 ≤ (k : Int) * d := Int.mul_nonneg (by omega) d0
  have a2 : 0 ≤ p * ((bs.length : Int) - k) := Int.mul_nonneg p0 (by omega)
  have a3 : p * ((bs.length : Int) - k) ≤ k * ((bs.length : Int) - k) := Int.mul_le_mul_of_nonneg_right p1 (by omega)
  have a4 : (k : Int) * d ≤ k * ((bs.length : Int) - k) := Int.mul_le_mul_of_nonneg_left d1 (by omega)
  have a5 : absI (off bs k) ≤ k * ((bs.length : Int) - k) := absI_le (by omega) (by omega)
  have a6 := sq_nn ((bs.length : Int) - 2 * k)
  have a7 : ((bs.length : Int) - 2 * k) * ((bs.length : Int) - 2 * k) = bs.length * bs.length - 4 * (k * ((bs.length : Int) - k)) := by grind
  omega
theorem off_sz {bs : List Int} (hb : Bits bs) (hl : bs.length < 2 ^ 20) {k : Nat} (hk : k ≤ bs.length) : (off bs k).natAbs < 2 ^ 42 := by
  have h := off_most hb hk
  have h2 : (bs.length : Int) * bs.length ≤ (2 ^ 20) * (2 ^ 20) := Int.mul_le_mul (by omega) (by omega) (by omega) (by omega)
  unfold absI at h
  split at h <;> omega
/-- ones of the first n beats, round about -/
def cnt (bs : List Int) (n : Nat) : Int := (n / bs.length : Nat) * bs.sum + pre bs (n % bs.length)
theorem cnt_succ {bs : List Int} (h : 0 < bs.length) (n : Nat) : cnt bs (n + 1) = cnt bs n + bs[n % bs.length]'(Nat.mod_lt _ h) := by
  have hm := Nat.mod_lt n h
  have hd := Nat.div_add_mod n bs.length
  unfold cnt
  by_cases e : n % bs.length + 1 = bs.length
  · have e1 : (n + 1) / bs.length = n / bs.length + 1 := by
      have : n + 1 = bs.length * (n / bs.length + 1) := by rw [Nat.mul_add, Nat.mul_one]; omega
      rw [this, Nat.mul_div_cancel_left _ h]
    have e2 : (n + 1) % bs.length = 0 := by
      have : n + 1 = bs.length * (n / bs.length + 1) := by rw [Nat.mul_add, Nat.mul_one]; omega
      rw [this, Nat.mul_mod_right]
    have e3 := pre_succ bs (n % bs.length) hm
    have e4 : pre bs (n % bs.length + 1) = bs.sum := by rw [e]; exact pre_all bs
    rw [e1, e2, pre_zero, Int.natCast_add, Int.add_mul]
    omega
  · have hlt : n % bs.length + 1 < bs.length := by omega
    have e1 : (n + 1) / bs.length = n / bs.length := by
      have : n + 1 = (n % bs.length + 1) + bs.length * (n / bs.length) := by omega
      rw [this, Nat.add_mul_div_left _ _ h, Nat.div_eq_of_lt hlt, Nat.zero_add]
    have e2 : (n + 1) % bs.length = n % bs.length + 1 := by
      have : n + 1 = (n % bs.length + 1) + bs.length * (n / bs.length) := by omega
      rw [this, Nat.add_mul_mod_self_left, Nat.mod_eq_of_lt hlt]
    rw [e1, e2, pre_succ bs _ hm]
    omega
theorem off_cnt {bs : List Int} (h : 0 < bs.length) (n : Nat) : cnt bs n * bs.length - n * bs.sum = off bs (n % bs.length) := by
  have hd := Nat.div_add_mod n bs.length
  have e : (n : Int) = bs.length * (n / bs.length : Nat) + (n % bs.length : Nat) := by omega
  unfold cnt off
  generalize hq : n / bs.length = q at *
  generalize hr : n % bs.length = r at *
  rw [e, Int.add_mul, Int.add_mul]
  have : (q : Int) * bs.sum * bs.length = bs.length * q * bs.sum := by
    rw [Int.mul_comm ((q : Int) * bs.sum), Int.mul_assoc]
  omega
end DL
end

section
set_option Elab.async false
set_option linter.all false
set_option maxRecDepth 100000
namespace DL
open PySem PySem.Spec PyProof.Rows L2

/-! ## how long a shown thing is -/
theorem piled_all {c : Nat} : ∀ {xs : List D}, (∀ x ∈ xs, x.shown.length ≤ c) → piled (PyData.shownAll xs) ≤ (c + 2) * xs.length
  | [], _ => by simp [PyData.shownAll, piled_nil]
  | x :: xs, h => by
    have h1 := h x List.mem_cons_self
    have h2 := piled_all (xs := xs) fun y m => h y (List.mem_cons_of_mem _ m)
    simp only [PyData.shownAll]
    rw [piled_cons, List.length_cons, Nat.mul_add, Nat.mul_one]
    omega
theorem shown_tup {c : Nat} {xs : List D} (h : ∀ x ∈ xs, x.shown.length ≤ c) : (PyData.tuple xs).shown.length ≤ (c + 2) * xs.length + 3 := by
  have hp := piled_all h
  have e : (PyData.tuple xs).shown = tupleText (PyData.shownAll xs) := by simp only [PyData.shown]
  rw [e]
  unfold tupleText
  rw [strLen_append, strLen_append]
  have e1 : ((("(" : String) : Str)).length = 1 := rfl
  have e3 : (((if (PyData.shownAll xs).length == 1 then ",)" else ")" : String) : Str)).length ≤ 2 := by split <;> decide
  have e4 : (Str.join ", " (PyData.shownAll xs)).length ≤ piled (PyData.shownAll xs) := by
    by_cases z : PyData.shownAll xs = []
    · rw [z]; decide
    · have := join_length_add _ z; omega
  rw [e1]
  omega
theorem textFrom_most : ∀ (ts : List Str) (k : Nat) (acc : Str), (textFrom k acc ts).length ≤ acc.length + piled ts
  | [], k, acc => by show acc.length ≤ _; omega
  | t :: ts, k, acc => by
    have ih := textFrom_most ts (k + 1) (acc ++ (if k > 0 then ", " else "" : String) ++ t)
    have e : (acc ++ (if k > 0 then ", " else "" : String) ++ t).length ≤ acc.length + 2 + t.length := by
      rw [strLen_append, strLen_append]
      have : (((if k > 0 then ", " else "" : String) : Str)).length ≤ 2 := by split <;> decide
      omega
    rw [piled_cons]
    show (textFrom (k + 1) (acc ++ (if k > 0 then ", " else "" : String) ++ t) ts).length ≤ _
    omega
theorem shown_lst {c : Nat} {xs : List D} (h : ∀ x ∈ xs, x.shown.length ≤ c) : (PyData.list xs).shown.length ≤ (c + 2) * xs.length + 3 := by
  have hp := piled_all h
  have e : (PyData.list xs).shown = listText (PyData.shownAll xs) := by simp only [PyData.shown]
  rw [e]
  unfold listText
  rw [strLen_append]
  have h1 := textFrom_most (PyData.shownAll xs) 0 "["
  have e1 : ((("[" : String) : Str)).length = 1 := rfl
  have e2 : ((("]" : String) : Str)).length = 1 := rfl
  rw [e1] at h1
  rw [e2]
  omega
theorem nat_text {k n : Nat} (hk : 1 ≤ k) (h : n < 10 ^ k) : (Str.ofString (Nat.repr n)).length ≤ k := by
  have := PySem.Flt.repr_len hk h
  rw [Str.ofString_eq_toList]
  show ((Nat.repr n).toList.map Char.toNat).toArray.size ≤ k
  rw [List.size_toArray, List.length_map]
  exact this
theorem int_shown {k : Nat} {i : Int} (hk : 1 ≤ k) (h : i.natAbs < 10 ^ k) : (PyData.int i).shown.length ≤ k + 1 := by
  have e : (PyData.int i).shown = Str.ofString (toString i) := by simp only [PyData.shown]
  rw [e]
  cases i with
  | ofNat n => exact Nat.le_succ_of_le (nat_text hk h)
  | negSucc n =>
    have h2 : n + 1 < 10 ^ k := h
    have := PySem.Flt.repr_len hk h2
    rw [Str.ofString_eq_toList]
    show ((toString (Int.negSucc n)).toList.map Char.toNat).toArray.size ≤ k + 1
    rw [List.size_toArray, List.length_map]
    have e2 : toString (Int.negSucc n) = "-" ++ Nat.repr (n + 1) := rfl
    rw [e2, String.toList_append, List.length_append]
    have e3 : ("-" : String).toList.length = 1 := by decide
    omega

/-! ## things that may be shown: plain (no dict), small, not deep -/
theorem canAll : ∀ {xs : List D}, (∀ x ∈ xs, x.canLay0 = true) → PyData.canLayAll0 xs = true
  | [], _ => by simp [PyData.canLayAll0]
  | x :: xs, h => by
    have h1 := h x List.mem_cons_self
    have h2 := canAll (xs := xs) fun y m => h y (List.mem_cons_of_mem _ m)
    simp [PyData.canLayAll0, h1, h2]
theorem showAll : ∀ {xs : List D}, (∀ x ∈ xs, x.showable = true) → PyData.showableAll xs = true
  | [], _ => by simp [PyData.showableAll]
  | x :: xs, h => by
    have h1 := h x List.mem_cons_self
    have h2 := showAll (xs := xs) fun y m => h y (List.mem_cons_of_mem _ m)
    simp [PyData.showableAll, h1, h2]
theorem depthAll_le {c : Nat} : ∀ {xs : List D}, (∀ x ∈ xs, x.depth ≤ c) → PyData.depthAll xs ≤ c
  | [], _ => by simp [PyData.depthAll]
  | x :: xs, h => by
    have h1 := h x List.mem_cons_self
    have h2 := depthAll_le (xs := xs) fun y m => h y (List.mem_cons_of_mem _ m)
    simp only [PyData.depthAll]
    omega
/-- a thing of at most so many signs and so deep -/
structure Fits (c k : Nat) (d : D) : Prop where
  lay : d.canLay0 = true
  sho : d.showable = true
  dep : d.depth ≤ k
  len : d.shown.length ≤ c
theorem Fits.tup {c k : Nat} {xs : List D} (h : ∀ x ∈ xs, Fits c k x) : Fits ((c + 2) * xs.length + 3) (k + 1) (.tuple xs) :=
  ⟨by simpa [PyData.canLay0] using canAll fun x m => (h x m).lay, by simpa [PyData.showable] using showAll fun x m => (h x m).sho, by simp only [PyData.depth]; have := depthAll_le fun x m => (h x m).dep; omega, shown_tup fun x m => (h x m).len⟩
theorem Fits.lst {c k : Nat} {xs : List D} (h : ∀ x ∈ xs, Fits c k x) : Fits ((c + 2) * xs.length + 3) (k + 1) (.list xs) :=
  ⟨by simpa [PyData.canLay0] using canAll fun x m => (h x m).lay, by simpa [PyData.showable] using showAll fun x m => (h x m).sho, by simp only [PyData.depth]; have := depthAll_le fun x m => (h x m).dep; omega, shown_lst fun x m => (h x m).len⟩
theorem Fits.int {k c : Nat} {i : Int} (hk : 1 ≤ k) (h : i.natAbs < 10 ^ k) (h2 : i.natAbs.log2 < 1920) : Fits (k + 1) c (.int i) :=
  ⟨by simp [PyData.canLay0], by simpa [PyData.showable] using h2, by simp [PyData.depth], int_shown hk h⟩
theorem Fits.mono {c k c' k' : Nat} {d : D} (h : Fits c k d) (h1 : c ≤ c') (h2 : k ≤ k') : Fits c' k' d := ⟨h.lay, h.sho, Nat.le_trans h.dep h2, Nat.le_trans h.len h1⟩
theorem Fits.showsR {c k : Nat} {d : D} (h : Fits c k d) (h1 : k ≤ 50) (h2 : c ≤ sizeLine) : ShowsR d := ⟨h.lay, h.sho, Nat.le_trans h.dep h1, Nat.le_trans h.len h2⟩
end DL

/-! ## rows, another way -/
namespace DL
open PySem PySem.Spec PyProof.Rows L2
def b_row_b (sp_law_take : DSp) : DTS :=
  (sSeq (sSet 2 (eCallF 2 sp_law_take (cIo 0 (cCons (eC (.int 5)) cNil))))
  (sSeq (sIf (tBl (eOp2 pEq (eVar 2) (eC (.int 0)))) (sRet (eOp2 pMul (eTup (aCons (eCallF 2 sp_law_take (cIo 0 (cCons (eC (.int 2)) cNil))) aNil)) (eVar 1))) sNext)
  (sSeq (sIf (tBl (eOp2 pEq (eVar 2) (eC (.int 1)))) (sSeq (sAsg (eTup (aCons (eCallF 2 sp_law_take (cIo 0 (cCons (eVar 1) cNil))) (aCons (eCallF 2 sp_law_take (cIo 0 (cCons (eC (.int 2)) cNil))) aNil))) (gTp' 2 (gsCons (gNm 3) (gsCons (gNm 4) gsNil))))
  (sRet (eCall pTup (aCons (eFrz (oComp true [7] (iR1 (aCons (eVar 1) aNil)) tYesD (eIf (tBl (eOp2 pEq (eVar 7) (eVar 3))) (eVar 4) (eOp2 pSub (eC (.int 1)) (eVar 4))))) aNil)))) sNext)
  (sSeq (sIf (tBl (eOp2 pEq (eVar 2) (eC (.int 2)))) (sSeq (sAsg (eTup (aCons (eOp2 pAdd (eC (.int 2)) (eCallF 2 sp_law_take (cIo 0 (cCons (eC (.int 5)) cNil)))) (aCons (eCallF 2 sp_law_take (cIo 0 (cCons (eC (.int 2)) cNil))) aNil))) (gTp' 2 (gsCons (gNm 5) (gsCons (gNm 6) gsNil))))
  (sRet (eCall pTup (aCons (eFrz (oComp true [7] (iR1 (aCons (eVar 1) aNil)) tYesD (eCall pInt (aCons (eOp2 pEq (eOp2 pMod (eOp2 pAdd (eVar 7) (eVar 6)) (eVar 5)) (eC (.int 0))) aNil)))) aNil)))) sNext)
  (sRet (eCall pTup (aCons (eFrz (oComp true [7] (iR1 (aCons (eVar 1) aNil)) tYesD (eCallF 2 sp_law_take (cIo 0 (cCons (eC (.int 2)) cNil))))) aNil)))))))
def b_long_b (sp_law_take : DSp) : DTS :=
  (sSeq (sIf (tBl (eOp2 pEq (eCallF 2 sp_law_take (cIo 0 (cCons (eC (.int 8)) cNil))) (eC (.int 7)))) (sRet (eOp2 pAdd (eC (.int 1)) (eCallF 2 sp_law_take (cIo 0 (cCons (eC (.int 400)) cNil))))) sNext)
  (sRet (eOp2 pIx (eFrz (oLst (aCons (eC (.int 1)) (aCons (eC (.int 2)) (aCons (eOp2 pAdd (eC (.int 1)) (eCallF 2 sp_law_take (cIo 0 (cCons (eC (.int 12)) cNil)))) (aCons (eOp2 pAdd (eC (.int 1)) (eCallF 2 sp_law_take (cIo 0 (cCons (eC (.int 40)) cNil)))) aNil)))))) (eCallF 2 sp_law_take (cIo 0 (cCons (eC (.int 4)) cNil))))))
def sp_row_b : DSp := fun cs post => ∃ (m : M) (k n : Int), cs = [.io m, .sh (.int n)] ∧ Box k m ∧ 1 ≤ n ∧ n < 2 ^ 22 ∧ k + n + 3 < farB ∧ ∀ bs m', (bs.length : Int) = n → Bits bs → Box (k + n + 3) m' → post (.sh (bD bs)) [m']
def sp_long_b : DSp := fun cs post => ∃ (m : M) (k : Int), cs = [.io m] ∧ Box k m ∧ k + 4 < farB ∧ ∀ v m', 1 ≤ v → v ≤ 400 → Box (k + 4) m' → post (.sh (.int v)) [m']
theorem p_long_b (cs post) (h : sp_long_b cs post) : runD 1 (b_long_b sp_take) cs post := by
  obtain ⟨m, k, rfl, bm, hk, q⟩ := h
  have hf : farB = 1099511627776 := by decide
  refine ⟨rfl, rfl, nd1 0, m, k, 8, rfl, bm, by omega, by decide, by decide, fun v1 m1 a1 z1 b1 => ?_⟩
  refine ifD (fun h => ?_) (fun h => ?_)
  · refine ⟨rfl, rfl, nd1 0, m1, _, 400, rfl, b1, by omega, by decide, by decide, fun v2 m2 a2 z2 b2 => ?_⟩
    exact q _ m2 (by omega) (by omega) (b2.le (by omega))
  · refine ⟨rfl, rfl, nd1 0, m1, _, 12, rfl, b1, by omega, by decide, by decide, fun v2 m2 a2 z2 b2 => ?_⟩
    refine ⟨rfl, rfl, nd1 0, m2, _, 40, rfl, b2, by omega, by decide, by decide, fun v3 m3 a3 z3 b3 => ?_⟩
    refine ⟨sz4, rfl, rfl, nd1 0, m3, _, 4, rfl, b3, by omega, by decide, by decide, fun v4 m4 a4 z4 b4 => ?_⟩
    have p1 : ∃ e : Int, atI [PyData.int 1, .int 2, .int (1 + v2), .int (1 + v3)] v4 = some (.int e) ∧ 1 ≤ e ∧ e ≤ 400 := by
      rcases (by omega : v4 = 0 ∨ v4 = 1 ∨ v4 = 2 ∨ v4 = 3) with rfl | rfl | rfl | rfl
      · exact ⟨1, rfl, by omega, by omega⟩
      · exact ⟨2, rfl, by omega, by omega⟩
      · exact ⟨1 + v2, rfl, by omega, by omega⟩
      · exact ⟨1 + v3, rfl, by omega, by omega⟩
    obtain ⟨e, e1, he0, he1⟩ := p1
    exact optD_of e1 (q e m4 he0 he1 (b4.le (by omega)))
theorem p_row_b (cs post) (h : sp_row_b cs post) : runD 8 (b_row_b sp_take) cs post := by
  obtain ⟨m, k, n, rfl, hb, hn1, hn2, hk, q⟩ := h
  have hf : farB = 1099511627776 := by decide
  have hl : n.toNat ≤ sizeLine := Nat.le_trans (by omega : n.toNat ≤ 2 ^ 24) line_big
  refine ⟨rfl, rfl, nd1 0, m, k, 5, rfl, hb, by omega, by decide, by decide, fun way m1 a1 z1 b1 => ?_⟩
  refine ifD (fun h => ?_) (fun h => ?_)
  · refine ⟨rfl, rfl, nd1 0, m1, _, 2, rfl, b1, by omega, by decide, by decide, fun v m2 a2 z2 b2 => ?_⟩
    refine ⟨sz1, ⟨by omega, by omega, ?_⟩, ?_⟩
    · show 1 * n.toNat ≤ sizeLine
      omega
    have q' := q (List.replicate n.toNat v) m2 (by rw [List.length_replicate]; omega) (Bits.rep (bit_of a2 z2)) (b2.le (by omega))
    unfold bD at q'
    rw [← rep_int] at q'
    exact q'
  · refine ifD (fun h => ?_) (fun h => ?_)
    · refine ⟨rfl, rfl, nd1 0, m1, _, n, rfl, b1, by omega, by omega, by omega, fun at_ m2 a2 z2 b2 => ?_⟩
      refine ⟨rfl, rfl, nd1 0, m2, _, 2, rfl, b2, by omega, by decide, by decide, fun v m3 a3 z3 b3 => ?_⟩
      refine ⟨sz2, rfl, by omega, by omega, by rw [rngD_len]; exact hl, ?_⟩
      refine rng_comp 0 _ (fun i acc r => ∃ bs : List Int, acc = bs.map PyData.int ∧ Bits bs ∧ bs.length = i ∧ r = [some (.io m3), some (.sh (.int n)), some (.sh (.int way)), some (.sh (.int at_)), some (.sh (.int v)), none, none, none]) ?_ ?_ _ ⟨[], rfl, Bits.nil, rfl, rfl⟩
      · rintro i hi acc r N ⟨bs, rfl, hbs, hlen, rfl⟩ hN
        refine ifD (fun h => ?_) (fun h => ?_)
        · exact hN _ _ ⟨bs ++ [v], by rw [List.map_append]; rfl, hbs.app (Bits.one (by omega)), by rw [List.length_append, List.length_singleton]; omega, rfl⟩
        · exact hN _ _ ⟨bs ++ [1 - v], by rw [List.map_append]; rfl, hbs.app (Bits.one (by omega)), by rw [List.length_append, List.length_singleton]; omega, rfl⟩
      · rintro acc r ⟨bs, rfl, hbs, hlen, rfl⟩
        exact q bs m3 (by omega) hbs (b3.le (by omega))
    · refine ifD (fun h => ?_) (fun h => ?_)
      · refine ⟨rfl, rfl, nd1 0, m1, _, 5, rfl, b1, by omega, by decide, by decide, fun ev m2 a2 z2 b2 => ?_⟩
        refine ⟨rfl, rfl, nd1 0, m2, _, 2, rfl, b2, by omega, by decide, by decide, fun v m3 a3 z3 b3 => ?_⟩
        refine ⟨sz2, rfl, by omega, by omega, by rw [rngD_len]; exact hl, ?_⟩
        refine rng_comp 0 _ (fun i acc r => ∃ bs : List Int, acc = bs.map PyData.int ∧ Bits bs ∧ bs.length = i ∧ r = [some (.io m3), some (.sh (.int n)), some (.sh (.int way)), none, none, some (.sh (.int (2 + ev))), some (.sh (.int v)), none]) ?_ ?_ _ ⟨[], rfl, Bits.nil, rfl, rfl⟩
        · rintro i hi acc r N ⟨bs, rfl, hbs, hlen, rfl⟩ hN
          refine ⟨by omega, ?_⟩
          exact hN _ _ ⟨bs ++ [_], by rw [List.map_append]; rfl, hbs.app (Bits.one (b01 _)), by rw [List.length_append, List.length_singleton]; omega, rfl⟩
        · rintro acc r ⟨bs, rfl, hbs, hlen, rfl⟩
          exact q bs m3 (by omega) hbs (b3.le (by omega))
      · refine ⟨by omega, by omega, by rw [rngD_len]; exact hl, ?_⟩
        refine rng_comp 0 _ (fun i acc r => ∃ (bs : List Int) (m2 : M), acc = bs.map PyData.int ∧ Bits bs ∧ bs.length = i ∧ Box (k + 1 + i) m2 ∧ r = [some (.io m2), some (.sh (.int n)), some (.sh (.int way)), none, none, none, none, none]) ?_ ?_ _ ⟨[], m1, rfl, Bits.nil, rfl, b1.le (by omega), rfl⟩
        · rintro i hi acc r N ⟨bs, m2, rfl, hbs, hlen, hbox, rfl⟩ hN
          refine ⟨rfl, rfl, nd1 0, m2, _, 2, rfl, hbox, by omega, by decide, by decide, fun v m3 a3 z3 b3 => ?_⟩
          exact hN _ _ ⟨bs ++ [v], m3, by rw [List.map_append]; rfl, hbs.app (Bits.one (bit_of a3 z3)), by rw [List.length_append, List.length_singleton]; omega, b3.le (by omega), rfl⟩
        · rintro acc r ⟨bs, m2, rfl, hbs, hlen, hbox, rfl⟩
          exact q bs m2 (by omega) hbs (hbox.le (by omega))
end DL
end

section
set_option Elab.async false
set_option linter.all false
set_option maxRecDepth 100000
/-! ## truths among numbers; things of any kind, how long they are when shown -/
namespace DL
open PySem PySem.Spec PyProof.Rows L2
section
variable {X : Cx} {K : PySem.W.Frag}
def rB2 (g : Int → Int → Int) : R2 := fun x y H Q => ∃ k j, x = .bl k ∧ y = .int j ∧ Q (.int (g (if k = true then 1 else 0) j)) H
def rB2' (g : Int → Int → Int) : R2 := fun x y H Q => ∃ i k, x = .int i ∧ y = .bl k ∧ Q (.int (g i (if k = true then 1 else 0))) H
theorem op_add_bi : OpR X (binaryOp .Add) (rB2 fun i j => i + j) := by
  intro pins s σ H x y v u Q I rx ry h
  obtain ⟨k, j, rfl, rfl, q⟩ := h
  cases rx
  obtain ⟨t, rfl⟩ := ry
  exact PySem.IntBool.add_bool_int ⟨.int _, H, I.tok _, ⟨_, rfl⟩, q⟩
theorem op_sub_bi : OpR X (binaryOp .Sub) (rB2 fun i j => i - j) := by
  intro pins s σ H x y v u Q I rx ry h
  obtain ⟨k, j, rfl, rfl, q⟩ := h
  cases rx
  obtain ⟨t, rfl⟩ := ry
  exact PySem.IntBool.sub_bool_int ⟨.int _, H, I.tok _, ⟨_, rfl⟩, q⟩
theorem op_mul_ib : OpR X (binaryOp .Mult) (rB2' fun i j => i * j) := by
  intro pins s σ H x y v u Q I rx ry h
  obtain ⟨i, k, rfl, rfl, q⟩ := h
  obtain ⟨t, rfl⟩ := rx
  cases ry
  exact PySem.IntBool.mul_int_bool ⟨.int _, H, I.tok _, ⟨_, rfl⟩, q⟩
theorem op_mul_bi : OpR X (binaryOp .Mult) (rB2 fun i j => i * j) := by
  intro pins s σ H x y v u Q I rx ry h
  obtain ⟨k, j, rfl, rfl, q⟩ := h
  cases rx
  obtain ⟨t, rfl⟩ := ry
  exact PySem.IntBool.mul_bool_int ⟨.int _, H, I.tok _, ⟨_, rfl⟩, q⟩
def pAddB : P2 := fun x y q => match x, y with
  | .bool k, .int j => q (.int ((if k = true then 1 else 0) + j))
  | x, y => pAdd x y q
def pSubB : P2 := fun x y q => match x, y with
  | .bool k, .int j => q (.int ((if k = true then 1 else 0) - j))
  | x, y => pSub x y q
def pMulB : P2 := fun x y q => match x, y with
  | .bool k, .int j => q (.int ((if k = true then 1 else 0) * j))
  | .int i, .bool k => q (.int (i * (if k = true then 1 else 0)))
  | x, y => pMul x y q
def rAddB (K : PySem.W.Frag) : R2 := fun x y H Q => rAddA K x y H Q ∨ rB2 (fun i j => i + j) x y H Q
def rSubB : R2 := fun x y H Q => rI0 (fun i j => .int (i - j)) x y H Q ∨ rB2 (fun i j => i - j) x y H Q
def rMulB (K : PySem.W.Frag) : R2 := fun x y H Q => rMulA K x y H Q ∨ rB2 (fun i j => i * j) x y H Q ∨ rB2' (fun i j => i * j) x y H Q
theorem op_addB : OpR X (binaryOp .Add) (rAddB X.K) := op_addA.or op_add_bi
theorem op_subB : OpR X (binaryOp .Sub) rSubB := op_sub.or op_sub_bi
theorem op_mulB : OpR X (binaryOp .Mult) (rMulB X.K) := op_mulA.or (op_mul_bi.or op_mul_ib)
theorem v_addB : VOp K (rAddB K) pAddB := by
  intro F H x y dx dy q Q s px py t h
  unfold pAddB at t
  split at t
  · cases px; cases py
    exact .inr ⟨_, _, rfl, rfl, fin_flat s h (.int _) t⟩
  · exact .inl (v_add F H x y dx dy q Q s px py t h)
theorem v_subB : VOp K rSubB pSubB := by
  intro F H x y dx dy q Q s px py t h
  unfold pSubB at t
  split at t
  · cases px; cases py
    exact .inr ⟨_, _, rfl, rfl, fin_flat s h (.int _) t⟩
  · exact .inl (v_int F H x y dx dy q Q s px py t h)
theorem v_mulB : VOp K (rMulB K) pMulB := by
  intro F H x y dx dy q Q s px py t h
  unfold pMulB at t
  split at t
  · cases px; cases py
    exact .inr (.inl ⟨_, _, rfl, rfl, fin_flat s h (.int _) t⟩)
  · cases px; cases py
    exact .inr (.inr ⟨_, _, rfl, rfl, fin_flat s h (.int _) t⟩)
  · exact .inl (v_mul F H x y dx dy q Q s px py t h)
end
/-! ### things -/
mutual
def wt : D → Nat
  | .list xs => wtAll xs + 3
  | .tuple xs => wtAll xs + 3
  | .str z => 10 * z.length + 2
  | .int _ => 44
  | .none => 5
  | .bool _ => 5
  | .dict _ => 5
def wtAll : List D → Nat
  | [] => 0
  | x :: xs => wt x + 2 + wtAll xs
end
mutual
/-- numbers to B, texts of at most S signs, no dict -/
def gd (B S : Nat) : D → Bool
  | .none => true
  | .bool _ => true
  | .int i => decide (i.natAbs ≤ B)
  | .str z => decide (z.length ≤ S) && PyData.strOk z
  | .list xs => gdAll B S xs
  | .tuple xs => gdAll B S xs
  | .dict _ => false
def gdAll (B S : Nat) : List D → Bool
  | [] => true
  | x :: xs => gd B S x && gdAll B S xs
end
theorem gd_all {B S : Nat} : ∀ {xs : List D}, gdAll B S xs = true ↔ ∀ x ∈ xs, gd B S x = true
  | [] => by simp [gdAll]
  | x :: xs => by
    rw [gdAll, Bool.and_eq_true, gd_all (xs := xs)]
    simp
theorem wt_app : ∀ xs ys : List D, wtAll (xs ++ ys) = wtAll xs + wtAll ys
  | [], ys => by simp [wtAll]
  | x :: xs, ys => by rw [List.cons_append, wtAll, wtAll, wt_app xs ys]; omega
theorem depth_app : ∀ xs ys : List D, PyData.depthAll (xs ++ ys) = max (PyData.depthAll xs) (PyData.depthAll ys)
  | [], ys => by simp [PyData.depthAll]
  | x :: xs, ys => by rw [List.cons_append, PyData.depthAll, PyData.depthAll, depth_app xs ys, Nat.max_assoc]
theorem depth_mem {x : D} : ∀ {xs : List D}, x ∈ xs → x.depth ≤ PyData.depthAll xs
  | y :: ys, h => by
    rw [PyData.depthAll]
    rcases List.mem_cons.1 h with rfl | h
    · exact Nat.le_max_left _ _
    · exact Nat.le_trans (depth_mem h) (Nat.le_max_right _ _)
theorem wt_len : ∀ xs : List D, 2 * xs.length ≤ wtAll xs
  | [] => Nat.zero_le _
  | x :: xs => by rw [wtAll, List.length_cons]; have := wt_len xs; omega
mutual
theorem gd_mono {B S B' S' : Nat} (hB : B ≤ B') (hS : S ≤ S') : ∀ d : D, gd B S d = true → gd B' S' d = true
  | .none, _ => by rw [gd]
  | .bool _, _ => by rw [gd]
  | .int i, h => by rw [gd, decide_eq_true_eq] at h ⊢; omega
  | .str z, h => by rw [gd, Bool.and_eq_true, decide_eq_true_eq] at h ⊢; exact ⟨by omega, h.2⟩
  | .list xs, h => by rw [gd] at h ⊢; exact gdAll_mono hB hS xs h
  | .tuple xs, h => by rw [gd] at h ⊢; exact gdAll_mono hB hS xs h
  | .dict _, h => by rw [gd] at h; cases h
theorem gdAll_mono {B S B' S' : Nat} (hB : B ≤ B') (hS : S ≤ S') : ∀ xs : List D, gdAll B S xs = true → gdAll B' S' xs = true
  | [], _ => by rw [gdAll]
  | x :: xs, h => by
    rw [gdAll, Bool.and_eq_true] at h ⊢
    exact ⟨gd_mono hB hS x h.1, gdAll_mono hB hS xs h.2⟩
end
mutual
theorem gd_lay {B S : Nat} : ∀ d : D, gd B S d = true → d.canLay0 = true
  | .none, _ => by simp [PyData.canLay0]
  | .bool _, _ => by simp [PyData.canLay0]
  | .int _, _ => by simp [PyData.canLay0]
  | .str z, h => by rw [gd, Bool.and_eq_true] at h; simpa [PyData.canLay0] using h.2
  | .list xs, h => by rw [gd] at h; simpa [PyData.canLay0] using gdAll_lay xs h
  | .tuple xs, h => by rw [gd] at h; simpa [PyData.canLay0] using gdAll_lay xs h
  | .dict _, h => by rw [gd] at h; cases h
theorem gdAll_lay {B S : Nat} : ∀ xs : List D, gdAll B S xs = true → PyData.canLayAll0 xs = true
  | [], _ => by simp [PyData.canLayAll0]
  | x :: xs, h => by
    rw [gdAll, Bool.and_eq_true] at h
    simp [PyData.canLayAll0, gd_lay x h.1, gdAll_lay xs h.2]
end
theorem log2_ten {n : Nat} (h : n < 10 ^ 41) : n.log2 < 1920 := by
  have : n.log2 < 140 := PySem.Flt.log2_lt_of (by decide) (Nat.lt_trans h (by decide))
  omega
mutual
theorem gd_show {B S : Nat} (hB : B < 10 ^ 41) : ∀ d : D, gd B S d = true → d.showable = true
  | .none, _ => by simp [PyData.showable]
  | .bool _, _ => by simp [PyData.showable]
  | .int i, h => by
    rw [gd, decide_eq_true_eq] at h
    have := log2_ten (n := i.natAbs) (by omega)
    simpa [PyData.showable] using this
  | .str z, _ => by simp [PyData.showable]
  | .list xs, h => by rw [gd] at h; simpa [PyData.showable] using gdAll_show hB xs h
  | .tuple xs, h => by rw [gd] at h; simpa [PyData.showable] using gdAll_show hB xs h
  | .dict _, h => by rw [gd] at h; cases h
theorem gdAll_show {B S : Nat} (hB : B < 10 ^ 41) : ∀ xs : List D, gdAll B S xs = true → PyData.showableAll xs = true
  | [], _ => by simp [PyData.showableAll]
  | x :: xs, h => by
    rw [gdAll, Bool.and_eq_true] at h
    simp [PyData.showableAll, gd_show hB x h.1, gdAll_show hB xs h.2]
end
theorem tup_len (xs : List D) : (PyData.tuple xs).shown.length ≤ piled (PyData.shownAll xs) + 3 := by
  have e : (PyData.tuple xs).shown = tupleText (PyData.shownAll xs) := by simp only [PyData.shown]
  rw [e]
  unfold tupleText
  rw [strLen_append, strLen_append]
  have e1 : ((("(" : String) : Str)).length = 1 := rfl
  have e3 : (((if (PyData.shownAll xs).length == 1 then ",)" else ")" : String) : Str)).length ≤ 2 := by split <;> decide
  have e4 : (Str.join ", " (PyData.shownAll xs)).length ≤ piled (PyData.shownAll xs) := by
    by_cases z : PyData.shownAll xs = []
    · rw [z]; decide
    · have := join_length_add _ z; omega
  rw [e1]
  omega
theorem lst_len (xs : List D) : (PyData.list xs).shown.length ≤ piled (PyData.shownAll xs) + 3 := by
  have e : (PyData.list xs).shown = listText (PyData.shownAll xs) := by simp only [PyData.shown]
  rw [e]
  unfold listText
  rw [strLen_append]
  have h1 := textFrom_most (PyData.shownAll xs) 0 "["
  have e1 : ((("[" : String) : Str)).length = 1 := rfl
  have e2 : ((("]" : String) : Str)).length = 1 := rfl
  rw [e1] at h1
  rw [e2]
  omega
mutual
theorem gd_len {B S : Nat} (hB : B < 10 ^ 41) : ∀ d : D, gd B S d = true → d.shown.length ≤ wt d
  | .none, _ => by
    have : (PyData.none).shown = "None" := by simp only [PyData.shown]
    rw [this, wt]; decide
  | .bool b, _ => by
    have : (PyData.bool b).shown = ((if b then "True" else "False" : String) : Str) := by simp only [PyData.shown]; cases b <;> rfl
    rw [this, wt]; cases b <;> decide
  | .int i, h => by
    rw [gd, decide_eq_true_eq] at h
    rw [wt]
    have := int_shown (k := 41) (i := i) (by decide) (by omega)
    omega
  | .str z, h => by
    rw [gd, Bool.and_eq_true] at h
    have e : (PyData.str z).shown = reprText z := by simp only [PyData.shown]
    rw [e, wt]
    refine PySem.StrLaws.reprText_len z fun c hc => ?_
    have h2 : z.cps.all (· < 0x110000) = true := h.2
    rw [Array.all_eq_true'] at h2
    have := h2 c (by simpa using hc)
    have h3 : c < 0x110000 := by simpa using this
    exact Nat.lt_trans h3 (by decide)
  | .list xs, h => by
    rw [gd] at h
    have := gdAll_len hB xs h
    have := lst_len xs
    rw [wt]; omega
  | .tuple xs, h => by
    rw [gd] at h
    have := gdAll_len hB xs h
    have := tup_len xs
    rw [wt]; omega
  | .dict _, h => by rw [gd] at h; cases h
theorem gdAll_len {B S : Nat} (hB : B < 10 ^ 41) : ∀ xs : List D, gdAll B S xs = true → piled (PyData.shownAll xs) ≤ wtAll xs
  | [], _ => by simp [PyData.shownAll, piled_nil]
  | x :: xs, h => by
    rw [gdAll, Bool.and_eq_true] at h
    have h1 := gd_len hB x h.1
    have h2 := gdAll_len hB xs h.2
    simp only [PyData.shownAll]
    rw [piled_cons, wtAll]
    omega
end
/-- a thing: its numbers, texts, length, depth -/
structure Thing (B S w k : Nat) (d : D) : Prop where
  good : gd B S d = true
  long : wt d ≤ w
  deep : d.depth ≤ k
theorem Thing.mono {B S w k B' S' w' k' : Nat} {d : D} (h : Thing B S w k d) (h1 : B ≤ B') (h2 : S ≤ S') (h3 : w ≤ w') (h4 : k ≤ k') : Thing B' S' w' k' d := ⟨gd_mono h1 h2 d h.good, Nat.le_trans h.long h3, Nat.le_trans h.deep h4⟩
theorem Thing.showsR {B S w k : Nat} {d : D} (h : Thing B S w k d) (hB : B < 10 ^ 41) (hw : w ≤ sizeLine) (hk : k ≤ 50) : ShowsR d :=
  ⟨gd_lay d h.good, gd_show hB d h.good, Nat.le_trans h.deep hk, Nat.le_trans (gd_len hB d h.good) (Nat.le_trans h.long hw)⟩
theorem Thing.shows {B S w k : Nat} {d : D} (h : Thing B S w k d) (hB : B < 10 ^ 41) (hw : w ≤ sizeLine) (hk : k ≤ 50) : Shows d := by
  by_cases e : ∃ z, d = .str z
  · exact .inl e
  · obtain ⟨h1, h2, h3, h4⟩ := h.showsR hB hw hk
    refine .inr ⟨h1, h2, h3, ?_⟩
    have : strD d = d.shown := by
      cases d <;> first | rfl | exact absurd ⟨_, rfl⟩ e
    rw [this]; exact h4
theorem Thing.shaped {B S w k : Nat} {d : D} (h : Thing B S w k d) (hk : k ≤ 64) : SeqAt.shaped d = true := by
  unfold SeqAt.shaped
  rw [gd_lay d h.good, decide_eq_true (Nat.le_trans h.deep hk)]; rfl
theorem Thing.nd {B S w k : Nat} {d : D} (h : Thing B S w k d) : notDict d = true := by
  have := h.good
  cases d <;> first | rfl | (rw [gd] at this; cases this)
theorem gd_nd {B S : Nat} {d : D} (h : gd B S d = true) : notDict d = true := by
  cases d <;> first | rfl | (rw [gd] at h; cases h)
end DL
end

section
set_option Elab.async false
set_option linter.all false
set_option maxRecDepth 100000
/-! ## a dict of the module: texts to numbers -/
namespace DL
open PySem PySem.Spec PyProof.Rows L2
def entB (e : DictEntry) (q : Str × Int) : Bool := match e.key, e.val with
  | .str x _, .int i _ => decide (x = q.1) && decide (i = q.2)
  | _, _ => false
def entsB : List DictEntry → List (Str × Int) → Bool
  | [], [] => true
  | e :: es, q :: qs => entB e q && entsB es qs
  | _, _ => false
def kdB (K : PySem.W.Frag) (a : Addr) (ds : List (Str × Int)) : Bool := match K.lookup a with
  | some ⟨_, _, .dict es _, _⟩ => entsB es.toList ds
  | _ => false
def kdGet : List (Str × Int) → Str → Option Int
  | [], _ => none
  | q :: qs, z => if q.1 = z then some q.2 else kdGet qs z
theorem entB_ok {e : DictEntry} {q : Str × Int} (h : entB e q = true) : ∃ t u, e.key = .str q.1 t ∧ e.val = .int q.2 u := by
  unfold entB at h
  split at h
  · rename_i x t i u h1 h2
    rw [Bool.and_eq_true, decide_eq_true_eq, decide_eq_true_eq] at h
    obtain ⟨rfl, rfl⟩ := h
    exact ⟨t, u, h1, h2⟩
  · cases h
theorem ents_find : ∀ {es : List DictEntry} {ds : List (Str × Int)} (z : Str), entsB es ds = true → es.any (·.refKey) = false ∧ ((kdGet ds z = none ∧ es.find? (·.key.isStr z) = none) ∨ ∃ i e u, kdGet ds z = some i ∧ es.find? (·.key.isStr z) = some e ∧ e.val = .int i u)
  | [], [], z, _ => ⟨rfl, .inl ⟨rfl, rfl⟩⟩
  | [], _ :: _, _, h => by cases h
  | _ :: _, [], _, h => by cases h
  | e :: es, q :: qs, z, h => by
    have h : (entB e q && entsB es qs) = true := h
    rw [Bool.and_eq_true] at h
    obtain ⟨t, u, e1, e2⟩ := entB_ok h.1
    obtain ⟨h3, h4⟩ := ents_find z h.2
    have hs : e.key.isStr z = decide (q.1 = z) := by
      rw [e1]
      by_cases w : q.1 = z
      · rw [w, decide_eq_true rfl]; show (z == z) = true; exact beq_self_eq_true z
      · rw [decide_eq_false w]; show (q.1 == z) = false; exact beq_eq_false_iff_ne.2 w
    have hr : e.refKey = false := by unfold DictEntry.refKey; rw [e1]
    refine ⟨by rw [List.any_cons, hr, h3]; rfl, ?_⟩
    by_cases w : q.1 = z
    · refine .inr ⟨q.2, e, u, by unfold kdGet; rw [if_pos w], ?_, e2⟩
      rw [List.find?_cons, hs, decide_eq_true w]
    · rw [List.find?_cons, hs, decide_eq_false w]
      unfold kdGet
      rw [if_neg w]
      exact h4
structure KD (w : World) (K : PySem.W.Frag) (mg : Str → Option Value) (x : Str) (ds : List (Str × Int)) : Prop where
  ex : ∃ a es n, mg x = some (.ref a) ∧ KDict K w a es n ∧ entsB es.toList ds = true
theorem kd_ns {K : PySem.W.Frag} {w : World} {a : Addr} {es : Array DictEntry} {n : Nat} {ds : List (Str × Int)} (D : KDict K w a es n) (h : entsB es.toList ds = true) (z : Str) :
    (kdGet ds z = none ∧ PySem.W.nsIn K a z = some none) ∨ ∃ i u, kdGet ds z = some i ∧ PySem.W.nsIn K a z = some (some (.int i u)) := by
  obtain ⟨h1, h2⟩ := ents_find z h
  unfold PySem.W.nsIn
  rw [D.at_]
  dsimp only
  rcases h2 with ⟨g, f⟩ | ⟨i, e, u, g, f, v⟩
  · rw [f, h1]; exact .inl ⟨g, rfl⟩
  · rw [f]
    refine .inr ⟨i, u, g, ?_⟩
    show some (some e.val) = _
    rw [v]
theorem kd_mk {K : PySem.W.Frag} {h : PySem.Heap} {w : World} {mg : Str → Option Value} {x : Str} {ds : List (Str × Int)} {a : Addr} (X : K.In h) (G : h.Ns mainGlobals mg) (e : PySem.W.nsIn K mainGlobals x = some (some (.ref a)))
    (hd : He.dicW K a = some (He.keysIn w.params (ds.map (·.1)))) (hv : kdB K a ds = true) : KD w K mg x ds := by
  obtain ⟨es, n, D⟩ := He.dicW_ok hd
  refine ⟨a, es, n, PySem.W.mg_of X G e, D, ?_⟩
  unfold kdB at hv
  rw [D.at_] at hv
  exact hv
section
variable {X : Cx}
def eInK (neg : Bool) (ds : List (Str × Int)) (te : DTE) : DTE := fun r q => te r fun d r1 => match d with
  | .str z => q (.bool (if neg = true then !(kdGet ds z).isSome else (kdGet ds z).isSome)) r1
  | _ => False
def eIxKD (ds : List (Str × Int)) (te : DTE) : DTE := fun r q => te r fun d r1 => match d with
  | .str z => optD (kdGet ds z) fun i => q (.int i) r1
  | _ => False
theorem inK_weak {K : PySem.W.Frag} {W : Wd} {w : World} {a : Addr} {es : Array DictEntry} {n : Nat} {ds : List (Str × Int)} (D : KDict K w a es n) (he : entsB es.toList ds = true) {neg : Bool} {te : DTE} (σ : St) (H : Hp) (Q : VK) (h : lift K W (eInK neg ds te) σ H Q) :
    tOp (fun x y H Q => ∃ (z : Str) (r : Option Value), x = .str z ∧ y = .ref a ∧ PySem.W.nsIn K a z = some r ∧ Q (.bl (if neg = true then !r.isSome else r.isSome)) H) (lift K W te) (tC (.ref a)) σ H Q := by
  obtain ⟨r, F, q, R, t, wq⟩ := h
  refine ⟨r, F, _, R, t, fun d r1 v F1 H1 t1 R1 s1 p1 => ?_⟩
  cases p1 with
  | str z =>
    show ∃ (z' : Str) (r : Option Value), _
    rcases kd_ns D he z with ⟨g, f⟩ | ⟨i, u, g, f⟩
    · refine ⟨z, none, rfl, rfl, f, ?_⟩
      have t2 : q (.bool (if neg = true then !(kdGet ds z).isSome else (kdGet ds z).isSome)) r1 := t1
      rw [g] at t2
      exact wq _ r1 _ F1 H1 t2 R1 s1 (.bl _)
    · refine ⟨z, some (.int i u), rfl, rfl, f, ?_⟩
      have t2 : q (.bool (if neg = true then !(kdGet ds z).isSome else (kdGet ds z).isSome)) r1 := t1
      rw [g] at t2
      exact wq _ r1 _ F1 H1 t2 R1 s1 (.bl _)
  | _ => exact t1.elim
theorem d_inKD {e : Expr} {te : DTE} {x : Str} {p pos : Pos} {ds : List (Str × Int)} (he : DE X e te) (hg : Gl X x) (D : KD X.w X.K X.mg x ds) (hd : (x == ("__debug__" : Str)) = false := by decide) (hm : behindInMarks .In (.Name x p) = false := by with_unfolding_all rfl) :
    DE X (.Compare e [.In] [.Name x p] pos) (eInK false ds te) := by
  obtain ⟨a, es, n, h1, h2, h3⟩ := D.ex
  exact ⟨fun W => pe_weak (pe_cmpR (op_in_kd h2) (he.run W) (pe_glob hg h1 (v := .ref a) rfl hd) hm) fun σ H Q h => inK_weak (neg := false) h2 h3 σ H Q h⟩
theorem d_niKD {e : Expr} {te : DTE} {x : Str} {p pos : Pos} {ds : List (Str × Int)} (he : DE X e te) (hg : Gl X x) (D : KD X.w X.K X.mg x ds) (hd : (x == ("__debug__" : Str)) = false := by decide) (hm : behindInMarks .NotIn (.Name x p) = false := by with_unfolding_all rfl) :
    DE X (.Compare e [.NotIn] [.Name x p] pos) (eInK true ds te) := by
  obtain ⟨a, es, n, h1, h2, h3⟩ := D.ex
  exact ⟨fun W => pe_weak (pe_cmpR (op_notIn_kd h2) (he.run W) (pe_glob hg h1 (v := .ref a) rfl hd) hm) fun σ H Q h => inK_weak (neg := true) h2 h3 σ H Q h⟩
theorem dt_inKD {e : Expr} {te : DTE} {x : Str} {p pos : Pos} {ds : List (Str × Int)} (he : DE X e te) (hg : Gl X x) (D : KD X.w X.K X.mg x ds) (hd : (x == ("__debug__" : Str)) = false := by decide) (hm : behindInMarks .In (.Name x p) = false := by with_unfolding_all rfl) :
    DT X (.Compare e [.In] [.Name x p] pos) (tBl (eInK false ds te)) := by
  obtain ⟨a, es, n, h1, h2, h3⟩ := D.ex
  exact ⟨fun W => pt_weak (pt_cmpR (op_in_kd h2) (he.run W) (pe_glob hg h1 (v := .ref a) rfl hd) hm) fun σ H Q h => inK_weak (neg := false) h2 h3 σ H _ (lift_bl h)⟩
theorem dt_niKD {e : Expr} {te : DTE} {x : Str} {p pos : Pos} {ds : List (Str × Int)} (he : DE X e te) (hg : Gl X x) (D : KD X.w X.K X.mg x ds) (hd : (x == ("__debug__" : Str)) = false := by decide) (hm : behindInMarks .NotIn (.Name x p) = false := by with_unfolding_all rfl) :
    DT X (.Compare e [.NotIn] [.Name x p] pos) (tBl (eInK true ds te)) := by
  obtain ⟨a, es, n, h1, h2, h3⟩ := D.ex
  exact ⟨fun W => pt_weak (pt_cmpR (op_notIn_kd h2) (he.run W) (pe_glob hg h1 (v := .ref a) rfl hd) hm) fun σ H Q h => inK_weak (neg := true) h2 h3 σ H _ (lift_bl h)⟩
theorem d_ixKD {b : Expr} {tb : DTE} {x : Str} {p pos : Pos} {ds : List (Str × Int)} (hg : Gl X x) (D : KD X.w X.K X.mg x ds) (hb : DE X b tb) (hs : PlainIx b) (hd : (x == ("__debug__" : Str)) = false := by decide) :
    DE X (.Subscript (.Name x p) b pos) (eIxKD ds tb) := by
  obtain ⟨a, es, n, h1, h2, h3⟩ := D.ex
  refine ⟨fun W => pe_weak (pe_ix ix_kdict (pe_glob hg h1 (v := .ref a) rfl hd) (hb.run W) hs) fun σ H Q h => ?_⟩
  obtain ⟨r, F, q, R, t, wq⟩ := h
  refine ⟨r, F, _, R, t, fun d r1 v F1 H1 t1 R1 s1 p1 => ?_⟩
  cases p1 with
  | str z =>
    have t2 : optD (kdGet ds z) fun i => q (.int i) r1 := t1
    rcases kd_ns h2 h3 z with ⟨g, f⟩ | ⟨i, u, g, f⟩
    · rw [g] at t2; exact t2.elim
    · rw [g] at t2
      exact ⟨a, z, .int i, rfl, rfl, ⟨es, n, _, h2.at_, h2.lit, f, u, rfl⟩, wq _ r1 _ F1 H1 t2 R1 s1 (.int i)⟩
  | _ => exact t1.elim
end
end DL
end

section
set_option Elab.async false
set_option linter.all false
set_option maxRecDepth 100000
set_option maxHeartbeats 2000000
/-! ## zip of three tuples -/
namespace DL
open PySem PySem.Spec PyProof.Rows L2
open Sem (wp)
/-- the tuples at a, b, c as they stand at each turn, the items in new triples -/
def Itz3 (K : PySem.W.Frag) (a b c : Addr) : It :=
  ⟨fun i H => ∃ (xs ys zs : List V) (x y z : V), SqT K H a xs ∧ SqT K H b ys ∧ SqT K H c zs ∧ xs[i]? = some x ∧ ys[i]? = some y ∧ zs[i]? = some z,
    fun i H v H' => ∃ T x y z, v = .ref T ∧ H T = none ∧ H' = upd H T (.tup [x, y, z]) ∧ (∀ xs, SqT K H a xs → xs[i]? = some x) ∧ (∀ ys, SqT K H b ys → ys[i]? = some y) ∧ ∀ zs, SqT K H c zs → zs[i]? = some z,
    fun i H => ∃ xs ys zs : List V, SqT K H a xs ∧ SqT K H b ys ∧ SqT K H c zs ∧ xs.length ≤ i ∧ ys.length ≤ i ∧ zs.length ≤ i⟩
/-- a tuple's iterator at its end -/
theorem draws_ended {prog : Program} {w : World} {A : Around} (hh : A.handled = none) (it a : Addr) (items : Array Value) (i : Nat) (hi : items.size ≤ i) :
    Draws prog w A it [it, a] i (fun _ _ => True) (fun j h => j = i ∧ h.IsTupleIter it a i ∧ h.IsTuple a items) where
  live := fun _ _ st => let ⟨o, ho, _⟩ := st.2.1; ⟨o, ho⟩
  frame := fun _ _ _ st hk => ⟨st.1, st.2.1.at fun o e => hk it (by simp) o e, st.2.2.at fun o e => hk a (by simp) o e⟩
  item := fun j s Q E hj st _ => absurd st.1 (Nat.ne_of_lt hj)
  done := fun s Q E st hE => wpAny_nextOf_tuple_end hh st.2.1 st.2.2 (by simp; omega) hE
theorem turn_zip3 {P : Program} {w : World} {K : PySem.W.Frag} {elts : List Expr} {kk : Nat} {tpos : Pos} {a b c N : Addr} (ha : a < N) (hb : b < N) (hc' : c < N) :
    Turn P w K (.Tuple elts kk tpos) (Itz3 K a b c) [N + 5, N + 3, N + 4, N, N + 1, N + 2] (N + 5) (fun i h => IsZip h (N + 5) (N + 3) (N + 4) .none ∧ IsTupOf3 h (N + 3) (.ref N) (.ref (N + 1)) (.ref (N + 2)) ∧ (∃ x y z, IsTupOf3 h (N + 4) x y z) ∧ h.IsTupleIter N a i ∧ h.IsTupleIter (N + 1) b i ∧ h.IsTupleIter (N + 2) c i) where
  mem := by simp
  obj := fun i h st q hq => by
    obtain ⟨hz, hTI, ⟨x, y, z, hTO⟩, ⟨o1, e1, _, d1⟩, ⟨o2, e2, _, d2⟩, ⟨o3, e3, _, d3⟩⟩ := st
    have e' : q = N + 5 ∨ q = N + 3 ∨ q = N + 4 ∨ q = N ∨ q = N + 1 ∨ q = N + 2 := by simpa using hq
    rcases e' with q | q | q | q | q | q
    · rw [q]; exact ⟨_, hz, fun v q => nomatch q⟩
    · rw [q]; exact ⟨_, hTI, fun v q => nomatch q⟩
    · rw [q]; exact ⟨_, hTO, fun v q => nomatch q⟩
    · rw [q]; exact ⟨o1, e1, fun v q => by rw [d1] at q; cases q⟩
    · rw [q]; exact ⟨o2, e2, fun v q => by rw [d2] at q; cases q⟩
    · rw [q]; exact ⟨o3, e3, fun v q => by rw [d3] at q; cases q⟩
  keep := fun i h h' st k => by
    obtain ⟨hz, hTI, ⟨x, y, z, hTO⟩, h1, h2, h3⟩ := st
    exact ⟨k (N + 5) (by simp) _ hz, k (N + 3) (by simp) _ hTI, ⟨x, y, z, k (N + 4) (by simp) _ hTO⟩, h1.at fun o q => k N (by simp) o q, h2.at fun o q => k (N + 1) (by simp) o q, h3.at fun o q => k (N + 2) (by simp) o q⟩
  item := by
    intro X hP hw hK hc i pins s σ H E I hf st hg
    subst hP hw hK
    obtain ⟨hz, hTI, ⟨x0, y0, z0, hTO⟩, h1, h2, h3⟩ := st
    obtain ⟨xs, ys, zs, x, y, z, q1, q2, q3, e1, e2, e3⟩ := hg
    obtain ⟨its1, rv1, p1, _⟩ := I.tuple q1
    obtain ⟨its2, rv2, p2, _⟩ := I.tuple q2
    obtain ⟨its3, rv3, p3, _⟩ := I.tuple q3
    obtain ⟨u1, hu1, ru1⟩ := rv1.get e1
    obtain ⟨u2, hu2, ru2⟩ := rv2.get e2
    obtain ⟨u3, hu3, ru3⟩ := rv3.get e3
    have hh : X.A.in1.handled = none := I.ok.hd hc
    have S : ZipSep3 (N + 5) (N + 3) (N + 4) N (N + 1) (N + 2) [N, a] [N + 1, b] [N + 2, c] := zip_sep3 (fp1 := [a]) (fp2 := [b]) (fp3 := [c]) (fun q hq => by rw [List.mem_singleton.1 hq]; exact ha) (fun q hq => by rw [List.mem_singleton.1 hq]; exact hb) (fun q hq => by rw [List.mem_singleton.1 hq]; exact hc')
    have W := WalksT.zipD3 (w := X.w) (prog := X.prog) (A := X.A) S (Draws.tuple hh N a (Nat.ne_of_lt ha) its1.toArray) (Draws.tuple hh (N + 1) b (Nat.ne_of_lt (Nat.lt_succ_of_lt hb)) its2.toArray) (Draws.tuple hh (N + 2) c (Nat.ne_of_lt (Nat.lt_succ_of_lt (Nat.lt_succ_of_lt hc'))) its3.toArray)
    have l1 := (List.getElem?_eq_some_iff.1 hu1).1
    have l2 := (List.getElem?_eq_some_iff.1 hu2).1
    have l3 := (List.getElem?_eq_some_iff.1 hu3).1
    refine W.item i s _ _ (by rw [List.size_toArray, List.size_toArray, List.size_toArray]; omega) ⟨hz, hTI, ⟨_, _, _, hTO⟩, ⟨h1, p1⟩, ⟨h2, p2⟩, ⟨h3, p3⟩⟩ fun T vals h' tk hv hT hTup mid hk => ?_
    obtain ⟨v1, v2, v3, g1, g2, g3, rfl⟩ := hv
    have w1 : u1 = v1 := by have : its1[i]? = some v1 := by simpa using g1
                            rw [hu1] at this; exact Option.some.inj this
    have w2 : u2 = v2 := by have : its2[i]? = some v2 := by simpa using g2
                            rw [hu2] at this; exact Option.some.inj this
    have w3 : u3 = v3 := by have : its3[i]? = some v3 := by simpa using g3
                            rw [hu3] at this; exact Option.some.inj this
    subst w1 w2 w3
    refine ⟨_, rfl, W.go elts kk tpos i T { s with heap := h', toks := tk } _ _ mid fun h'' st' hk2 => ?_⟩
    obtain ⟨z1, z2, z3, ⟨z4, _⟩, ⟨z5, _⟩, ⟨z6, _⟩⟩ := st'
    have hTn := W.apart i T h' mid
    obtain ⟨ot, hot, hct, nt, hdt⟩ := hTup
    have hT2 := hk2 T ot hTn hot
    have new : ObjOk X.prog X.w (upd H T (.tup [x, y, z])) h'' T (.tup [x, y, z]) := ⟨(by decide : 3 ≤ sizeLine), [u1, u2, u3], .cons ru1 (.cons ru2 (.cons ru3 .nil)), ⟨ot, hT2, hct, nt, hdt⟩⟩
    have I1 : Inv X pins σ (upd H T (.tup [x, y, z])) { s with heap := h'', toks := tk } :=
      I.turnedNew (ch := [N + 5, N + 3, N + 4, N, N + 1, N + 2]) (fun q o hq e => by
        have hq' : q ∉ [N + 5, N + 4, N, N + 1, N + 2] := fun m => hq (by
          simp only [List.mem_cons, List.not_mem_nil, or_false] at m ⊢
          rcases m with m | m | m | m | m <;> simp [m])
        exact hk2 q o hq' (hk q o hq' e)) hf hT new
    have hn : H T = none := I.hok.fresh hT
    refine ⟨.ref T, _, I1, rfl, ⟨T, x, y, z, rfl, hn, rfl, fun l hl => by rw [I.tuple_inj hl q1]; exact e1, fun l hl => by rw [I.tuple_inj hl q2]; exact e2, fun l hl => by rw [I.tuple_inj hl q3]; exact e3⟩, ⟨z1, z2, z3, z4, z5, z6⟩, fun q hq => ?_⟩
    have hlt : q < s.heap.objs.size := by
      have e' : q = N + 5 ∨ q = N + 3 ∨ q = N + 4 ∨ q = N ∨ q = N + 1 ∨ q = N + 2 := by simpa using hq
      rcases e' with q | q | q | q | q | q
      · rw [q]; exact Heap.lt_size hz
      · rw [q]; exact Heap.lt_size hTI
      · rw [q]; exact Heap.lt_size hTO
      · rw [q]; obtain ⟨_, e, _⟩ := h1; exact Heap.lt_size e
      · rw [q]; obtain ⟨_, e, _⟩ := h2; exact Heap.lt_size e
      · rw [q]; obtain ⟨_, e, _⟩ := h3; exact Heap.lt_size e
    rw [upd_ne (Nat.ne_of_lt (Nat.lt_of_lt_of_le hlt hT))]
    exact (hf q hq).1
  done := by
    intro X hP hw hK hc i pins s σ H E I hf st hg
    subst hP hw hK
    obtain ⟨hz, hTI, ⟨x0, y0, z0, hTO⟩, h1, h2, h3⟩ := st
    obtain ⟨xs, ys, zs, q1, q2, q3, e1, e2, e3⟩ := hg
    obtain ⟨its1, rv1, p1, _⟩ := I.tuple q1
    obtain ⟨its2, rv2, p2, _⟩ := I.tuple q2
    obtain ⟨its3, rv3, p3, _⟩ := I.tuple q3
    have l1 := rv1.length
    have l2 := rv2.length
    have l3 := rv3.length
    have hh : X.A.in1.handled = none := I.ok.hd hc
    have S : ZipSep3 (N + 5) (N + 3) (N + 4) N (N + 1) (N + 2) [N, a] [N + 1, b] [N + 2, c] := zip_sep3 (fp1 := [a]) (fp2 := [b]) (fp3 := [c]) (fun q hq => by rw [List.mem_singleton.1 hq]; exact ha) (fun q hq => by rw [List.mem_singleton.1 hq]; exact hb) (fun q hq => by rw [List.mem_singleton.1 hq]; exact hc')
    have W := WalksT.zipD3 (w := X.w) (prog := X.prog) (A := X.A) S (draws_ended hh N a its1.toArray i (by rw [List.size_toArray]; omega)) (draws_ended hh (N + 1) b its2.toArray i (by rw [List.size_toArray]; omega)) (draws_ended hh (N + 2) c its3.toArray i (by rw [List.size_toArray]; omega))
    have en : min (min i i) i = i := by omega
    rw [en] at W
    refine W.done s _ _ ⟨hz, hTI, ⟨_, _, _, hTO⟩, ⟨rfl, h1, p1⟩, ⟨rfl, h2, p2⟩, ⟨rfl, h3, p3⟩⟩ fun h' tk hk => ⟨rfl, ?_⟩
    refine I.turnedL (ch := [N + 5, N + 3, N + 4, N, N + 1, N + 2]) (fun q o hq e => ?_) hf
    have hq' : q ∉ [N + 5, N + 4, N, N + 1, N + 2] := fun m => hq (by
      simp only [List.mem_cons, List.not_mem_nil, or_false] at m ⊢
      rcases m with m | m | m | m | m <;> simp [m])
    exact hk q o hq' e
  self := fun A i s Q E st h => wpAny_pyIter_zip st.1 h
def iZip3 (K : PySem.W.Frag) (ta : TA) : TI := fun σ H R => ta σ H fun vs H1 => ∃ a b c xs ys zs, vs = [.ref a, .ref b, .ref c] ∧ SqT K H1 a xs ∧ SqT K H1 b ys ∧ SqT K H1 c zs ∧ R (Itz3 K a b c) H1
theorem pi_zip3 {X : Cx} {e e2 e3 : Expr} {ta : TA} {p pos tpos : Pos} {elts : List Expr} {kk : Nat} (hg : Gl X "zip") (hm : X.mg "zip" = none) (ha : PA X [e, e2, e3] ta)
    (hs : starEach [e, e2, e3] X.env = (false, eval e X.env) :: starEach [e2, e3] X.env := by rfl) (hpl : (backTo pos (starEach [e2, e3] X.env)).any (·.1) = false := by rfl) :
    PI X (.Tuple elts kk tpos) (.Call (.Name "zip" p) [e, e2, e3] [] pos) (iZip3 X.K ta) := by
  refine ⟨fun pins s σ H R I h => ?_⟩
  refine Call_ (ld_blt I hg hm PyProof.Rows.boot_zip (PyProof.Rows.callWith_type1 (thn (ha.run pos pins s σ H _ I h) fun us s1 ⟨vs, H1, I1, r1, q1⟩ => ?_) hs hpl))
  obtain ⟨a, b, c, xs, ys, zs, ex, hqx, hqy, hqz, q⟩ := q1
  subst ex
  cases r1 with
  | cons r rr =>
  cases rr with
  | cons r' rr =>
  cases rr with
  | cons r'' rr =>
    cases rr
    cases r
    cases r'
    cases r''
    obtain ⟨its, rv, p1, _⟩ := I1.tuple hqx
    obtain ⟨its2, rv2, p2, _⟩ := I1.tuple hqy
    obtain ⟨its3, rv3, p3, _⟩ := I1.tuple hqz
    obtain ⟨o1, ho1, _⟩ := id p1
    obtain ⟨o2, ho2, _⟩ := id p2
    obtain ⟨o3, ho3, _⟩ := id p3
    refine zip_begins3 (begins_tuple a its.toArray) (begins_tuple b its2.toArray) (begins_tuple c its3.toArray) p1 p2 p3 fun h' hz hTI hTO h1 h2 h3 hsz hk => wpAny_pyIter_zip hz ?_
    have I2 : Inv X pins σ H1 { s1 with heap := h' } := I1.kept (t' := s1.toks) hk
    refine ⟨s1.heap.objs.size + 5, [s1.heap.objs.size + 5, s1.heap.objs.size + 3, s1.heap.objs.size + 4, s1.heap.objs.size, s1.heap.objs.size + 1, s1.heap.objs.size + 2], _, _, H1, rfl, I2, turn_zip3 (Heap.lt_size ho1) (Heap.lt_size ho2) (Heap.lt_size ho3), ⟨hz, hTI, ⟨_, _, _, hTO⟩, ⟨_, h1, rfl, rfl⟩, ⟨_, h2, rfl, rfl⟩, ⟨_, h3, rfl, rfl⟩⟩, fun q hq => ?_, q⟩
    have hle : s1.heap.objs.size ≤ q := by
      have e' : q = s1.heap.objs.size + 5 ∨ q = s1.heap.objs.size + 3 ∨ q = s1.heap.objs.size + 4 ∨ q = s1.heap.objs.size ∨ q = s1.heap.objs.size + 1 ∨ q = s1.heap.objs.size + 2 := by simpa using hq
      rcases e' with z | z | z | z | z | z
      · rw [z]; exact Nat.le_add_right _ _
      · rw [z]; exact Nat.le_add_right _ _
      · rw [z]; exact Nat.le_add_right _ _
      · rw [z]; exact Nat.le_refl _
      · rw [z]; exact Nat.le_add_right _ _
      · rw [z]; exact Nat.le_add_right _ _
    exact I1.fpOk hle (I1.hok.fresh hle)
section
variable {X : Cx} {K : PySem.W.Frag}
def zip3D : List D → List D → List D → List D
  | a :: s, b :: t, c :: u => .tuple [a, b, c] :: zip3D s t u
  | _, _, _ => []
theorem zip3D_len : ∀ (as bs cs : List D), as.length = bs.length → as.length = cs.length → (zip3D as bs cs).length = as.length
  | [], [], [], _, _ => rfl
  | a :: s, b :: t, c :: u, h1, h2 => by simp [zip3D, zip3D_len s t u (by simpa using h1) (by simpa using h2)]
theorem zip3D_get : ∀ (as bs cs : List D) (i : Nat) (d : D), (zip3D as bs cs)[i]? = some d → ∃ a b c, as[i]? = some a ∧ bs[i]? = some b ∧ cs[i]? = some c ∧ d = .tuple [a, b, c]
  | [], _, _, _, _, h => by simp [zip3D] at h
  | _ :: _, [], _, _, _, h => by simp [zip3D] at h
  | _ :: _, _ :: _, [], _, _, h => by simp [zip3D] at h
  | a :: s, b :: t, c :: u, 0, d, h => by simp [zip3D] at h; exact ⟨a, b, c, rfl, rfl, rfl, h.symm⟩
  | a :: s, b :: t, c :: u, i + 1, d, h => by simpa using zip3D_get s t u i d (by simpa [zip3D] using h)
theorem jok_zip3 {F0 : Hp} {a b c : Addr} {vs ws us : List V} {ds es fs : List D} (h : SqT K F0 a vs) (p : RpAll K F0 vs ds) (h' : SqT K F0 b ws) (p' : RpAll K F0 ws es) (h'' : SqT K F0 c us) (p'' : RpAll K F0 us fs)
    (l1 : ds.length = es.length) (l2 : ds.length = fs.length) : JOk K F0 (Itz3 K a b c) (zip3D ds es fs) where
  stop := fun i F H s1 s2 hi => by
    rw [zip3D_len _ _ _ l1 l2] at hi
    exact ⟨vs, ws, us, same_tup s2 (same_tup s1 h), same_tup s2 (same_tup s1 h'), same_tup s2 (same_tup s1 h''), by rw [p.length]; exact hi, by rw [p'.length]; omega, by rw [p''.length]; omega⟩
  go := fun i F H s1 s2 hi => by
    rw [zip3D_len _ _ _ l1 l2] at hi
    have h1 : i < vs.length := by rw [p.length]; omega
    have h2 : i < ws.length := by rw [p'.length]; omega
    have h3 : i < us.length := by rw [p''.length]; omega
    exact ⟨vs, ws, us, vs[i], ws[i], us[i], same_tup s2 (same_tup s1 h), same_tup s2 (same_tup s1 h'), same_tup s2 (same_tup s1 h''), by simp [h1], by simp [h2], by simp [h3]⟩
  yld := fun i F H x H' d s1 s2 y e => by
    obtain ⟨T, u, v, x3, rfl, hT, rfl, y1, y2, y3⟩ := y
    obtain ⟨d1, d2, d3, e1, e2, e3, rfl⟩ := zip3D_get _ _ _ _ _ e
    obtain ⟨d1', k1, k2⟩ := p.get (y1 vs (same_tup s2 (same_tup s1 h)))
    obtain ⟨d2', k3, k4⟩ := p'.get (y2 ws (same_tup s2 (same_tup s1 h')))
    obtain ⟨d3', k5, k6⟩ := p''.get (y3 us (same_tup s2 (same_tup s1 h'')))
    rw [e1] at k1; cases k1
    rw [e2] at k3; cases k3
    rw [e3] at k5; cases k5
    have xt := ext_new (o := .tup [u, v, x3]) s2 hT
    exact ⟨_, xt, .tup (.inl (.inl upd_same)) (.cons ((k2.up s1).up xt.f) (.cons ((k4.up s1).up xt.f) (.cons ((k6.up s1).up xt.f) .nil)))⟩
def iZp3 (ta : DTA) : DTI := fun r q => ta r fun ds r1 => match ds with
  | [.tuple xs, .tuple ys, .tuple zs] => (xs.length = ys.length ∧ xs.length = zs.length) ∧ q (zip3D xs ys zs) r1
  | _ => False
theorem di_zip3 {e e2 e3 : Expr} {ta : DTA} {p pos tpos : Pos} {elts : List Expr} {kk : Nat} (hg : Gl X "zip") (hm : X.mg "zip" = none) (ha : DA X [e, e2, e3] ta)
    (hs : starEach [e, e2, e3] X.env = (false, eval e X.env) :: starEach [e2, e3] X.env := by rfl) (hpl : (backTo pos (starEach [e2, e3] X.env)).any (·.1) = false := by rfl) :
    DI X (.Tuple elts kk tpos) (.Call (.Name "zip" p) [e, e2, e3] [] pos) (iZp3 ta) := by
  refine ⟨fun W => pi_weak (pi_zip3 hg hm (ha.run W) hs hpl) fun σ H Q h => ?_⟩
  obtain ⟨r, F, q, R, t, w⟩ := h
  refine ⟨r, F, _, R, t, fun ds r' vs F' H' a b c p => ?_⟩
  match ds, p, a with
  | [.tuple xs, .tuple ys, .tuple zs], .cons (.tup h1 h2) (.cons (.tup k1 k2) (.cons (.tup m1 m2) .nil)), ⟨⟨l1, l2⟩, a⟩ => exact ⟨_, _, _, _, _, _, rfl, same_tup b.sub h1, same_tup b.sub k1, same_tup b.sub m1, w _ r' _ F' H' a b c (jok_zip3 h1 h2 k1 k2 m1 m2 l1 l2)⟩
end
end DL
end

section
set_option Elab.async false
set_option linter.all false
set_option maxRecDepth 100000
/-! ## alike, kind by kind -/
namespace DL
open PySem PySem.Spec PyProof.Rows L2
/-- plain data of so many levels -/
def Pl : Nat → D → Prop
  | _, .none => True
  | _, .bool _ => True
  | _, .int _ => True
  | _, .str _ => True
  | k + 1, .list ds => ds.length < 2 ^ 24 ∧ ∀ d ∈ ds, Pl k d
  | k + 1, .tuple ds => ds.length < 2 ^ 24 ∧ ∀ d ∈ ds, Pl k d
  | _, _ => False
theorem Pl.int {k : Nat} {i : Int} : Pl k (.int i) := by cases k <;> exact trivial
theorem Pl.bool {k : Nat} {i : Bool} : Pl k (.bool i) := by cases k <;> exact trivial
theorem Pl.str {k : Nat} {i : Str} : Pl k (.str i) := by cases k <;> exact trivial
theorem Pl.ints {k : Nat} {ns : List Int} (h : ns.length < 2 ^ 24) : Pl (k + 1) (.list (ns.map PyData.int)) := ⟨by rw [List.length_map]; exact h, fun d m => by
  obtain ⟨n, _, rfl⟩ := List.mem_map.1 m
  exact .int⟩
theorem Pl.row {k : Nat} {ns : List Int} (h : ns.length < 2 ^ 24) : Pl (k + 1) (bD ns) := ⟨by rw [List.length_map]; exact h, fun d m => by
  obtain ⟨n, _, rfl⟩ := List.mem_map.1 m
  exact .int⟩
theorem Pl.tup2 {k : Nat} {a b : D} (ha : Pl k a) (hb : Pl k b) : Pl (k + 1) (.tuple [a, b]) := ⟨by show 2 < 2 ^ 24; decide, fun d m => by
  rcases List.mem_cons.1 m with rfl | m
  · exact ha
  · rcases List.mem_cons.1 m with rfl | m
    · exact hb
    · cases m⟩
theorem Pl.tup3 {k : Nat} {a b c : D} (ha : Pl k a) (hb : Pl k b) (hc : Pl k c) : Pl (k + 1) (.tuple [a, b, c]) := ⟨by show 3 < 2 ^ 24; decide, fun d m => by
  rcases List.mem_cons.1 m with rfl | m
  · exact ha
  · rcases List.mem_cons.1 m with rfl | m
    · exact hb
    · rcases List.mem_cons.1 m with rfl | m
      · exact hc
      · cases m⟩
theorem Pl.fD {k : Nat} {x : Rat} : Pl (k + 1) (fD x) := Pl.tup2 .int .int
def b_same (sp_law_same : DSp) : DTS :=
  (sSeq (sIf (tTru (eIsi2 .list .tuple (eVar 1))) (sSeq (sIf (tOr' (tBl (eOp2 pNe (eIsi .list (eVar 0)) (eIsi .list (eVar 1)))) (tBl (eOp2 pNe (eIsi .tuple (eVar 0)) (eIsi .tuple (eVar 1))))) (sRet (eC (.bool false))) sNext)
  (sRet (eAnd (eOp2 pEq (eLenV 0) (eLenV 1)) (eCall pAll (aCons (eFrz (oComp false [2, 3] (iZp (aCons (eVar 0) (aCons (eVar 1) aNil))) tYesD (eCallF 2 sp_law_same (cCons (eVar 2) (cCons (eVar 3) cNil))))) aNil))))) sNext)
  (sSeq (sIf (tBl (eOp2 pIs (eVar 1) (eC .none))) (sRet (eOp2 pIs (eVar 0) (eC .none))) sNext)
  (sSeq (sIf (tTru (eIsi .str (eVar 1))) (sRet (eAnd (eIsi .str (eVar 0)) (eOp2 pEq (eVar 0) (eVar 1)))) sNext)
  (sSeq (sIf (tTru (eIsi .bool (eVar 1))) (sRet (eAnd (eIsi .bool (eVar 0)) (eOp2 pEq (eVar 0) (eVar 1)))) sNext)
  (sRet (eAnd (eIsi .int (eVar 0)) (eAnd (eNot (eIsi .bool (eVar 0))) (eOp2 pEq (eVar 0) (eVar 1)))))))))
def sp_same : Nat → DSp
  | 0 => fun _ _ => False
  | k + 1 => fun cs post => ∃ d : D, cs = [.sh d, .sh d] ∧ Pl k d ∧ post (.sh (.bool true)) []
theorem sp_same_none (cs post) (h : sp_same 0 cs post) : False := h
theorem same_pairs {k : Nat} {ds : List D} {c0 c1 : Option Cell} {Q : List D → DSt → Prop} (hd : ∀ d ∈ ds, Pl k d) (h : Q ((List.replicate (zipD ds ds).length true).map PyData.bool) [c0, c1, none, none]) :
    compD false [2, 3] tYesD (eCallF 2 (sp_same (k + 1)) (cCons (eVar 2) (cCons (eVar 3) cNil))) (zipD ds ds) [] [c0, c1, none, none] Q := by
  refine idx_comp (zipD ds ds) (fun i acc r => acc = (List.replicate i true).map PyData.bool ∧ r = [c0, c1, none, none]) ?_ ?_ _ ⟨rfl, rfl⟩
  · rintro i hi acc r N ⟨rfl, rfl⟩ hN
    obtain ⟨a, b, h1, h2, h3⟩ := zipD_get ds ds i _ (List.getElem?_eq_getElem hi)
    rw [h1] at h2
    cases h2
    rw [h3]
    refine ⟨rfl, rfl, .nil, a, rfl, hd a (List.mem_of_getElem? h1), ?_⟩
    refine hN _ _ ⟨?_, rfl⟩
    rw [List.replicate_succ', List.map_append]
    rfl
  · rintro acc r ⟨rfl, rfl⟩
    exact h
theorem all_true (n : Nat) : (List.replicate n true).all id = true := by
  rw [List.all_eq_true]
  intro x m
  rw [List.eq_of_mem_replicate m]; rfl
theorem p_same (k : Nat) (cs post) (h : sp_same (k + 1) cs post) : runD 4 (b_same (sp_same k)) cs post := by
  obtain ⟨d, rfl, hp, q⟩ := h
  have hbig := line_big
  have seq : ∀ (ds : List D) (P : D → Prop), ds.length < 2 ^ 24 → (zipD ds ds).length ≤ sizeLine := fun ds _ h => by rw [zipD_len]; omega
  cases d with
  | none => exact ⟨rfl, q⟩
  | bool b =>
    refine ⟨rfl, rfl, rfl, rfl, ?_⟩
    have e : decide (b = b) = true := by simp
    show post (.sh (.bool (decide (b = b)))) []
    rw [e]; exact q
  | int i =>
    refine ⟨rfl, rfl, rfl, rfl, rfl, ?_⟩
    have e : decide (i = i) = true := by simp
    show post (.sh (.bool (decide (i = i)))) []
    rw [e]; exact q
  | str i =>
    refine ⟨rfl, rfl, rfl, ?_⟩
    have e : decide (i = i) = true := by simp
    show post (.sh (.bool (decide (i = i)))) []
    rw [e]; exact q
  | list ds =>
    cases k with
    | zero => exact hp.elim
    | succ k =>
      refine ⟨rfl, rfl, rfl, rfl, rfl, ?_⟩
      refine ifT rfl ⟨by rw [zipD_len]; have := hp.1; omega, ?_⟩
      exact same_pairs hp.2 ⟨_, rfl, by rw [all_true]; exact q⟩
  | tuple ds =>
    cases k with
    | zero => exact hp.elim
    | succ k =>
      refine ⟨rfl, rfl, rfl, rfl, rfl, ?_⟩
      refine ifT rfl ⟨by rw [zipD_len]; have := hp.1; omega, ?_⟩
      exact same_pairs hp.2 ⟨_, rfl, by rw [all_true]; exact q⟩
  | dict ds => cases k <;> exact hp.elim
end DL
/-! ## loops and comprehensions told by the slots that they change -/
namespace DL
open PySem PySem.Spec PyProof.Rows L2
theorem at_in {α : Type} {l : List α} {i : Int} (h0 : 0 ≤ i) (h1 : i < l.length) : atI l i = some (l[i.toNat]'(by omega)) := by
  have hl : i.toNat < l.length := by omega
  unfold atI
  rw [ix_in h0 h1]
  simp [hl]
theorem at_nat {α : Type} {l : List α} {i : Nat} (h1 : i < l.length) : atI l (i : Int) = some (l[i]) := at_in (by omega) (by omega)
def putsC : List Nat → List (Option Cell) → DSt → DSt
  | j :: js, c :: cs, r => putsC js cs (dput r j c)
  | _, _, r => r
theorem idx_on {g : DTG} {tb : DTS} {E : DEnds} (ds : List D) (js : List Nat) (r : DSt) (I : Nat → List (Option Cell) → Prop)
    (step : ∀ (i : Nat) (h : i < ds.length) cs (N : DSt → Prop), I i cs → (∀ cs', I (i + 1) cs' → N (putsC js cs' r)) → g ds[i] (putsC js cs r) fun r1 => tb { E with nx := N, ct := N, bk := E.nx } r1)
    (fin : ∀ cs, I ds.length cs → E.nx (putsC js cs r)) (h : I 0 (js.map (dat r))) (e : putsC js (js.map (dat r)) r = r := by rfl) : loopD g tb ds E r := by
  refine idx_loop ds (fun i r' => ∃ cs, I i cs ∧ r' = putsC js cs r) ?_ ?_ r ⟨_, h, e.symm⟩
  · rintro i hi r' N ⟨cs, hI, rfl⟩ hN
    exact step i hi cs N hI fun cs' h' => hN _ ⟨cs', h', rfl⟩
  · rintro r' ⟨cs, hI, rfl⟩
    exact fin cs hI
theorem rng_on {g : DTG} {tb : DTS} {E : DEnds} (lo : Int) (n : Nat) (js : List Nat) (r : DSt) (I : Nat → List (Option Cell) → Prop)
    (step : ∀ (i : Nat) (h : i < n) cs (N : DSt → Prop), I i cs → (∀ cs', I (i + 1) cs' → N (putsC js cs' r)) → g (.int (lo + i)) (putsC js cs r) fun r1 => tb { E with nx := N, ct := N, bk := E.nx } r1)
    (fin : ∀ cs, I n cs → E.nx (putsC js cs r)) (h : I 0 (js.map (dat r))) (e : putsC js (js.map (dat r)) r = r := by rfl) : loopD g tb (rngD lo n) E r := by
  refine rng_loop lo n (fun i r' => ∃ cs, I i cs ∧ r' = putsC js cs r) ?_ ?_ r ⟨_, h, e.symm⟩
  · rintro i hi r' N ⟨cs, hI, rfl⟩ hN
    exact step i hi cs N hI fun cs' h' => hN _ ⟨cs', h', rfl⟩
  · rintro r' ⟨cs, hI, rfl⟩
    exact fin cs hI
theorem ints_on {g : DTG} {tb : DTS} {E : DEnds} (ns : List Int) (js : List Nat) (r : DSt) (I : Nat → List (Option Cell) → Prop)
    (step : ∀ (i : Nat) (h : i < ns.length) cs (N : DSt → Prop), I i cs → (∀ cs', I (i + 1) cs' → N (putsC js cs' r)) → g (.int ns[i]) (putsC js cs r) fun r1 => tb { E with nx := N, ct := N, bk := E.nx } r1)
    (fin : ∀ cs, I ns.length cs → E.nx (putsC js cs r)) (h : I 0 (js.map (dat r))) (e : putsC js (js.map (dat r)) r = r := by rfl) : loopD g tb (ns.map PyData.int) E r := by
  refine ints_loop ns (fun i r' => ∃ cs, I i cs ∧ r' = putsC js cs r) ?_ ?_ r ⟨_, h, e.symm⟩
  · rintro i hi r' N ⟨cs, hI, rfl⟩ hN
    exact step i hi cs N hI fun cs' h' => hN _ ⟨cs', h', rfl⟩
  · rintro r' ⟨cs, hI, rfl⟩
    exact fin cs hI
/-- each item told by itself, the slots as they were -/
theorem comp_map {one : Bool} {js : List Nat} {te : DTE} {Q : List D → DSt → Prop} (ds : List D) (r : DSt) (f : D → D)
    (step : ∀ d ∈ ds, ∀ q : D → DSt → Prop, (∀ r', wipeD r' js = r → q (f d) r') → tgD one js d r fun r1 => te r1 q)
    (fin : Q (ds.map f) r) : compD one js tYesD te ds [] r Q := by
  refine idx_comp ds (fun i acc r' => acc = (ds.take i).map f ∧ r' = r) ?_ ?_ r ⟨rfl, rfl⟩
  · rintro i hi acc r' N ⟨rfl, rfl⟩ hN
    show tgD one js ds[i] r' fun r1 => te r1 fun y r3 => N ((ds.take i).map f ++ [y]) r3
    refine step _ (List.getElem_mem hi) _ fun r2 e => hN _ _ ⟨?_, e⟩
    rw [List.take_succ_eq_append_getElem hi, List.map_append]
    rfl
  · rintro acc r' ⟨rfl, rfl⟩
    rw [List.take_length]
    exact fin
/-- of range: item by item, told as ints -/
theorem comp_rng {js : List Nat} {te : DTE} {Q : List D → DSt → Prop} (n : Nat) (r : DSt) (f : Nat → D)
    (step : ∀ i < n, ∀ q : D → DSt → Prop, (∀ r', wipeD r' js = r → q (f i) r') → tgD true js (.int (i : Nat)) r fun r1 => te r1 q)
    (fin : Q ((List.range n).map f) r) : compD true js tYesD te (rngD 0 n) [] r Q := by
  refine rng_comp 0 n (fun i acc r' => acc = (List.range i).map f ∧ r' = r) ?_ ?_ r ⟨rfl, rfl⟩
  · rintro i hi acc r' N ⟨rfl, rfl⟩ hN
    show tgD true js (.int (0 + (i : Int))) r' fun r1 => te r1 fun y r3 => N ((List.range i).map f ++ [y]) r3
    rw [Int.zero_add]
    refine step i hi _ fun r2 e => hN _ _ ⟨?_, e⟩
    rw [List.range_succ, List.map_append]
    rfl
  · rintro acc r' ⟨rfl, rfl⟩
    exact fin
/-- with a test: those of which it is true -/
theorem comp_filter {one : Bool} {js : List Nat} {tt : DTT} {te : DTE} {Q : List D → DSt → Prop} (ds : List D) (r : DSt) (p : D → Bool) (f : D → D)
    (step : ∀ d ∈ ds, ∀ (q : D → DSt → Prop) (q' : DSt → Prop), (p d = true → ∀ r', wipeD r' js = r → q (f d) r') → (p d = false → ∀ r', wipeD r' js = r → q' r') → tgD one js d r fun r1 => tt r1 fun b r2 => if b = true then te r2 q else q' r2)
    (fin : Q ((ds.filter p).map f) r) : compD one js tt te ds [] r Q := by
  refine idx_comp ds (fun i acc r' => acc = ((ds.take i).filter p).map f ∧ r' = r) ?_ ?_ r ⟨rfl, rfl⟩
  · rintro i hi acc r' N ⟨rfl, rfl⟩ hN
    refine step _ (List.getElem_mem hi) _ _ (fun hp r2 e => hN _ _ ⟨?_, e⟩) (fun hp r2 e => hN _ _ ⟨?_, e⟩)
    · rw [List.take_succ_eq_append_getElem hi, List.filter_append, List.map_append, List.filter_cons_of_pos hp]
      rfl
    · rw [List.take_succ_eq_append_getElem hi, List.filter_append, List.map_append, List.filter_cons_of_neg (by rw [hp]; exact Bool.false_ne_true)]
      simp
  · rintro acc r' ⟨rfl, rfl⟩
    rw [List.take_length]
    exact fin
theorem comp_mapA {α : Type} {one : Bool} {js : List Nat} {te : DTE} {Q : List D → DSt → Prop} (xs : List α) (g : α → D) (r : DSt) (f : α → D)
    (step : ∀ x ∈ xs, ∀ q : D → DSt → Prop, (∀ r', wipeD r' js = r → q (f x) r') → tgD one js (g x) r fun r1 => te r1 q)
    (fin : Q (xs.map f) r) : compD one js tYesD te (xs.map g) [] r Q := by
  refine idx_comp (xs.map g) (fun i acc r' => acc = (xs.take i).map f ∧ r' = r) ?_ ?_ r ⟨rfl, rfl⟩
  · rintro i hi acc r' N ⟨rfl, rfl⟩ hN
    rw [List.length_map] at hi
    show tgD one js (xs.map g)[i] r' fun r1 => te r1 fun y r3 => N ((xs.take i).map f ++ [y]) r3
    rw [List.getElem_map]
    refine step _ (List.getElem_mem hi) _ fun r2 e => hN _ _ ⟨?_, e⟩
    rw [List.take_succ_eq_append_getElem hi, List.map_append]
    rfl
  · rintro acc r' ⟨rfl, rfl⟩
    rw [List.length_map, List.take_length]
    exact fin
theorem comp_filterA {α : Type} {one : Bool} {js : List Nat} {tt : DTT} {te : DTE} {Q : List D → DSt → Prop} (xs : List α) (g : α → D) (r : DSt) (p : α → Bool) (f : α → D)
    (step : ∀ x ∈ xs, ∀ (q : D → DSt → Prop) (q' : DSt → Prop), (p x = true → ∀ r', wipeD r' js = r → q (f x) r') → (p x = false → ∀ r', wipeD r' js = r → q' r') → tgD one js (g x) r fun r1 => tt r1 fun b r2 => if b = true then te r2 q else q' r2)
    (fin : Q ((xs.filter p).map f) r) : compD one js tt te (xs.map g) [] r Q := by
  refine idx_comp (xs.map g) (fun i acc r' => acc = ((xs.take i).filter p).map f ∧ r' = r) ?_ ?_ r ⟨rfl, rfl⟩
  · rintro i hi acc r' N ⟨rfl, rfl⟩ hN
    rw [List.length_map] at hi
    rw [List.getElem_map]
    refine step _ (List.getElem_mem hi) _ _ (fun hp r2 e => hN _ _ ⟨?_, e⟩) (fun hp r2 e => hN _ _ ⟨?_, e⟩)
    · rw [List.take_succ_eq_append_getElem hi, List.filter_append, List.map_append, List.filter_cons_of_pos hp]
      rfl
    · rw [List.take_succ_eq_append_getElem hi, List.filter_append, List.map_append, List.filter_cons_of_neg (by rw [hp]; exact Bool.false_ne_true)]
      simp
  · rintro acc r' ⟨rfl, rfl⟩
    rw [List.length_map, List.take_length]
    exact fin
theorem map_on {α : Type} {g : DTG} {tb : DTS} {E : DEnds} (xs : List α) (h : α → D) (js : List Nat) (r : DSt) (I : Nat → List (Option Cell) → Prop)
    (step : ∀ (i : Nat) (hi : i < xs.length) cs (N : DSt → Prop), I i cs → (∀ cs', I (i + 1) cs' → N (putsC js cs' r)) → g (h xs[i]) (putsC js cs r) fun r1 => tb { E with nx := N, ct := N, bk := E.nx } r1)
    (fin : ∀ cs, I xs.length cs → E.nx (putsC js cs r)) (h0 : I 0 (js.map (dat r))) (e : putsC js (js.map (dat r)) r = r := by rfl) : loopD g tb (xs.map h) E r := by
  refine idx_on (xs.map h) js r I ?_ ?_ h0 e
  · rintro i hi cs N hI hN
    rw [List.length_map] at hi
    rw [List.getElem_map]
    exact step i hi cs N hI hN
  · intro cs hI
    rw [List.length_map] at hI
    exact fin cs hI
/-- draws: as many numbers below k as turns -/
theorem comp_takes {js : List Nat} {te : DTE} {Q : List D → DSt → Prop} (ds : List D) (B : Int) (P : D → Prop) (C : M → DSt) (m : M) (hb : Box B m) 
    (step : ∀ d ∈ ds, ∀ (n : Int) (m : M) (q : D → DSt → Prop), B ≤ n → n < B + ds.length → Box n m → (∀ v m', P v → Box (n + 1) m' → ∀ r', wipeD r' js = C m' → q v r') → tgD true js d (C m) fun r1 => te r1 q)
    (fin : ∀ (vs : List D) (m' : M), vs.length = ds.length → (∀ v ∈ vs, P v) → Box (B + ds.length) m' → Q vs (C m')) : compD true js tYesD te ds [] (C m) Q := by
  refine idx_comp ds (fun i acc r' => ∃ m', r' = C m' ∧ Box (B + i) m' ∧ acc.length = i ∧ ∀ v ∈ acc, P v) ?_ ?_ _ ⟨m, rfl, hb.le (by omega), rfl, fun v h => by cases h⟩
  · rintro i hi acc r' N ⟨m', rfl, hb', hl, hP⟩ hN
    show tgD true js ds[i] (C m') fun r1 => te r1 fun y r3 => N (acc ++ [y]) r3
    refine step _ (List.getElem_mem hi) _ m' _ (by omega) (by omega) hb' fun v m2 hv hb2 r2 e => hN _ _ ⟨m2, e, hb2.le (by omega), by rw [List.length_append, hl]; rfl, fun x hx => ?_⟩
    rcases List.mem_append.1 hx with h | h
    · exact hP x h
    · rcases List.mem_cons.1 h with rfl | h
      · exact hv
      · cases h
  · rintro acc r' ⟨m', rfl, hb', hl, hP⟩
    exact fin acc m' hl hP hb'
theorem zipD_map {α β : Type} (g : α → D) (h : β → D) : ∀ (xs : List α) (ys : List β), zipD (xs.map g) (ys.map h) = (xs.zip ys).map fun p => .tuple [g p.1, h p.2]
  | [], _ => by simp [zipD]
  | _ :: _, [] => by simp [zipD]
  | x :: xs, y :: ys => by
    show _ :: zipD (xs.map g) (ys.map h) = _
    rw [zipD_map g h xs ys]; rfl
theorem enumD_map {α : Type} (g : α → D) : ∀ (xs : List α) (k : Nat), enumD k (xs.map g) = (xs.zipIdx k).map fun p => .tuple [.int (p.2 : Nat), g p.1]
  | [], _ => rfl
  | x :: xs, k => by
    show _ :: enumD ((k : Int) + 1) (xs.map g) = _
    have := enumD_map g xs (k + 1)
    rw [Int.natCast_add] at this
    rw [show ((k : Int) + 1) = (k : Int) + ((1 : Nat) : Int) from rfl, this]
    rfl
theorem rep_row (n : Nat) (b : Int) : PyData.tuple (List.replicate n [PyData.int b]).flatten = bD (List.replicate n b) := by unfold bD; rw [rep_int]
theorem rep_rows (n k : Nat) (b c : Int) : (List.replicate n [PyData.int b]).flatten ++ (List.replicate k [PyData.int c]).flatten = (List.replicate n b ++ List.replicate k c).map PyData.int := by rw [List.map_append, rep_int, rep_int]
theorem at_pick (es : List Int) (lo hi : Int) {i : Int} (h0 : 0 ≤ i) (h1 : i < es.length) (h : ∀ e ∈ es, lo ≤ e ∧ e ≤ hi) {q : D → Prop} (hq : ∀ e, lo ≤ e → e ≤ hi → q (.int e)) : optD (atI (es.map PyData.int) i) q := by
  rw [at_in h0 (by rw [List.length_map]; exact h1), List.getElem_map]
  have := h _ (List.getElem_mem (show i.toNat < es.length by omega))
  exact hq _ this.1 this.2
end DL
end

section
set_option Elab.async false
set_option linter.all false
set_option maxRecDepth 100000
/-! ## calls without arguments; calls that leave one's own lists one's own; xs[::-1]; tuples of the module -/
namespace DL
open PySem PySem.Spec PyProof.Rows L2
section
variable {X : Cx} {k n : Nat} {x : Str} {sp : DSp} {e : Expr} {es : List Expr} {tc : DTC} {p pos : Pos}
theorem pe_callG0 {f : Addr} {fd : FuncData} {ps : List Str} {spv : Sp} (F : FnG X.prog X.w X.K X.mg X.base CX0 k f fd ps spv) (hr : Room k X.A) (hgd : X.A.guards = some []) (hg : Gl X x) (hm : X.mg x = some (.ref f)) (hk : PySem.W.keepIn X.K (.ref f) = true) (hb : Binds X.K fd ps [])
    (hdb : (x == ("__debug__" : Str)) = false := by decide) : PE X (.Call (.Name x p) [] [] pos) (tCall spv [] E0 tNil) := by
  refine ⟨fun pins s σ H Q I h => ?_⟩
  refine wpAny_Call_Name_kw (ld_glob I hg hm ?_ hdb)
  have h' : spv [] H Q E0 := h
  have hl : ([] ++ [] : List Value).length = ps.length := F.len _ _ _ _ h'
  refine PySem.W.callWith_K0 I.kIn hk (wpAny_call (codeAny_mono (F.run X.A X.stack s H ⟨[], []⟩ [] [] Q E0 hr hgd I.env0 (hb s [] I.kIn hl) .nil h') fun res s' out => ?_))
  cases res with
  | error z => exact False.elim out
  | ok fl =>
    cases fl with
    | ret u => exact I.after out
    | next => exact False.elim out
    | brk => exact False.elim out
    | cont => exact False.elim out
theorem d_call0 (F : Def X.prog X.w X.K X.mg X.base k x n sp) {j : Nat} (hr : Room j X.A) (hk : k ≤ j) (hgd : X.A.guards = some []) (hg : Gl X x)
    (hdb : (x == ("__debug__" : Str)) = false := by decide) : DE X (.Call (.Name x p) [] [] pos) (eCallF n sp cNil) := by
  obtain ⟨f, fd, ps, F, hm, kp, hb⟩ := F.ex
  refine ⟨fun W => pe_weak (pe_callG0 F (hr.mono hk) hgd hg hm kp hb hdb) fun σ H Q h => ?_⟩
  obtain ⟨r, F1, q, R, t, w⟩ := h
  show liftSp X.K n sp [] H Q E0
  refine call_sp (q := asE q) R .nil t.1 t.2 fun c r2 v F' H' hq R3 s3 an fr => ?_
  cases c with
  | sh d => exact w d r2 v F' H' hq R3 s3 an
  | io m => exact hq.elim
  | own m =>
    cases m with
    | ins C fs => exact hq.elim
    | lst ds =>
      obtain ⟨b, o, rfl, k2, k3, ⟨vs, rfl, k4⟩, k5⟩ := an
      obtain ⟨z1, z2⟩ := fr b k5
      obtain ⟨R4, s4⟩ := R3.absorb k2 k3 z1 z2
      exact w _ r2 _ _ _ hq R4 (s3.trans s4) (.lst upd_same (k4.up s4))
theorem o_call0 (F : Def X.prog X.w X.K X.mg X.base k x n sp) {j : Nat} (hr : Room j X.A) (hk : k ≤ j) (hgd : X.A.guards = some []) (hg : Gl X x)
    (hdb : (x == ("__debug__" : Str)) = false := by decide) : DO X (.Call (.Name x p) [] [] pos) (oCallF n sp cNil) := by
  obtain ⟨f, fd, ps, F, hm, kp, hb⟩ := F.ex
  refine ⟨fun W => pe_weak (pe_callG0 F (hr.mono hk) hgd hg hm kp hb hdb) fun σ H Q h => ?_⟩
  obtain ⟨r, F1, q, R, t, w⟩ := h
  show liftSp X.K n sp [] H Q E0
  refine call_sp (q := asO q) R .nil t.1 t.2 fun c r2 v F' H' hq R3 s3 an fr => ?_
  cases c with
  | sh d => exact hq.elim
  | io m => exact hq.elim
  | own m =>
    obtain ⟨b, o, rfl, k2, k3, k4, k5⟩ := an
    obtain ⟨z1, z2⟩ := fr b k5
    exact w m r2 b o F' H' hq R3 s3 k2 k3 k4 z1 z2
/-! ### quiet calls: own lists are read, and stay one's own; a plain answer -/
def cellsQ (r : DSt) : List Arg → Option (List Cell)
  | [] => some []
  | .inl d :: as => (cellsQ r as).map (.sh d :: ·)
  | .inr j :: as => match dat r j with
    | some (.own (.lst ds)) => (cellsQ r as).map (.sh (.list ds) :: ·)
    | some (.io (.lst ds)) => (cellsQ r as).map (.sh (.list ds) :: ·)
    | _ => none
def eCallQ (n : Nat) (sp : DSp) (tc : DTC) : DTE := fun r q => tc r fun as r1 => as.length = n ∧ match cellsQ r1 as with
  | some cs => sp cs fun c _ => (match c with
    | .sh d => flatD d = true ∧ q d r1
    | _ => False)
  | none => False
theorem quiet_cells {K : PySem.W.Frag} {W : Wd} {r : DSt} {F : Hp} {σ : St} {H : Hp} (R : Rel K W r F σ H) : ∀ {as : List Arg} {vs : List V} {cs : List Cell}, ArgOk K F σ as vs → cellsQ r as = some cs →
    ∃ F', Same F F' ∧ Same F' H ∧ ∃ ds : List D, cs = ds.map Cell.sh ∧ RpAll K F' vs ds
  | _, _, _, .nil, h => by cases h; exact ⟨F, Same.refl _, R.sub, [], rfl, .nil⟩
  | _, _, cs, .d (d := d) (as := as) p a, h => by
    unfold cellsQ at h
    cases e : cellsQ r as with
    | none => rw [e] at h; cases h
    | some cs' =>
      rw [e] at h; cases h
      obtain ⟨F', s1, s2, ds, rfl, q⟩ := quiet_cells R a e
      exact ⟨F', s1, s2, d :: ds, rfl, .cons (p.up s1) q⟩
  | _, _, cs, .i (i := j) (v := v) (as := as) hv a, h => by
    unfold cellsQ at h
    have key : ∃ ds0 cs', (dat r j = some (.own (.lst ds0)) ∨ dat r j = some (.io (.lst ds0))) ∧ cellsQ r as = some cs' ∧ cs = .sh (.list ds0) :: cs' := by
      split at h
      · rename_i ds0 e0
        cases e : cellsQ r as with
        | none => rw [e] at h; cases h
        | some cs' => rw [e] at h; cases h; exact ⟨ds0, cs', .inl e0, rfl, rfl⟩
      · rename_i ds0 e0
        cases e : cellsQ r as with
        | none => rw [e] at h; cases h
        | some cs' => rw [e] at h; cases h; exact ⟨ds0, cs', .inr e0, rfl, rfl⟩
      · cases h
    obtain ⟨ds0, cs', h0, e, rfl⟩ := key
    obtain ⟨F', s1, s2, ds, rfl, q⟩ := quiet_cells R a e
    obtain ⟨b, ws, h1, h2, h3, h4⟩ := slot_list R h0
    rw [hv] at h1; cases h1
    have s3 : Same F' (upd F' b (.lst ws)) := fun c u z => by
      by_cases hc : c = b
      · subst hc
        have := s2 _ _ z
        rw [h2] at this; cases this
        exact upd_same
      · rw [upd_ne hc]; exact z
    have s4 : Same (upd F' b (.lst ws)) H := fun c u z => by
      by_cases hc : c = b
      · subst hc; rw [upd_same] at z; cases z; exact h2
      · rw [upd_ne hc] at z; exact s2 _ _ z
    exact ⟨_, s1.trans s3, s4, .list ds0 :: ds, rfl, .cons (.lst upd_same (h4.up (s1.trans s3))) (q.up s3)⟩
theorem cst_sh {ds : List D} {i : Nat} {c : Cell} (h : dat (cst (ds.map Cell.sh)) i = some c) : ∃ d, ds[i]? = some d ∧ c = .sh d := by
  rw [dat_cst, List.getElem?_map] at h
  obtain ⟨d, h1, h2⟩ := Option.map_eq_some_iff.1 h
  exact ⟨d, h1, h2.symm⟩
theorem flat_up {K : PySem.W.Frag} {F F' : Hp} {v : V} {d : D} (p : Rp K F' v d) (h : flatD d = true) : Rp K F v d := by
  cases p with
  | non => exact .non
  | bl b => exact .bl b
  | int i => exact .int i
  | str z => exact .str z
  | _ => cases h
theorem d_callQ (F : Def X.prog X.w X.K X.mg X.base k x n sp) {j : Nat} (hr : Room j X.A) (hk : k ≤ j) (hgd : X.A.guards = some []) (hg : Gl X x) (ha : DC X (e :: es) tc)
    (hdb : (x == ("__debug__" : Str)) = false := by decide) (he : starEach (e :: es) X.env = (false, eval e X.env) :: starEach es X.env := by rfl) (hpl : (backTo pos (starEach es X.env)).any (·.1) = false := by rfl) : DE X (.Call (.Name x p) (e :: es) [] pos) (eCallQ n sp tc) := by
  obtain ⟨f, fd, ps, F, hm, kp, hb⟩ := F.ex
  refine ⟨fun W => pe_weak (pe_callG F (hr.mono hk) hgd hg hm kp hb (ha.run W) hdb he hpl) fun σ H Q h => ?_⟩
  obtain ⟨r, F1, q, R, t, w⟩ := h
  refine ⟨r, F1, _, R, t, fun as r1 vs F2 H2 t1 R1 s1 a => ?_⟩
  show liftSp X.K n sp (vs ++ []) H2 Q E0
  rw [List.append_nil]
  obtain ⟨hn, t1⟩ := t1
  cases e : cellsQ r1 as with
  | none => rw [e] at t1; exact t1.elim
  | some cs =>
    rw [e] at t1
    obtain ⟨F3, s2, s3, ds, rfl, rp⟩ := quiet_cells R1 a e
    have hlen : vs.length = n := by rw [← a.len]; exact hn
    have noO : ∀ {i : Nat} {m : M}, dat (cst (ds.map Cell.sh)) i ≠ some (Cell.own m) := fun {i m} z => by
      obtain ⟨d, _, e⟩ := cst_sh z
      cases e
    have noI : ∀ {i : Nat} {m : M}, dat (cst (ds.map Cell.sh)) i ≠ some (Cell.io m) := fun {i m} z => by
      obtain ⟨d, _, e⟩ := cst_sh z
      cases e
    refine ⟨hlen, ds.map Cell.sh, F3, _, by rw [List.length_map, ← rp.length]; exact hlen, fun i m z => noO (by rw [dat_cst]; exact z), ⟨s3, Same.refl _, fun b o z _ => z, fun b z => z, fun b z => .inl z, fun i d z => ?_, fun i m z => (noO z).elim, fun i m z => (noI z).elim, fun i b z => ?_, fun i j' m m' b z => ?_, ?_⟩, t1, fun c outs v F' H' hq hl R2 an => ?_⟩
    · obtain ⟨d', h1, h2⟩ := cst_sh z
      cases h2
      obtain ⟨v, h3, h4⟩ := rp.getD h1
      exact ⟨v, by rw [vst_get, h3]; rfl, h4⟩
    · obtain ⟨⟨m, z⟩, _⟩ := z
      exact (noI z).elim
    · rcases z with z | z
      · exact (noO z).elim
      · exact (noI z).elim
    · show (cst _).length = (vst _).length
      unfold cst vst
      rw [List.length_map, List.length_map, List.length_map, rp.length]
    · cases c with
      | own m => exact hq.elim
      | io m => exact hq.elim
      | sh d =>
        have hs : Same H2 H' := fun b o z => R2.keep b o z fun ⟨i, m, z, _⟩ => by
          rcases z with z | z
          · exact (noO z).elim
          · exact (noI z).elim
        exact w d r1 v F2 H' hq.2 (R1.ext ⟨Same.refl _, hs, R1.sub.trans hs, fun b z => .inl z⟩) s1 (flat_up (F := F2) an hq.1)
/-! ### quiet expressions: nothing is changed, own lists are read as data, a plain answer -/
def fz : Cell → Option Cell
  | .own (.lst ds) => some (.sh (.list ds))
  | .io (.lst ds) => some (.sh (.list ds))
  | .sh d => some (.sh d)
  | _ => none
def fzAll : DSt → DSt
  | [] => []
  | c :: t => c.bind fz :: fzAll t
theorem dat_fz : ∀ (r : DSt) (i : Nat), dat (fzAll r) i = (dat r i).bind fz
  | [], _ => rfl
  | _ :: _, 0 => rfl
  | _ :: t, i + 1 => dat_fz t i
theorem fz_len : ∀ (r : DSt), (fzAll r).length = r.length
  | [] => rfl
  | _ :: t => congrArg (· + 1) (fz_len t)
def stillW (F H : Hp) : Wd := ⟨F, H, fun _ => False, fun _ _ => False⟩
theorem Rel.quiet {K : PySem.W.Frag} {W : Wd} {r : DSt} {F : Hp} {σ : St} {H : Hp} (R : Rel K W r F σ H) : ∃ F', Same F F' ∧ Rel K (stillW F' H) (fzAll r) F' σ H := by
  classical
  let F' : Hp := fun b => if AtSlot r σ b then H b else F b
  have own : ∀ {i : Nat} {m : M}, (dat r i = some (.own m) ∨ dat r i = some (.io m)) → ∃ a o, σ[i]? = some (some (V.ref a)) ∧ H a = some o ∧ F a = none ∧ MOk K F o m := fun {i m} h => by
    rcases h with h | h
    · obtain ⟨a, o, h1, h2, h3, h4, _⟩ := R.own i m h
      exact ⟨a, o, h1, h2, h3, h4⟩
    · obtain ⟨a, o, h1, h2, h3, h4, _⟩ := R.io i m h
      exact ⟨a, o, h1, h2, h3, h4⟩
  have s1 : Same F F' := fun b o e => by
    show (if AtSlot r σ b then H b else F b) = some o
    by_cases h : AtSlot r σ b
    · rw [if_pos h]; exact R.sub _ _ e
    · rw [if_neg h]; exact e
  have s2 : Same F' H := fun b o e => by
    have e' : (if AtSlot r σ b then H b else F b) = some o := e
    by_cases h : AtSlot r σ b
    · rw [if_pos h] at e'; exact e'
    · rw [if_neg h] at e'; exact R.sub _ _ e'
  have sl : ∀ {i : Nat} {ds : List D}, (dat r i = some (.own (.lst ds)) ∨ dat r i = some (.io (.lst ds))) → ∃ v, σ[i]? = some (some v) ∧ Rp K F' v (.list ds) := fun {i ds} h => by
    obtain ⟨a, o, h1, h2, h3, ⟨vs, rfl, h4⟩⟩ := own h
    have e : F' a = some (.lst vs) := by
      show (if AtSlot r σ a then H a else F a) = _
      rw [if_pos ⟨i, _, h, h1⟩]; exact h2
    exact ⟨_, h1, .lst e (h4.up s1)⟩
  have back : ∀ {i : Nat} {c : Cell}, dat (fzAll r) i = some c → ∃ v d, c = .sh d ∧ σ[i]? = some (some v) ∧ Rp K F' v d := fun {i c} h => by
    rw [dat_fz] at h
    cases e : dat r i with
    | none => rw [e] at h; cases h
    | some x =>
      rw [e] at h
      cases x with
      | sh d =>
        cases h
        obtain ⟨v, h1, h2⟩ := R.sh i d e
        exact ⟨v, d, rfl, h1, h2.up s1⟩
      | own m =>
        cases m with
        | lst ds =>
          cases h
          obtain ⟨v, h1, h2⟩ := sl (.inl e)
          exact ⟨v, _, rfl, h1, h2⟩
        | ins C fs => cases h
      | io m =>
        cases m with
        | lst ds =>
          cases h
          obtain ⟨v, h1, h2⟩ := sl (.inr e)
          exact ⟨v, _, rfl, h1, h2⟩
        | ins C fs => cases h
  have noO : ∀ {i : Nat} {m : M}, ¬ (dat (fzAll r) i = some (.own m) ∨ dat (fzAll r) i = some (.io m)) := fun {i m} h => by
    rcases h with h | h <;> (obtain ⟨_, _, e, _⟩ := back h; cases e)
  refine ⟨F', s1, s2, Same.refl _, fun b o e _ => e, fun b e => e, fun b e => .inl e, fun i d e => ?_, fun i m e => (noO (.inl e)).elim, fun i m e => (noO (.inr e)).elim, fun i a h => h, fun i j m n a e1 => (noO e1).elim, by rw [fz_len]; exact R.len⟩
  obtain ⟨v, d', e1, h1, h2⟩ := back e
  cases e1
  exact ⟨v, h1, h2⟩
theorem still_same {K : PySem.W.Frag} {F0 H0 : Hp} {r : DSt} {F : Hp} {σ : St} {H : Hp} (R : Rel K (stillW F0 H0) r F σ H) : Same H0 H := fun b o e => R.keep b o e fun z => z
def eQuiet (te : DTE) : DTE := fun r q => te (fzAll r) fun d _ => flatD d = true ∧ q d r
theorem d_quiet {te : DTE} (h : DE X e te) : DE X e (eQuiet te) := by
  refine ⟨fun W => ⟨fun pins s σ H Q I hq => ?_⟩⟩
  obtain ⟨r, F, q, R, t, w⟩ := hq
  obtain ⟨F', s1, R'⟩ := R.quiet
  refine (h.run (stillW F' H)).run pins s σ H Q I ⟨_, F', _, R', t, fun d r' v F2 H2 t2 R2 s2 p2 => ?_⟩
  have hs := still_same R2
  exact w d r v F H2 t2.2 (R.ext ⟨Same.refl _, hs, R.sub.trans hs, fun b z => .inl z⟩) (Same.refl _) (flat_up p2 t2.1)
def tQuiet (tt : DTT) : DTT := fun r q => tt (fzAll r) fun b _ => q b r
theorem dt_quiet {tt : DTT} (h : DT X e tt) : DT X e (tQuiet tt) := by
  refine ⟨fun W => ⟨fun pins s σ H Q I hq => ?_⟩⟩
  obtain ⟨r, F, q, R, t, w⟩ := hq
  obtain ⟨F', s1, R'⟩ := R.quiet
  refine (h.run (stillW F' H)).run pins s σ H Q I ⟨_, F', _, R', t, fun b r' F2 H2 t2 R2 s2 => ?_⟩
  have hs := still_same R2
  exact w b r F H2 t2 (R.ext ⟨Same.refl _, hs, R.sub.trans hs, fun b z => .inl z⟩) (Same.refl _)
theorem flats_up {K : PySem.W.Frag} {F F' : Hp} : ∀ {vs : List V} {ds : List D}, RpAll K F' vs ds → ds.all flatD = true → RpAll K F vs ds
  | _, _, .nil, _ => .nil
  | _, _, .cons p t, h => by
    rw [List.all_cons, Bool.and_eq_true] at h
    exact .cons (flat_up p h.1) (flats_up t h.2)
/-- a new list of plain items -/
def oQuiet (to : DTO) : DTO := fun r q => to (fzAll r) fun m _ => (match m with
  | .lst ds => ds.all flatD = true
  | _ => False) ∧ q m r
theorem o_quiet {to : DTO} (h : DO X e to) : DO X e (oQuiet to) := by
  refine ⟨fun W => ⟨fun pins s σ H Q I hq => ?_⟩⟩
  obtain ⟨r, F, q, R, t, w⟩ := hq
  obtain ⟨F', s1, R'⟩ := R.quiet
  refine (h.run (stillW F' H)).run pins s σ H Q I ⟨_, F', _, R', t, fun m r' a o F2 H2 t2 R2 s2 ha fa mo h0 ap => ?_⟩
  have hs := still_same R2
  have Hn : H a = none := h0
  have R3 := R.ext ⟨Same.refl _, hs, R.sub.trans hs, fun b z => .inl z⟩
  refine w m r a o F H2 t2.2 R3 (Same.refl _) ha (R.sub.free Hn) ?_ ?_ fun i m' e z => ?_
  · cases m with
    | lst ds =>
      obtain ⟨vs, rfl, p⟩ := mo
      exact ⟨vs, rfl, flats_up p t2.1⟩
    | ins C fs => exact t2.1.elim
  · cases q0 : W.H0 a with
    | none => rfl
    | some u => exact absurd Hn (R.there a (ne_none q0))
  · rcases e with e | e
    · obtain ⟨b, u, e1, e2, _⟩ := R.own i m' e
      rw [z] at e1; cases e1
      rw [Hn] at e2; cases e2
    · obtain ⟨b, u, e1, e2, _⟩ := R.io i m' e
      rw [z] at e1; cases e1
      rw [Hn] at e2; cases e2
/-! ### xs[::-1] -/
def eRev (te : DTE) : DTE := fun r q => te r fun d r1 => match d with
  | .list ds => q (.list ds.reverse) r1
  | _ => False
theorem d_rev {te : DTE} {k : Nat} {p1 p2 p3 : Pos} (he : DE X e te) : DE X (.Subscript e (.Slice none none (some (.UnaryOp .USub (.Constant (.int 1) k p1) p2)) p3) pos) (eRev te) := by
  refine ⟨fun W => pe_weak (pe_revL (he.run W)) fun σ H Q h => ?_⟩
  obtain ⟨r, F1, q, R, t, w⟩ := h
  refine ⟨r, F1, _, R, t, fun d r1 v F2 H2 t1 R1 s1 p1 => ?_⟩
  cases p1 with
  | lst h1 h2 =>
    refine ⟨_, _, rfl, SqL.of (R1.sub _ _ h1), fun p hp => ?_⟩
    rename_i vs ds
    have ex := ext_new (o := .lst vs.reverse) R1.sub hp
    exact w _ r1 _ _ _ t1 (R1.ext ex) (s1.trans ex.f) (.lst upd_same ((h2.up ex.f).reverse))
  | _ => exact t1.elim
end
/-! ### tuples of the module -/
def sameV : Value → D → Bool
  | .str z _, .str z' => decide (z = z')
  | .int i _, .int j => decide (i = j)
  | _, _ => false
def sameVs : List Value → List D → Bool
  | [], [] => true
  | v :: vs, d :: ds => sameV v d && sameVs vs ds
  | _, _ => false
def tupIs (o : Obj) (ds : List D) : Bool := (match o.cls with | .type "tuple" => true | _ => false) && (match o.data with | .seq its _ => decide (its.size ≤ 1000) && sameVs its.toList ds | _ => false)
theorem sameV_rp {K : PySem.W.Frag} {F : Hp} {u : Value} {d : D} (h : sameV u d = true) : ∃ v, RelV v u ∧ Rp K F v d := by
  unfold sameV at h
  split at h
  · rename_i z t z'
    have := of_decide_eq_true h
    subst this
    exact ⟨.str z, ⟨t, rfl⟩, .str z⟩
  · rename_i i t j
    have := of_decide_eq_true h
    subst this
    exact ⟨.int i, ⟨t, rfl⟩, .int i⟩
  · cases h
def valD : D → V
  | .str z => .str z
  | .int i => .int i
  | _ => .non
theorem sameVs_rp {K : PySem.W.Frag} {F : Hp} : ∀ {us : List Value} {ds : List D}, sameVs us ds = true → Vals (ds.map valD) us ∧ RpAll K F (ds.map valD) ds
  | [], [], _ => ⟨.nil, .nil⟩
  | [], _ :: _, h => by cases h
  | _ :: _, [], h => by cases h
  | u :: us, d :: ds, h => by
    unfold sameVs at h
    rw [Bool.and_eq_true] at h
    obtain ⟨q1, q2⟩ := sameVs_rp (K := K) (F := F) h.2
    have h1 := h.1
    unfold sameV at h1
    split at h1
    · rename_i z t z'
      have := of_decide_eq_true h1
      subst this
      exact ⟨.cons ⟨t, rfl⟩ q1, .cons (.str z) q2⟩
    · rename_i i t j
      have := of_decide_eq_true h1
      subst this
      exact ⟨.cons ⟨t, rfl⟩ q1, .cons (.int i) q2⟩
    · cases h1
theorem glob_tup {K : PySem.W.Frag} {h : PySem.Heap} {mg : Str → Option Value} {x : Str} {a : Addr} {o : Obj} {ds : List D} (X : K.In h) (G : h.Ns mainGlobals mg) (e : PySem.W.nsIn K mainGlobals x = some (some (.ref a))) (l : K.lookup a = some o) (c : tupIs o ds = true) : GlobD K mg x (.tuple ds) := by
  refine ⟨.ref a, _, PySem.W.mg_of X G e, rfl, fun F => ?_⟩
  unfold tupIs at c
  rw [Bool.and_eq_true] at c
  obtain ⟨c1, c2⟩ := c
  have hc : o.cls = .type "tuple" := by
    split at c1
    · assumption
    · cases c1
  split at c2
  · rename_i its n hd
    rw [Bool.and_eq_true] at c2
    have q := sameVs_rp (K := K) (F := F) c2.2
    have hs := of_decide_eq_true c2.1
    have hb := line_big
    exact .tup (.inr ⟨o, its, n, l, hc, hd, by omega, q.1⟩) q.2
  · cases c2
end DL
end

section
set_option Elab.async false
set_option linter.all false
set_option maxRecDepth 100000
/-! ## max of a list or a tuple of ints -/
namespace DL
open PySem PySem.Spec PyProof.Rows L2
def rMaxA (K : PySem.W.Frag) : List V → Hp → VK → Prop := fun vs H Q => ∃ (a : Addr) (ns : List Int), vs = [V.ref a] ∧ (SqL K H a (ns.map V.int) ∨ SqT K H a (ns.map V.int)) ∧ 0 < ns.length ∧ ∀ m, m ∈ ns → (∀ y, y ∈ ns → y ≤ m) → Q (.int m) H
theorem reads_ints {h : PySem.Heap} : ∀ {us : List Value} {ns : List Int}, IntsAre us ns → ReadsAll h us (ns.map PyData.int) []
  | _, _, .nil => .nil
  | _, _, .cons a _ t => .cons (as := []) (bs := []) (.int a _) (reads_ints t)
theorem alike_ints (ns : List Int) : PySem.W.AlikeAll (ns.map PyData.int) := by
  refine ⟨fun x hx y hy => ?_, fun x hx => ?_⟩
  · obtain ⟨a, _, rfl⟩ := List.mem_map.1 hx
    obtain ⟨b, _, rfl⟩ := List.mem_map.1 hy
    rfl
  · obtain ⟨a, _, rfl⟩ := List.mem_map.1 hx
    exact fun z => by cases z
theorem depth_ints : ∀ (ns : List Int), PyData.depthAll (ns.map PyData.int) = 0
  | [] => rfl
  | n :: ns => by
    show max 0 (PyData.depthAll (ns.map PyData.int)) = 0
    rw [depth_ints ns]; rfl
theorem maxD_ints : ∀ (ns : List Int) (x : Int), ∃ m : Int, PySem.W.maxD (.int x) (ns.map PyData.int) = .int m ∧ m ∈ x :: ns ∧ ∀ y ∈ x :: ns, y ≤ m
  | [], x => ⟨x, rfl, by simp, by simp⟩
  | n :: ns, x => by
    have e : PySem.W.maxD (.int x) ((n :: ns).map PyData.int) = PySem.W.maxD (.int (if x < n then n else x)) (ns.map PyData.int) := by
      show List.foldl _ (if PySem.W.dataLt (.int x) (.int n) then PyData.int n else .int x) (ns.map PyData.int) = _
      rw [PySem.W.dataLt_int]
      unfold PySem.W.maxD
      congr 1
      by_cases h : x < n <;> simp [h]
    obtain ⟨m, h1, h2, h3⟩ := maxD_ints ns (if x < n then n else x)
    refine ⟨m, e.trans h1, ?_, fun y hy => ?_⟩
    · rcases List.mem_cons.1 h2 with h | h
      · rw [h]; split <;> simp
      · exact List.mem_cons_of_mem _ (List.mem_cons_of_mem _ h)
    · have h4 := h3 _ List.mem_cons_self
      rcases List.mem_cons.1 hy with rfl | hy
      · split at h4 <;> omega
      · rcases List.mem_cons.1 hy with rfl | hy
        · split at h4 <;> omega
        · exact h3 _ (List.mem_cons_of_mem _ hy)
theorem cr_maxA {X : Cx} (hc : X.calm = true) (hu : X.A.units + 64 < cLine) : CallR X (.builtin "max") (rMaxA X.K) := by
  intro pins s σ H vs us Q I r h
  obtain ⟨a, ns, rfl, hs | hs, hne, q⟩ := h
  · exact cr_max hc pins s σ H _ us Q I r ⟨a, ns, rfl, hs, hne, q⟩
  · obtain ⟨its, rv, hl, _⟩ := I.tuple hs
    rw [Vals.ref1 r]
    cases ns with
    | nil => exact absurd hne (Nat.lt_irrefl 0)
    | cons n ns =>
      have hr : ReadsAll s.heap its.toArray.toList (.int n :: ns.map PyData.int) [] := reads_ints rv.ints
      refine PySem.W.max_tuple_data (I.ok.hd hc) hl hr (alike_ints (n :: ns)) ?_ fun i v h' tk bs _ hv hk => ?_
      · have e : PyData.depthAll (.int n :: ns.map PyData.int) = 0 := depth_ints (n :: ns)
        rw [e]; omega
      · obtain ⟨m, e, h1, h2⟩ := maxD_ints ns n
        rw [e] at hv
        cases hv
        exact ⟨.int m, H, I.kept hk, ⟨_, rfl⟩, q m h1 h2⟩
def pMaxT : PN := fun xs q => match xs with
  | [.list ds] => ∃ ns : List Int, ds = ns.map PyData.int ∧ 0 < ns.length ∧ ∀ m, m ∈ ns → (∀ y ∈ ns, y ≤ m) → q (.int m)
  | [.tuple ds] => ∃ ns : List Int, ds = ns.map PyData.int ∧ 0 < ns.length ∧ ∀ m, m ∈ ns → (∀ y ∈ ns, y ≤ m) → q (.int m)
  | _ => False
theorem v_maxT {K : PySem.W.Frag} : VCall K (rMaxA K) pMaxT := by
  intro F H xs ds q Q s p t h
  match ds, p, t with
  | [.list ds], .cons (.lst h1 h2) .nil, ⟨ns, e, hn, t⟩ =>
    subst e
    have := RpAll.ofInts h2
    subst this
    exact ⟨_, ns, rfl, .inl (SqL.of (s _ _ h1)), hn, fun m a b => h (.int m) _ _ _ (t m a b) (Ext.refl s) (.int m)⟩
  | [.tuple ds], .cons (.tup h1 h2) .nil, ⟨ns, e, hn, t⟩ =>
    subst e
    have := RpAll.ofInts h2
    subst this
    exact ⟨_, ns, rfl, .inr (same_tup s h1), hn, fun m a b => h (.int m) _ _ _ (t m a b) (Ext.refl s) (.int m)⟩
end DL
end

section
set_option Elab.async false
set_option linter.all false
set_option maxRecDepth 100000
/-! ## a, b = .., .. where some are one's own new lists -/
namespace DL
open PySem PySem.Spec PyProof.Rows L2
inductive Item where
  | d (x : D)
  | m (x : M)
abbrev DTX := DSt → (List Item → DSt → Prop) → Prop
inductive XOk (K : PySem.W.Frag) (W : Wd) (r : DSt) (F : Hp) (σ : St) (H : Hp) : List Item → List V → List Addr → Prop
  | nil : XOk K W r F σ H [] [] []
  | d {x : D} {v : V} {is : List Item} {vs : List V} {as : List Addr} : Rp K F v x → XOk K W r F σ H is vs as → XOk K W r F σ H (.d x :: is) (v :: vs) as
  | m {x : M} {a : Addr} {o : HO} {is : List Item} {vs : List V} {as : List Addr} : H a = some o → F a = none → MOk K F o x → W.H0 a = none → Apart r σ a → a ∉ as → XOk K W r F σ H is vs as → XOk K W r F σ H (.m x :: is) (.ref a :: vs) (a :: as)
def liftX (K : PySem.W.Frag) (W : Wd) (t : DTX) : TA := fun σ H Q => ∃ r F q, Rel K W r F σ H ∧ t r q ∧ ∀ is r' vs as F' H', q is r' → Rel K W r' F' σ H' → Same F F' → XOk K W r' F' σ H' is vs as → Q vs H'
structure DX (X : Cx) (es : List Expr) (t : DTX) : Prop where
  run : ∀ W, PA X es (liftX X.K W t)
def xNil : DTX := fun r q => q [] r
def xCons (te : DTE) (tr : DTX) : DTX := fun r q => te r fun d r1 => tr r1 fun is r2 => q (.d d :: is) r2
def xOwn (to : DTO) (tr : DTX) : DTX := fun r q => to r fun m r1 => tr r1 fun is r2 => q (.m m :: is) r2
theorem XOk.fresh {K : PySem.W.Frag} {W : Wd} {r : DSt} {F : Hp} {σ : St} {H : Hp} : ∀ {is : List Item} {vs : List V} {as : List Addr}, XOk K W r F σ H is vs as → ∀ a ∈ as, W.H0 a = none
  | _, _, _, .nil, a, h => by cases h
  | _, _, _, .d _ t, a, h => XOk.fresh t a h
  | _, _, _, .m _ _ _ h0 _ _ t, a, h => by
    rcases List.mem_cons.1 h with rfl | h
    · exact h0
    · exact XOk.fresh t a h
theorem XOk.world {K : PySem.W.Frag} {W W' : Wd} {r : DSt} {F : Hp} {σ : St} {H : Hp} (w : ∀ a, W.H0 a = none → W'.H0 a = none) : ∀ {is : List Item} {vs : List V} {as : List Addr}, XOk K W r F σ H is vs as → XOk K W' r F σ H is vs as
  | _, _, _, .nil => .nil
  | _, _, _, .d p t => .d p (XOk.world w t)
  | _, _, _, .m h1 h2 h3 h4 h5 h6 t => .m h1 h2 h3 (w _ h4) h5 h6 (XOk.world w t)
section
variable {X : Cx} {e : Expr} {es : List Expr} {te : DTE} {to : DTO} {tr : DTX} {pos : Pos}
theorem x_nil : DX X [] xNil := by
  refine ⟨fun W => pa_weak pa_nil fun σ H Q h => ?_⟩
  obtain ⟨r, F, q, R, t, w⟩ := h
  exact w [] r [] [] F H t R (Same.refl _) .nil
theorem x_cons (he : DE X e te) (hr : DX X es tr) (hs : starEach (e :: es) X.env = (false, eval e X.env) :: starEach es X.env := by rfl) : DX X (e :: es) (xCons te tr) := by
  refine ⟨fun W => pa_weak (pa_cons (he.run W) (hr.run W) hs) fun σ H Q h => ?_⟩
  obtain ⟨r, F, q, R, t, w⟩ := h
  refine ⟨r, F, _, R, t, fun d r1 v F1 H1 t1 R1 s1 p1 => ⟨r1, F1, _, R1, t1, fun is r2 vs as F2 H2 t2 R2 s2 x2 => ?_⟩⟩
  exact w _ r2 _ as F2 H2 t2 R2 (s1.trans s2) (.d (p1.up s2) x2)
theorem x_own (ho : DO X e to) (hr : DX X es tr) (hs : starEach (e :: es) X.env = (false, eval e X.env) :: starEach es X.env := by rfl) : DX X (e :: es) (xOwn to tr) := by
  refine ⟨fun W => ⟨fun pos pins s σ H Q I h => ?_⟩⟩
  rw [hs]
  show wpAny _ _ (spliced ((false, eval e X.env) :: backTo pos (starEach es X.env))) _ _ s
  obtain ⟨r, F, q, R, t, w⟩ := h
  refine Calls.spliced_cons (thn ((ho.run W).run pins s σ H (fun v H1 => ∃ m r1 a o F1, v = V.ref a ∧ Rel X.K W r1 F1 σ H1 ∧ Same F F1 ∧ H1 a = some o ∧ F1 a = Option.none ∧ MOk X.K F1 o m ∧ W.H0 a = Option.none ∧ Apart r1 σ a ∧ tr r1 fun is r2 => q (.m m :: is) r2) I ⟨r, F, _, R, t, fun m r1 a o F1 H1 t1 R1 s1 ha fa mo h0 ap => ⟨m, r1, a, o, F1, rfl, R1, s1, ha, fa, mo, h0, ap, t1⟩⟩) fun u s1 ⟨v, H1, I1, rv, m, r1, a, o, F1, hv, R1, s1', ha, fa, mo, h0, ap, t1⟩ => ?_)
  subst hv
  have nA : ¬ (here r1 F1 σ H1).A a := fun ⟨i, m, e, z⟩ => ap i m e z
  refine thn ((hr.run (here r1 F1 σ H1)).run pos pins s1 σ H1 (fun vs H2 => Q (V.ref a :: vs) H2) I1 ⟨r1, F1, _, R1.enter, t1, fun is r2 vs as F2 H2 t2 R2 s2 x2 => ?_⟩) fun us s2 ⟨xs, H2, I2, r2, q2⟩ => ⟨V.ref a :: xs, H2, I2, .cons rv r2, q2⟩
  have ha2 : H2 a = some o := R2.keep a _ ha nA
  have fa2 : F2 a = Option.none := by
    cases q : F2 a with
    | none => rfl
    | some u =>
      rcases R2.new a (ne_none q) with z | z | z
      · exact absurd fa z
      · have z' : H1 a = Option.none := z
        rw [ha] at z'; cases z'
      · exact absurd z nA
  have ap2 : Apart r2 σ a := fun i m e z => by
    rcases e with e | e
    · obtain ⟨b, u, h1, h2, h3, h4, h5⟩ := R2.own i m e
      rw [z] at h1; cases h1
      rcases h5 with z | z
      · exact nA z
      · have z' : H1 a = Option.none := z
        rw [ha] at z'; cases z'
    · obtain ⟨b, u, h1, h2, h3, h4, h5⟩ := R2.io i m e
      rw [z] at h1; cases h1
      exact nA (R2.ioA i _ h5)
  have na : a ∉ as := fun z => by
    have z' : H1 a = Option.none := x2.fresh a z
    rw [ha] at z'; cases z'
  have hw : ∀ b, H1 b = Option.none → W.H0 b = Option.none := fun b z => by
    cases q : W.H0 b with
    | none => rfl
    | some u => exact absurd z (R1.there b (ne_none q))
  exact w _ r2 _ (a :: as) F2 H2 t2 (R1.leave R2) (s1'.trans s2) (.m ha2 fa2 (mo.up s2) h0 ap2 na (x2.world hw))
end
theorem XOk.newH {K : PySem.W.Frag} {W : Wd} {r : DSt} {F : Hp} {σ : St} {H : Hp} {t0 : Addr} {u : HO} (ht : H t0 = none) : ∀ {is : List Item} {vs : List V} {as : List Addr}, XOk K W r F σ H is vs as → XOk K W r F σ (upd H t0 u) is vs as
  | _, _, _, .nil => .nil
  | _, _, _, .d p t => .d p (XOk.newH ht t)
  | _, _, _, .m h1 h2 h3 h4 h5 h6 t => .m (by rw [upd_ne (ne_of_none h1 ht)]; exact h1) h2 h3 h4 h5 h6 (XOk.newH ht t)
def putX : List Nat → List Item → DSt → DSt
  | j :: js, .d x :: is, r => putX js is (dput r j (some (.sh x)))
  | j :: js, .m x :: is, r => putX js is (dput r j (some (.own x)))
  | _, _, r => r
theorem apart_put {r : DSt} {σ : St} {j : Nat} {c : Cell} {v : V} {a : Addr} (h : Apart r σ a) (hl : r.length = σ.length) (hc : (∃ d, c = .sh d) ∨ v ≠ V.ref a) : Apart (dput r j (some c)) (σ.set j (some v)) a := fun i m e z => by
  by_cases hi : j = i
  · subst hi
    have hlt : j < r.length := by
      rcases e with e | e
      · exact (dat_put e).2
      · exact (dat_put e).2
    rw [dat_put_same hlt] at e
    rcases hc with ⟨d, rfl⟩ | hv
    · rcases e with e | e <;> cases e
    · rw [List.getElem?_set_self (by omega)] at z
      cases z
      exact hv rfl
  · rw [List.getElem?_set_ne hi] at z
    rw [dat_put_ne hi] at e
    exact h i m e z
theorem XOk.put {K : PySem.W.Frag} {W : Wd} {r : DSt} {F : Hp} {σ : St} {H : Hp} {j : Nat} {c : Cell} {v : V} (hl : r.length = σ.length) : ∀ {is : List Item} {vs : List V} {as : List Addr}, ((∃ d, c = .sh d) ∨ ∀ a ∈ as, v ≠ V.ref a) → XOk K W r F σ H is vs as → XOk K W (dput r j (some c)) F (σ.set j (some v)) H is vs as
  | _, _, _, _, .nil => .nil
  | _, _, _, h, .d p t => .d p (XOk.put hl h t)
  | _, _, _, h, .m h1 h2 h3 h4 h5 h6 t => .m h1 h2 h3 h4 (apart_put h5 hl (h.imp id fun q => q _ List.mem_cons_self)) h6 (XOk.put hl (h.imp id fun q b hb => q b (List.mem_cons_of_mem _ hb)) t)
theorem Rel.putX {K : PySem.W.Frag} {W : Wd} {F : Hp} {H : Hp} : ∀ {js : List Nat} {is : List Item} {vs : List V} {as : List Addr} {r : DSt} {σ : St}, Rel K W r F σ H → XOk K W r F σ H is vs as → Rel K W (putX js is r) F (putsV js vs σ) H
  | [], _, _, _, _, _, R, .nil => R
  | [], _, _, _, _, _, R, .d _ _ => R
  | [], _, _, _, _, _, R, .m _ _ _ _ _ _ _ => R
  | _ :: _, _, _, _, _, _, R, .nil => R
  | j :: js, _, _, _, _, _, R, .d p t => Rel.putX (js := js) (R.put j (some (.sh _)) _ p) (t.put R.len (.inl ⟨_, rfl⟩))
  | j :: js, _, _, _, _, _, R, .m h1 h2 h3 h4 h5 h6 t => Rel.putX (js := js) (R.put j (some (.own _)) (.ref _) ⟨_, _, rfl, h1, h2, h3, .inr h4, fun k n _ z => h5 k n z⟩) (t.put R.len (.inr fun b hb z => by cases z; exact h6 hb))
theorem XOk.len {K : PySem.W.Frag} {W : Wd} {r : DSt} {F : Hp} {σ : St} {H : Hp} : ∀ {is : List Item} {vs : List V} {as : List Addr}, XOk K W r F σ H is vs as → is.length = vs.length
  | _, _, _, .nil => rfl
  | _, _, _, .d _ t => congrArg (· + 1) (XOk.len t)
  | _, _, _, .m _ _ _ _ _ _ t => congrArg (· + 1) (XOk.len t)
def sPutX (js : List Nat) (tx : DTX) : DTS := fun E r => tx r fun is r1 => is.length = js.length ∧ nrm (putX js is r1) E.nx
section
variable {X : Cx} {tx : DTX} {pos : Pos}
theorem ds_parX {i j : Nat} {x y : Str} {a b : Expr} {px py pt : Pos} {kt k2 pt2} (hc : X.calm = true) (hN : X.N.Nodup) (hi : X.N[i]? = some x) (hj : X.N[j]? = some y) (hij : i ≠ j)
    (hx : X.env.scope.names.lookup x = some .local) (hy : X.env.scope.names.lookup y = some .local) (ha : DX X [a, b] tx)
    (hw : swappedStores [.Tuple [.Name x px, .Name y py] kt pt] (.Tuple [a, b] k2 pt2) X.env = pure (some [x, y]))
    (hs : swapsWithSole [.Tuple [.Name x px, .Name y py] kt pt] (.Tuple [a, b] k2 pt2) pos.line X.env = pure false := by rfl) :
    DS X (.Assign [.Tuple [.Name x px, .Name y py] kt pt] (.Tuple [a, b] k2 pt2) pos) (sPutX [i, j] tx) := by
  refine ⟨fun W => ps_weak (ps_par hc hN hi hj hij hx hy (ha.run W) hw hs) fun D σ H h => ?_⟩
  obtain ⟨r, F, q, R, t, w⟩ := h
  refine ⟨r, F, _, R, t, fun is r' vs as F' H' a b c p => ?_⟩
  have hl := p.len
  match vs, p, hl.symm.trans a.1 with
  | [v, u], p, _ => exact ⟨_, _, rfl, w.nx _ _ F' H' (nrm_el a.2) (b.putX (js := [i, j]) p) c⟩
theorem ds_par3X {i j l : Nat} {x y z : Str} {a b c : Expr} {px py pz pt : Pos} {kt k2 pt2} (hc : X.calm = true) (hN : X.N.Nodup) (hi : X.N[i]? = some x) (hj : X.N[j]? = some y) (hl : X.N[l]? = some z) (hij : i ≠ j) (hil : i ≠ l) (hjl : j ≠ l)
    (hx : X.env.scope.names.lookup x = some .local) (hy : X.env.scope.names.lookup y = some .local) (hz : X.env.scope.names.lookup z = some .local) (ha : DX X [a, b, c] tx)
    (hw : swappedStores [.Tuple [.Name x px, .Name y py, .Name z pz] kt pt] (.Tuple [a, b, c] k2 pt2) X.env = pure (some [x, y, z]))
    (hs : swapsWithSole [.Tuple [.Name x px, .Name y py, .Name z pz] kt pt] (.Tuple [a, b, c] k2 pt2) pos.line X.env = pure false := by rfl) :
    DS X (.Assign [.Tuple [.Name x px, .Name y py, .Name z pz] kt pt] (.Tuple [a, b, c] k2 pt2) pos) (sPutX [i, j, l] tx) := by
  refine ⟨fun W => ps_weak (ps_par3 hc hN hi hj hl hij hil hjl hx hy hz (ha.run W) hw hs) fun D σ H h => ?_⟩
  obtain ⟨r, F, q, R, t, w⟩ := h
  refine ⟨r, F, _, R, t, fun is r' vs as F' H' a b c p => ?_⟩
  have hl := p.len
  match vs, p, hl.symm.trans a.1 with
  | [v, u, k], p, _ => exact ⟨_, _, _, rfl, w.nx _ _ F' H' (nrm_el a.2) (b.putX (js := [i, j, l]) p) c⟩
/-- a tuple made and taken apart -/
def sPutT (js : List Nat) (tx : DTX) : DTS := fun E r => tx r fun is r1 => is.length = js.length ∧ is.length ≤ sizeLine ∧ nrm (putX js is r1) E.nx
theorem ds_tupX (js : List Nat) {ns es : List Expr} {pt : Pos} {kt k2 pt2} (hc : X.calm = true) (ha : DX X es tx) (hg : PGs X ns (gNmsV js))
    (hs : swapsWithSole [.Tuple ns kt pt] (.Tuple es k2 pt2) pos.line X.env = pure false := by rfl) (hw : swappedStores [.Tuple ns kt pt] (.Tuple es k2 pt2) X.env = pure none := by rfl)
    (h1 : (assignEach [.Tuple ns kt pt] X.env).map (·.2) = [assign (.Tuple ns kt pt) X.env] := by rfl)
    (hn : (assignEach ns X.env).length = js.length := by rfl) (hst : (assignEach ns X.env).findIdx? (·.1) = none := by rfl) :
    DS X (.Assign [.Tuple ns kt pt] (.Tuple es k2 pt2) pos) (sPutT js tx) := by
  refine ⟨fun W => ps_weak (ps_asg (pe_tup (ha.run W)) (pg_tup hc hg hn hst) hs hw h1) fun D σ H h => ?_⟩
  obtain ⟨r, F, q, R, t, w⟩ := h
  refine ⟨r, F, _, R, t, fun is r' vs as F' H' a b c p => ?_⟩
  have hl := p.len
  refine ⟨hl ▸ a.2.1, fun t0 ht => ?_⟩
  have nh := (rel_newH (o := .tup vs) b ht).1
  have p' : XOk X.K W r' F' σ (upd H' t0 (.tup vs)) is vs as := p.newH ht
  refine ⟨t0, vs, rfl, .inl (.inl upd_same), hl.symm.trans a.1, gNmsV_ok (hl.symm.trans a.1) ?_⟩
  exact w.nx _ _ F' _ (nrm_el a.2.2) (nh.putX (js := js) p') c
end
end DL
end

section
set_option Elab.async false
set_option linter.all false
set_option maxRecDepth 100000
/-! ## y = [..], given away at once -/
namespace DL
open PySem PySem.Spec PyProof.Rows L2
def sSetF (i : Nat) (to : DTO) : DTS := fun E r => to r fun m r1 => match m with
  | .lst ds => nrm (dput r1 i (some (.sh (.list ds)))) E.nx
  | _ => False
theorem ds_setLcF {X : Cx} {i : Nat} {y : Str} {py : Pos} {elt tg iter : Expr} {ifs : List Expr} {scope : Scope} {own : List (Str × Nat)} {pos spos : Pos} {one : Bool} {js : List Nat} {it : DTI} {tt : DTT} {te : DTE} (hc : X.calm = true) (hN : X.N.Nodup) (hy : X.N[i]? = some y) (hyl : X.env.scope.names.lookup y = some .local)
    (hsw : swapsWith (.ListComp elt [⟨tg, iter, ifs, 0⟩] scope pos) (some (.Name y py)) spos.line X.env = pure true) (hi : DI X tg iter it) (ok : BlkOk X.N X.env.scope scope own) (hj : own.map (·.2) = js)
    (hg : ∀ (s : Shared) (H : Hp) (C : Addr) (cl : List (Str × Addr)) (fp : List Addr), PG (X.blk s H scope (compEnvC scope cl C X.env) fp) tg (cTg X.K one js)) (ht : ∀ (s : Shared) (H : Hp) (C : Addr) (cl : List (Str × Addr)) (fp : List Addr), DTs (X.blk s H scope (compEnvC scope cl C X.env) fp) ifs tt)
    (he : ∀ (s : Shared) (H : Hp) (C : Addr) (cl : List (Str × Addr)) (fp : List Addr), DE (X.blk s H scope (compEnvC scope cl C X.env) fp) elt te) (hs : ∀ x, foldedSetIterable iter X.env x = pure x := by intro _; rfl) :
    DS X (.Assign [.Name y py] (.ListComp elt [⟨tg, iter, ifs, 0⟩] scope pos) spos) (sSetF i (oComp one js it tt te)) := by
  subst hj
  refine ⟨fun W => ps_weak (ps_setLc (tt := anyT X.K tt) (te := anyE X.K te) hc hN hy hyl hsw (hi.run W) ok hg (fun s H C cl fp => (ht s H C cl fp).run) (fun s H C cl fp => pe_any (he s H C cl fp)) hs) fun D σ H h => ?_⟩
  obtain ⟨r, F, q, R, t, w⟩ := h
  refine comp_weak (W := W) σ H _ ⟨r, F, _, R, t, fun m r' a o F' H' k b c h1 h2 h3 h4 h5 => ?_⟩
  cases m with
  | ins C fs => exact k.elim
  | lst ds =>
    obtain ⟨vs, rfl, p⟩ := h3
    obtain ⟨R2, s2⟩ := b.absorb h1 h2 h4 h5
    exact w.nx _ _ _ H' (nrm_el k) (R2.put i (some (.sh (.list ds))) (.ref a) (.lst upd_same (p.up s2))) (c.trans s2)
end DL
end

section
set_option Elab.async false
set_option linter.all false
set_option maxRecDepth 100000
set_option maxHeartbeats 4000000
namespace PySem.SeqAt
open AutoSeq1 (wpAny_loadPart')
open MeetsSeq MeetsSeq2 MeetsSeq3 SeqRoads2
theorem list_indexFrom (l : Addr) (items : Array Value) (n : Nat) (dd : Option Addr) (sl : Array (Option Value)) (x : Value) (b : Nat) (t : Tok) (e : Value → Bool) (j : Nat) (hj : j < items.size) (hb : b ≤ j) (hsmall : (j : Int) < 2 ^ 63 - 1)
    (hit : e items[j] = true) (hno : ∀ m (hm : m < items.size), b ≤ m → m < j → e items[m] = false) :
    Meets (Builtin.«list.index» ⟨[.ref l, x, .int (b : Nat) t], []⟩)
      (fun A R s => s.heap.get? l = some { cls := .type "list", dict := dd, data := .seq items n, slots := sl } ∧ (∀ y, y ∈ items → EqAt A.in1 s y x (e y)) ∧ R (.ok (.ret (.int j s.toks))) { s with toks := s.toks + 1 }) := by
  intro prog w A R s h
  obtain ⟨hp, g, d, tk, os⟩ := s; obtain ⟨hl, he, h⟩ := h
  wp_walk using wpAny_loadPart' hl
  have a1 : ((fun i : Int => if i < 0 then max 0 (i + (items.size : Int)) else i) ((some ((b : Nat) : Int)).getD 0)) = ((b : Nat) : Int) := by simp; omega
  have a2 : ((fun i : Int => if i < 0 then max 0 (i + (items.size : Int)) else i) ((none : Option Int).getD (2 ^ 63 - 1))) = 2 ^ 63 - 1 := by simp
  rw [a1, a2]
  exact ⟨plainId_quiet plain_index_loop _, codeAny_builtin entry_index_loop (by
    rw [Around.under_plainId plain_index_loop _]
    exact index_loopAt l items n dd sl x e (2 ^ 63 - 1) j hj hsmall hit _ b rfl hb (fun m hm h1 h2 => hno m hm h1 h2) prog w A R _ ⟨hl, he, h⟩)⟩
end PySem.SeqAt
namespace DL
open PySem PySem.Spec PyProof.Rows L2
section
variable {X : Cx}
def rIndexF (K : PySem.W.Frag) : V → List V → Hp → VK → Prop := fun x xs H Q => ∃ (a : Addr) (ys : List V) (y : V) (b j : Nat) (z : V), x = V.ref a ∧ xs = [y, .int (b : Nat)] ∧ SqL K H a ys ∧ flatV y = true ∧ ys.all flatV = true ∧ b ≤ j ∧ ys[j]? = some z ∧ eqV z y = true ∧
  (∀ (m : Nat) (z' : V), b ≤ m → m < j → ys[m]? = some z' → eqV z' y = false) ∧ Q (.int (j : Nat)) H
theorem mt_indexF : MtR X "list.index" (rIndexF X.K) := by
  intro pins s σ H x xs v us Q I rx rxs h
  obtain ⟨a, ys, y, b, j, z, rfl, rfl, hs, fy, fys, hb, hz, hzj, hno, q⟩ := h
  cases rx
  cases rxs with
  | cons ry rt =>
    rename_i uy ut
    cases rt with
    | cons rb rt2 =>
    cases rt2
    obtain ⟨tb, rfl⟩ := rb
    obtain ⟨its, rv, ⟨⟨cls, dd, data, sl⟩, n, ho, hc, hdn, hd⟩, hlen⟩ := I.list hs
    simp only at hc hd
    subst hc hd
    obtain ⟨u, hu, ru⟩ := rv.get hz
    obtain ⟨hjl, hje⟩ := List.getElem?_eq_some_iff.mp hu
    have hvl := rv.length
    have hj : j < its.toArray.size := by simpa using hjl
    have hsl := sizeLine_eq
    refine call_meets PySem.F.slot_list_index ⟨_, ho, rfl⟩ PySem.F.entry_list_index (PySem.F.args_list_index_3 _ _ _)
      (SeqAt.list_indexFrom a its.toArray n dd sl uy b tb (eqU y) j hj hb (by omega) ?_ ?_) ⟨ho, fun u' hu' => mem_eqAt ry fy rv fys u' (by simpa using hu'), ?_⟩
    · have e1 : its.toArray[j] = u := by simpa using hje
      rw [e1, eqU_of ru (flat_at fys hz)]
      exact hzj
    · intro m hm hmb hmj
      have hml : m < its.length := by simpa using hm
      have hmy : m < ys.length := by omega
      have hy' : ys[m]? = some ys[m] := List.getElem?_eq_getElem hmy
      obtain ⟨u2, hu2, ru2⟩ := rv.get hy'
      obtain ⟨_, hme⟩ := List.getElem?_eq_some_iff.mp hu2
      have e1 : its.toArray[m] = u2 := by simpa using hme
      rw [e1, eqU_of ru2 (flat_at fys hy')]
      exact hno m _ hmb hmj hy'
    · exact ⟨.int (j : Nat), H, I.tok _, ⟨_, rfl⟩, q⟩
/-- l.index(x, b), ints: the first place from b on -/
def pIdxF (x : D) (es : List D) (q : D → Prop) : Prop := match x, es with
  | .list ds, [.int i, .int c] => ∃ (ns : List Int) (b j : Nat), ds = ns.map PyData.int ∧ c = (b : Nat) ∧ b ≤ j ∧ ns[j]? = some i ∧ (∀ m, b ≤ m → m < j → ns[m]? ≠ some i) ∧ q (.int (j : Nat))
  | _, _ => False
theorem vm_idxF {K : PySem.W.Frag} : VMeth K (rIndexF K) pIdxF := by
  intro F H x xs dx ds q Q s px ps t h
  match dx, ds, px, ps, t with
  | .list es, [.int i, .int c], .lst h1 h2, .cons (.int _) (.cons (.int _) .nil), ⟨ns, b, j, e, ec, hb, hj, hno, t⟩ =>
    subst e
    subst ec
    refine ⟨_, ns.map V.int, .int i, b, j, .int i, rfl, rfl, by rw [← RpAll.ofInts h2]; exact SqL.of (s _ _ h1), rfl, flat_ints ns, hb, ?_, ?_, fun k z hk0 hk hz => ?_, fin_flat s h (.int _) t⟩
    · rw [List.getElem?_map, hj]; rfl
    · show decide (i = i) = true
      simp
    · rw [List.getElem?_map] at hz
      rcases hn : ns[k]? with _ | y
      · rw [hn] at hz; cases hz
      · rw [hn] at hz
        cases hz
        refine decide_eq_false fun e => hno k hk0 hk ?_
        rw [hn]; exact congrArg some e
theorem d_indexF {o e e2 : Expr} {te : DTE} {ta : DTA} {apos cpos : Pos} (ho : DE X o te) (ha : DA X [e, e2] ta)
    (hbase : attributeBase o "index" X.env (eval o X.env) = eval o X.env := by rfl)
    (hfew : ((backTo cpos (starEach [e, e2] X.env)).all (fun x => !x.1) && (backToKw cpos (keywordEach [] X.env)).all (fun x => x.1.isSome)
      && decide ([e, e2].length + ([] : List Keyword).length + (if ([] : List Keyword).isEmpty then 0 else 1) < 30)) = true := by rfl)
    (hline : (apos.endLine == cpos.line) = true := by rfl) (hs : starEach [e, e2] X.env = (false, eval e X.env) :: starEach [e2] X.env := by rfl) (hplain : (backTo cpos (starEach [e2] X.env)).any (·.1) = false := by rfl) :
    DE X (.Call (.Attribute o "index" apos) [e, e2] [] cpos) (eMeth .list pIdxF te ta) :=
  d_meth (T := .list) PySem.F.plainAttrs_list PySem.F.slot_list_index PySem.F.type_list_index mt_indexF vm_idxF tyv_list ho ha hbase hfew hline hs hplain
end
end DL
end

section
set_option Elab.async false
set_option linter.all false
set_option maxRecDepth 100000
set_option maxHeartbeats 1000000
/-! ## a test a < b < c < d -/
namespace DL
open PySem PySem.Spec PyProof.Rows L2
def eChain3 (p p' p'' : P2) (ta tb tc td : DTE) : DTE := fun r q => ta r fun x r1 => tb r1 fun y r2 => p x y fun z => match z with
  | .bool b => if b = true then tc r2 fun u r3 => p' y u fun z' => (match z' with
    | .bool b' => if b' = true then td r3 fun w r4 => p'' u w fun d => q d r4 else q (.bool false) r3
    | _ => False) else q (.bool false) r2
  | _ => False
def tChain3 (r r' r'' : R2) (ta tb tc td : TE) : TE := fun σ H Q => ta σ H fun x H1 => tb σ H1 fun y H2 => r x y H2 fun z H3 => ∃ k, z = .bl k ∧
  (if k = true then tc σ H3 fun w H4 => r' y w H4 fun z' H5 => ∃ k', z' = .bl k' ∧ (if k' = true then td σ H5 fun u H6 => r'' w u H6 Q else Q (.bl false) H5) else Q (.bl false) H3)
section
variable {X : Cx} {a b c d : Expr} {pos : Pos}
theorem pt_chain3 {ta tb tc td : TE} {op op' op'' : CmpOp} {r r' r'' : R2} (ho : OpR X (compareOp op) r) (ho' : OpR X (compareOp op') r') (ho'' : OpR X (compareOp op'') r'') (ha : PE X a ta) (hb : PE X b tb) (hc : PE X c tc) (hd : PE X d td)
    (hm : lastMarks [op, op', op''] [b, c, d] = false := by with_unfolding_all rfl) : PT X (.Compare a [op, op', op''] [b, c, d] pos) (tTest (tChain3 r r' r'' ta tb tc td)) := by
  refine ⟨fun pins s σ H Q I h => ?_⟩
  refine isTrue_chain (thn (ha.run pins s σ H _ I h) fun v s1 ⟨x, H1, I1, r1, q1⟩ => test_link (thn (hb.run pins s1 σ H1 _ I1 q1) fun u s2 ⟨y, H2, I2, r2, q2⟩ =>
    thn (ho pins s2 σ H2 x y v u _ I2 r1 r2 q2) fun d s3 ⟨z, H3, I3, r3, k, e, q3⟩ => ?_)) hm
  subst e
  cases r3
  refine wpAny_truthy_bool ?_
  cases k with
  | false =>
    obtain ⟨k', e', q'⟩ := q3
    cases e'
    exact ite_ff ⟨H3, I3, q'⟩
  | true =>
    refine ite_tt (test_link (thn (hc.run pins s3 σ H3 _ I3 q3) fun w' s4 ⟨z', H4, I4, r4, q4⟩ => thn (ho' pins s4 σ H4 y z' u w' _ I4 r2 r4 q4) fun d' s5 ⟨z2, H5, I5, r5, k2, e2, q5⟩ => ?_))
    subst e2
    cases r5
    refine wpAny_truthy_bool ?_
    cases k2 with
    | false =>
      obtain ⟨k', e', q'⟩ := q5
      cases e'
      exact ite_ff ⟨H5, I5, q'⟩
    | true =>
      refine ite_tt (test_last (thn (hd.run pins s5 σ H5 _ I5 q5) fun w3 s6 ⟨z3, H6, I6, r6, q6⟩ => thn (ho'' pins s6 σ H6 z' z3 w' w3 _ I6 r4 r6 q6) fun d2 s7 ⟨z4, H7, I7, r7, k4, e4, q7⟩ => ?_))
      subst e4
      cases r7
      exact wpAny_truthy_bool ⟨H7, I7, q7⟩
theorem chain3_weak {ta tb tc td : DTE} {K : PySem.W.Frag} {W : Wd} {r2 r2' r2'' : R2} {p p' p'' : P2} (hv : VOp K r2 p) (hv' : VOp K r2' p') (hv'' : VOp K r2'' p'') (σ : St) (H : Hp) (Q : VK) (h : lift K W (eChain3 p p' p'' ta tb tc td) σ H Q) : tChain3 r2 r2' r2'' (lift K W ta) (lift K W tb) (lift K W tc) (lift K W td) σ H Q := by
  obtain ⟨r, F, q, R, t, w⟩ := h
  refine ⟨r, F, _, R, t, fun dx r1 v1 F1 H1 t1 R1 s1 p1 => ⟨r1, F1, _, R1, t1, fun dy rr v2 F2 H2 t2 R2' s2 p2 => ?_⟩⟩
  refine hv F2 H2 v1 v2 dx dy _ _ R2'.sub (p1.up s2) p2 t2 fun d v F' H' qd e rp => ?_
  cases rp with
  | bl k =>
    have R3 := R2'.ext e
    have s3 := s1.trans (s2.trans e.f)
    refine ⟨k, rfl, ?_⟩
    cases k with
    | false => exact w _ rr _ F' H' qd R3 s3 (.bl false)
    | true =>
      refine ⟨rr, F', _, R3, qd, fun du r4 v4 F4 H4 t4 R4 s4 p4 => ?_⟩
      refine hv' F4 H4 v2 v4 dy du _ _ R4.sub (p2.up (e.f.trans s4)) p4 t4 fun d v F5 H5 q5 e5 rp5 => ?_
      cases rp5 with
      | bl k' =>
        have R5 := R4.ext e5
        have s5 := s3.trans (s4.trans e5.f)
        refine ⟨k', rfl, ?_⟩
        cases k' with
        | false => exact w _ r4 _ F5 H5 q5 R5 s5 (.bl false)
        | true => exact ⟨r4, F5, _, R5, q5, fun dw r6 v6 F6 H6 t6 R6 s6 p6 => hv'' F6 H6 v4 v6 du dw _ Q R6.sub (p4.up (e5.f.trans s6)) p6 t6 fun d v F7 H7 q7 e7 rp7 => w d r6 v F7 H7 q7 (R6.ext e7) (s5.trans (s6.trans e7.f)) rp7⟩
      | _ => exact q5.elim
  | _ => exact qd.elim
theorem dt_chain3 {ta tb tc td : DTE} {op op' op'' : CmpOp} {r2 r2' r2'' : R2} {p p' p'' : P2} (ho : OpR X (compareOp op) r2) (hv : VOp X.K r2 p) (ho' : OpR X (compareOp op') r2') (hv' : VOp X.K r2' p') (ho'' : OpR X (compareOp op'') r2'') (hv'' : VOp X.K r2'' p'') (ha : DE X a ta) (hb : DE X b tb) (hc : DE X c tc) (hd : DE X d td)
    (hm : lastMarks [op, op', op''] [b, c, d] = false := by with_unfolding_all rfl) : DT X (.Compare a [op, op', op''] [b, c, d] pos) (tBl (eChain3 p p' p'' ta tb tc td)) :=
  ⟨fun W => pt_weak (pt_chain3 ho ho' ho'' (ha.run W) (hb.run W) (hc.run W) (hd.run W) hm) fun σ H Q h => chain3_weak hv hv' hv'' σ H _ (lift_bl h)⟩
end
end DL
end

section
set_option Elab.async false
set_option linter.all false
set_option maxRecDepth 100000
set_option maxHeartbeats 1000000
/-! ## l.index(x), of any data -/
namespace DL
open PySem PySem.Spec PyProof.Rows L2
section
variable {X : Cx}
def pIdxD (x : D) (es : List D) (q : D → Prop) : Prop := match x, es with
  | .list ds, [d] => SeqAt.shaped (.list ds) = true ∧ SeqAt.shaped d = true ∧ ∃ (j : Nat) (z : D), ds[j]? = some z ∧ PyData.eqv z d = true ∧ (∀ (m : Nat) (z' : D), m < j → ds[m]? = some z' → PyData.eqv z' d = false) ∧ q (.int (j : Nat))
  | _, _ => False
theorem vm_idxD {K : PySem.W.Frag} : VMeth K (rIndexD K) pIdxD := by
  intro F H x xs dx ds q Q s px ps t h
  match dx, ds, px, ps, t with
  | .list es, [d], .lst h1 h2, .cons p1 .nil, ⟨s1, s2, j, z, hz, e, no, t⟩ =>
    exact ⟨_, _, d, es, j, z, rfl, rfl, dp_of s (.list es) _ (lay_of s1) (.lst h1 h2), dp_of s d _ (lay_of s2) p1, s1, s2, hz, e, no, fin_flat s h (.int _) t⟩
theorem units65 {k : Nat} {A : Around} (hr : Room k A) : A.units + 65 < cLine := by have := hr.un; omega
theorem d_indexD (hu : X.A.units + 65 < cLine) {o e : Expr} {te : DTE} {ta : DTA} {apos cpos : Pos} (ho : DE X o te) (ha : DA X [e] ta)
    (hbase : attributeBase o "index" X.env (eval o X.env) = eval o X.env := by rfl)
    (hfew : ((backTo cpos (starEach [e] X.env)).all (fun x => !x.1) && (backToKw cpos (keywordEach [] X.env)).all (fun x => x.1.isSome)
      && decide ([e].length + ([] : List Keyword).length + (if ([] : List Keyword).isEmpty then 0 else 1) < 30)) = true := by rfl)
    (hline : (apos.endLine == cpos.line) = true := by rfl) (hs : starEach [e] X.env = (false, eval e X.env) :: starEach [] X.env := by rfl) (hplain : (backTo cpos (starEach [] X.env)).any (·.1) = false := by rfl) :
    DE X (.Call (.Attribute o "index" apos) [e] [] cpos) (eMeth .list pIdxD te ta) :=
  d_meth (T := .list) PySem.F.plainAttrs_list PySem.F.slot_list_index PySem.F.type_list_index (mt_indexD hu) vm_idxD tyv_list ho ha hbase hfew hline hs hplain
end
end DL
end

section
set_option Elab.async false
set_option linter.all false
set_option maxRecDepth 100000
set_option maxHeartbeats 1000000
/-! ## a dict's display; d[k], d.get(k, x) of a dict that nobody changes -/
namespace DL
open PySem PySem.Spec PyProof.Rows L2
/-- a world in which the cell p stands as it is -/
def holdW (W : Wd) (p : Addr) (o : HO) : Wd := ⟨W.F0, upd W.H0 p o, fun a => W.A a ∧ a ≠ p, fun i a => W.io i a ∧ a ≠ p⟩
section
variable {K : PySem.W.Frag} {W : Wd} {r : DSt} {F : Hp} {σ : St} {H : Hp} {p : Addr} {o : HO}
theorem Rel.hold (R : Rel K W r F σ H) (hp : H p = none) : Rel K (holdW W p o) r F σ (upd H p o) := by
  have ne : ∀ {a : Addr} {u : HO}, H a = some u → a ≠ p := fun {a u} h => ne_of_none h hp
  have up : ∀ {a : Addr} {u : HO}, H a = some u → upd H p o a = some u := fun {a u} h => by rw [upd_ne (ne h)]; exact h
  have w0 : ∀ {a : Addr}, a ≠ p → upd W.H0 p o a = W.H0 a := fun {a} h => upd_ne h
  refine ⟨fun b u h => up (R.sub _ _ h), R.f0, fun b u h1 h2 => ?_, fun b h => ?_, fun b h => ?_, R.sh, fun i m h => ?_, fun i m h => ?_, fun i a h => ⟨R.ioA i a h.1, h.2⟩, R.sep, R.len⟩
  · by_cases hb : b = p
    · subst hb
      have h1' : upd W.H0 b o b = some u := h1
      rw [upd_same] at h1' ⊢
      exact h1'
    · have h1' : upd W.H0 p o b = some u := h1
      rw [w0 hb] at h1'
      exact up (R.keep b u h1' fun z => h2 ⟨z, hb⟩)
  · by_cases hb : b = p
    · subst hb; rw [upd_same]; exact fun z => by cases z
    · have h' : upd W.H0 p o b ≠ none := h
      rw [w0 hb] at h'
      obtain ⟨u, e⟩ := some_of (R.there b h')
      exact ne_none (up e)
  · obtain ⟨u, e⟩ := some_of h
    have hb := ne (R.sub _ _ e)
    rcases R.new b h with z | z | z
    · exact .inl z
    · exact .inr (.inl (by show upd W.H0 p o b = none; rw [w0 hb]; exact z))
    · exact .inr (.inr ⟨z, hb⟩)
  · obtain ⟨a, u, h1, h2, h3, h4, h5⟩ := R.own i m h
    have ha := ne h2
    refine ⟨a, u, h1, up h2, h3, h4, ?_⟩
    rcases h5 with z | z
    · exact .inl ⟨z, ha⟩
    · exact .inr (by show upd W.H0 p o a = none; rw [w0 ha]; exact z)
  · obtain ⟨a, u, h1, h2, h3, h4, h5⟩ := R.io i m h
    exact ⟨a, u, h1, up h2, h3, h4, h5, ne h2⟩
/-- the held cell is filled -/
theorem Rel.fill {o' : HO} (R0 : Rel K W r F σ H) (hp : H p = none) {r2 : DSt} {F2 : Hp} {σ2 : St} {H2 : Hp} (R : Rel K (holdW W p o) r2 F2 σ2 H2) :
    H2 p = some o ∧ F2 p = none ∧ Rel K W r2 (upd F2 p o') σ2 (upd H2 p o') ∧ Same F2 (upd F2 p o') := by
  have h0 : H2 p = some o := R.keep p o (show upd W.H0 p o p = some o from upd_same) fun z => z.2 rfl
  have w0n : W.H0 p = none := by
    cases q : W.H0 p with
    | none => rfl
    | some u => exact absurd hp (R0.there p (ne_none q))
  have f0n : W.F0 p = none := by
    cases q : W.F0 p with
    | none => rfl
    | some u =>
      have := R0.sub _ _ (R0.f0 _ _ q)
      rw [hp] at this; cases this
  have fn : F2 p = none := by
    cases q : F2 p with
    | none => rfl
    | some u =>
      rcases R.new p (ne_none q) with z | z | z
      · exact absurd f0n z
      · have z' : upd W.H0 p o p = none := z
        rw [upd_same] at z'; cases z'
      · exact absurd rfl z.2
  have sf : Same F2 (upd F2 p o') := fun b u e => by rw [upd_ne (ne_of_none e fn)]; exact e
  have w0 : ∀ {a : Addr}, a ≠ p → upd W.H0 p o a = W.H0 a := fun {a} h => upd_ne h
  refine ⟨h0, fn, ⟨fun b u e => ?_, R.f0.trans sf, fun b u h1 h2 => ?_, fun b h => ?_, fun b h => ?_, fun i d h => ?_, fun i m h => ?_, fun i m h => ?_, R0.ioA, R.sep, R.len⟩, sf⟩
  · by_cases hb : b = p
    · subst hb; rw [upd_same] at e ⊢; exact e
    · rw [upd_ne hb] at e ⊢; exact R.sub _ _ e
  · have hb : b ≠ p := ne_of_none h1 w0n
    rw [upd_ne hb]
    exact R.keep b u (by show upd W.H0 p o b = some u; rw [w0 hb]; exact h1) fun z => h2 z.1
  · obtain ⟨u, e⟩ := some_of h
    have hb : b ≠ p := ne_of_none e w0n
    rw [upd_ne hb]
    exact R.there b (by show upd W.H0 p o b ≠ none; rw [w0 hb]; exact h)
  · by_cases hb : b = p
    · subst hb; exact .inr (.inl w0n)
    · rw [upd_ne hb] at h
      rcases R.new b h with z | z | z
      · exact .inl z
      · exact .inr (.inl (by have z' : upd W.H0 p o b = none := z; rw [w0 hb] at z'; exact z'))
      · exact .inr (.inr z.1)
  · obtain ⟨v, h1, h2⟩ := R.sh i d h
    exact ⟨v, h1, h2.up sf⟩
  · obtain ⟨a, u, h1, h2, h3, h4, h5⟩ := R.own i m h
    have ha : a ≠ p := fun e => by
      subst e
      rcases h5 with z | z
      · exact z.2 rfl
      · have z' : upd W.H0 a o a = none := z
        rw [upd_same] at z'; cases z'
    refine ⟨a, u, h1, by rw [upd_ne ha]; exact h2, by rw [upd_ne ha]; exact h3, h4.up sf, ?_⟩
    rcases h5 with z | z
    · exact .inl z.1
    · exact .inr (by have z' : upd W.H0 p o a = none := z; rw [w0 ha] at z'; exact z')
  · obtain ⟨a, u, h1, h2, h3, h4, h5⟩ := R.io i m h
    exact ⟨a, u, h1, by rw [upd_ne h5.2]; exact h2, by rw [upd_ne h5.2]; exact h3, h4.up sf, h5.1⟩
end
/-! ### the display -/
/-- in whatever world -/
def liftW (K : PySem.W.Frag) (t : DTE) : TE := fun σ H Q => ∃ W, lift K W t σ H Q
theorem pe_liftW {X : Cx} {e : Expr} {t : DTE} (h : DE X e t) : PE X e (liftW X.K t) :=
  ⟨fun pins s σ H Q I q => let ⟨W, q⟩ := q; (h.run W).run pins s σ H Q I q⟩
abbrev DPrs := List (DTE × DTE)
def ePrs : DPrs → DSt → (List (D × D) → DSt → Prop) → Prop
  | [], r, q => q [] r
  | (tk, tv) :: t, r, q => tk r fun k r1 => tv r1 fun v r2 => ePrs t r2 fun ps r3 => q ((k, v) :: ps) r3
structure DDk (X : Cx) (pos : Pos) (keys : List (Option Expr)) (values : List Expr) (ts : DPrs) : Prop where
  run : PPs X pos keys values (ts.map fun p => (liftW X.K p.1, liftW X.K p.2))
theorem ddk_nil {X : Cx} {pos : Pos} : DDk X pos [] [] [] := ⟨pps_nil⟩
theorem ddk_cons {X : Cx} {pos : Pos} {k v : Expr} {ks : List (Option Expr)} {vs : List Expr} {tk tv : DTE} {ts : DPrs} (hk : DE X k tk) (hv : DE X v tv) (hr : DDk X pos ks vs ts) : DDk X pos (some k :: ks) (v :: vs) ((tk, tv) :: ts) :=
  ⟨pps_cons (pe_liftW hk) (pe_liftW hv) hr.run⟩
inductive RpPs (K : PySem.W.Frag) (F : Hp) : List (V × V) → List (D × D) → Prop
  | nil : RpPs K F [] []
  | cons {a b : V} {c d : D} {vs : List (V × V)} {ds : List (D × D)} : Rp K F a c → Rp K F b d → RpPs K F vs ds → RpPs K F ((a, b) :: vs) ((c, d) :: ds)
theorem tPairs_of {K : PySem.W.Frag} {W : Wd} : ∀ {ts : DPrs} {r : DSt} {F : Hp} {σ : St} {H : Hp} {q : List (D × D) → DSt → Prop} {Q : List (V × V) → Hp → Prop}, Rel K W r F σ H → ePrs ts r q →
    (∀ ps r' F' H' vs, q ps r' → Rel K W r' F' σ H' → Same F F' → RpPs K F' vs ps → Q vs H') → tPairs (ts.map fun p => (liftW K p.1, liftW K p.2)) σ H Q
  | [], r, F, σ, H, q, Q, R, t, w => w [] r F H [] t R (Same.refl _) .nil
  | (tk, tv) :: ts, r, F, σ, H, q, Q, R, t, w => by
    refine ⟨W, r, F, _, R, t, fun k r1 a F1 H1 t1 R1 s1 p1 => ?_⟩
    refine ⟨W, r1, F1, _, R1, t1, fun v r2 b F2 H2 t2 R2 s2 p2 => ?_⟩
    exact tPairs_of R2 t2 fun ps r3 F3 H3 vs t3 R3 s3 p3 => w _ r3 F3 H3 _ t3 R3 (s1.trans (s2.trans s3)) (.cons (p1.up (s2.trans s3)) (p2.up s3) p3)
theorem merge_new : ∀ {more acc : List (Key × V)}, (more.map (·.1)).Nodup → (∀ p ∈ more, valV acc p.1 = none) → mergeK acc more = acc ++ more
  | [], acc, _, _ => by show acc = acc ++ []; rw [List.append_nil]
  | p :: more, acc, nd, h => by
    have hp := h p List.mem_cons_self
    have nd' : p.1 ∉ more.map (·.1) ∧ (more.map (·.1)).Nodup := by simpa using nd
    show mergeK (putK acc p.1 p.2) more = _
    rw [putK_new p.2 hp, merge_new nd'.2 fun q hq => ?_, List.append_assoc]
    · rfl
    · have hne : ¬ q.1 = p.1 := fun e => nd'.1 (by rw [← e]; exact List.mem_map.2 ⟨q, hq, rfl⟩)
      rw [show acc ++ [(p.1, p.2)] = acc ++ [(p.1, p.2)] from rfl, valV_snoc _ _ _ _ hp, if_neg hne]
      exact h q (List.mem_cons_of_mem _ hq)
/-- the keys of a display are whole numbers and texts, each once -/
def KeysOk (ps : List (D × D)) (ks : List Key) : Prop := ps.map (·.1) = ks.map keyD ∧ ks.Nodup ∧ ps.length ≤ 15
theorem key_v {K : PySem.W.Frag} {F : Hp} {v : V} : ∀ {k : Key}, Rp K F v (keyD k) → v = kV k
  | .inl i, .int _ => rfl
  | .inr z, .str _ => rfl
theorem kvs_of {K : PySem.W.Frag} {F : Hp} : ∀ {vs : List (V × V)} {ps : List (D × D)} {ks : List Key}, RpPs K F vs ps → ps.map (·.1) = ks.map keyD → ∃ kvs : List (Key × V), vs = kvs.map (fun kv => (kV kv.1, kv.2)) ∧ kvs.map (·.1) = ks ∧ RpKv K F kvs ps
  | _, _, [], .nil, _ => ⟨[], rfl, rfl, .nil⟩
  | _, _, k :: ks, .cons h1 h2 t, e => by
    rw [List.map_cons, List.map_cons] at e
    injection e with e1 e2
    obtain ⟨kvs, a, b, c⟩ := kvs_of t e2
    have e1' : _ = keyD k := e1
    subst e1'
    exact ⟨(k, _) :: kvs, by rw [a, key_v h1]; rfl, by rw [List.map_cons, b], .cons h2 c⟩
def eDict (ts : DPrs) : DTE := fun r q => ePrs ts r fun ps r1 => (∃ ks, KeysOk ps ks) ∧ q (.dict ps) r1
theorem d_dict {X : Cx} {pos : Pos} {keys : List (Option Expr)} {values : List Expr} {ts : DPrs} (h : DDk X pos keys values ts) (hall : keys.all (·.isSome) = true := by rfl) (hl : keys.length = values.length := by rfl) (h0 : keys ≠ [] := by exact fun z => nomatch z)
    (h15 : keys.length ≤ 15 := by decide) : DE X (.Dict keys values pos) (eDict ts) := by
  refine ⟨fun W => pe_weak (pe_disp h.run hall hl h0 h15) fun σ H Q hq => ?_⟩
  obtain ⟨r, F, q, R, t, w⟩ := hq
  intro p hp
  have R1 : Rel X.K (holdW W p (.dK [])) r F σ (upd H p (.dK [])) := R.hold hp
  refine tPairs_of R1 t fun ps r2 F2 H2 vs t2 R2 s2 p2 => ?_
  obtain ⟨⟨ks, k1, k2, k3⟩, t2⟩ := t2
  obtain ⟨kvs, e1, e2, e3⟩ := kvs_of p2 k1
  obtain ⟨f1, f2, f3, f4⟩ := Rel.fill (o' := .dK kvs) R hp R2
  have len : ∀ {kvs : List (Key × V)} {ps : List (D × D)}, RpKv X.K F2 kvs ps → kvs.length = ps.length := fun {kvs ps} z => by
    induction kvs generalizing ps with
    | nil => cases z; rfl
    | cons a t ih => cases z with
      | cons _ z => rw [List.length_cons, List.length_cons, ih z]
  refine ⟨f1, kvs, e1, by rw [len e3]; exact k3, ?_⟩
  have em : mergeK [] kvs = kvs := by rw [merge_new (by rw [e2]; exact k2) fun p _ => rfl, List.nil_append]
  rw [em]
  exact w _ r2 (.ref p) _ _ t2 f3 (s2.trans f4) (.dic (.inl upd_same) (RpKv.up e3 f4))
theorem units1 {k : Nat} {A : Around} (hr : Room k A) : A.units + 1 < cLine := by have := units65 hr; omega
/-! ### reading -/
def keyEq : D → D → Bool
  | .int i, .int j => decide (i = j)
  | .str x, .str y => decide (x = y)
  | _, _ => false
def dLook (ds : List (D × D)) (k : D) : Option D := (ds.find? fun p => keyEq p.1 k).map (·.2)
theorem keyEq_is (a b : Key) : keyEq (keyD a) (keyD b) = decide (a = b) := by
  cases a <;> cases b <;> simp [keyEq, keyD]
theorem look_of {K : PySem.W.Frag} {F : Hp} (k : Key) : ∀ {kvs : List (Key × V)} {ds : List (D × D)}, RpKv K F kvs ds → (dLook ds (keyD k) = none ∧ valV kvs k = none) ∨ ∃ d v, dLook ds (keyD k) = some d ∧ valV kvs k = some v ∧ Rp K F v d
  | _, _, .nil => .inl ⟨rfl, rfl⟩
  | _, _, @RpKv.cons _ _ k' v ps d ds h t => by
    by_cases e : k' = k
    · refine .inr ⟨d, v, ?_, valV_pos e, h⟩
      unfold dLook
      rw [List.find?_cons, show keyEq (keyD k', d).1 (keyD k) = true by rw [keyEq_is, decide_eq_true e]]; rfl
    · have e2 : dLook ((keyD k', d) :: ds) (keyD k) = dLook ds (keyD k) := by
        unfold dLook
        rw [List.find?_cons, show keyEq (keyD k', d).1 (keyD k) = false by rw [keyEq_is, decide_eq_false e]]
      rw [e2, valV_neg e]
      exact look_of k t
def eIxK (ta tb : DTE) : DTE := fun r q => ta r fun x r1 => tb r1 fun y r2 => match x with
  | .dict ds => ∃ k d, y = keyD k ∧ (¬ ∃ l, ds = [(.none, l)]) ∧ dLook ds y = some d ∧ q d r2
  | _ => False
section
variable {X : Cx} {o i : Expr} {ta tb : DTE}
theorem d_ixK {pos : Pos} (hu : X.A.units + 1 < cLine) (ho : DE X o ta) (hi : DE X i tb) (hs : NoSl i) : DE X (.Subscript o i pos) (eIxK ta tb) := by
  refine ⟨fun W => pe_weak (pe_dget hu (ho.run W) (hi.run W) hs) fun σ H Q h => ?_⟩
  obtain ⟨r, F, q, R, t, w⟩ := h
  refine ⟨r, F, _, R, t, fun x r1 a F1 H1 t1 R1 s1 p1 => ⟨r1, F1, _, R1, t1, fun y r2 b F2 H2 t2 R2 s2 p2 => ?_⟩⟩
  unfold eIxK at t2
  split at t2
  · rename_i ds
    obtain ⟨k, d, rfl, hn, hd, t2⟩ := t2
    have eb := key_v p2
    subst eb
    have p1' := p1.up s2
    cases p1' with
    | scr _ _ => exact absurd ⟨_, rfl⟩ hn
    | exc _ _ => exact absurd ⟨_, rfl⟩ hn
    | dic h1 h2 =>
      rcases look_of k h2 with ⟨z, _⟩ | ⟨d', v, z1, z2, z3⟩
      · rw [hd] at z; cases z
      · rw [hd] at z1; cases z1
        refine ⟨_, v, rfl, .inl ⟨_, k, same_rd R2.sub h1, rfl, z2.symm⟩, ?_⟩
        exact w _ r2 _ _ _ t2 R2 (s1.trans s2) z3
  · exact t2.elim
def notScr : List (D × D) → Prop := fun ds => ¬ (∃ l, ds = [(.none, l)])
theorem notScr_of {ds : List (D × D)} {ks : List Key} (h : ds.map (·.1) = ks.map keyD) : notScr ds := fun ⟨l, e⟩ => by
  subst e
  match ks, h with
  | .inl i :: _, h => cases h
  | .inr z :: _, h => cases h
def eGetK (ta tb tc : DTE) : DTE := fun r q => ta r fun x r1 => match x with
  | .dict ds => notScr ds ∧ tb r1 fun y r2 => tc r2 fun z r3 => (∃ k, y = keyD k) ∧ q ((dLook ds y).getD z) r3
  | _ => False
theorem d_getK {f : Expr} {tc : DTE} {apos cpos : Pos} (hu : X.A.units + 1 < cLine) (ho : DE X o ta) (hi : DE X i tb) (hf : DE X f tc) (m : M2 X o "get" apos i f cpos := by exact ⟨rfl, rfl, rfl, rfl⟩) :
    DE X (.Call (.Attribute o "get" apos) [i, f] [] cpos) (eGetK ta tb tc) := by
  refine ⟨fun W => pe_weak (pe_dget2 hu (ho.run W) (hi.run W) (hf.run W) m) fun σ H Q h => ?_⟩
  obtain ⟨r, F, q, R, t, w⟩ := h
  refine ⟨r, F, _, R, t, fun x r1 a F1 H1 t1 R1 s1 p1 => ?_⟩
  cases p1 with
  | scr _ _ => exact absurd ⟨_, rfl⟩ t1.1
  | exc _ _ => exact absurd ⟨_, rfl⟩ t1.1
  | dic h1 h2 =>
    refine ⟨_, rfl, .inl ⟨_, same_rd R1.sub h1⟩, r1, F1, _, R1, t1.2, fun y r2 b F2 H2 t2 R2 s2 p2 => ⟨r2, F2, _, R2, t2, fun z r3 c F3 H3 t3 R3 s3 p3 => ?_⟩⟩
    obtain ⟨⟨k, rfl⟩, t3⟩ := t3
    have eb := key_v p2
    subst eb
    have h2' := RpKv.up h2 (s2.trans s3)
    rcases look_of k h2' with ⟨z1, z2⟩ | ⟨d', v, z1, z2, z3⟩
    · refine ⟨none, .inl ⟨_, k, same_rd R3.sub (same_rd (s2.trans s3) h1), rfl, z2.symm⟩, ?_⟩
      rw [z1] at t3
      exact w _ r3 _ _ _ t3 R3 (s1.trans (s2.trans s3)) p3
    · refine ⟨some v, .inl ⟨_, k, same_rd R3.sub (same_rd (s2.trans s3) h1), rfl, z2.symm⟩, ?_⟩
      rw [z1] at t3
      exact w _ r3 _ _ _ t3 R3 (s1.trans (s2.trans s3)) z3
  | _ => exact t1.elim
end
end DL
end

section
set_option Elab.async false
set_option linter.all false
set_option maxRecDepth 100000
/-! ## x in a list of things of any depth -/
namespace DL
open PySem PySem.Spec PyProof.Rows L2
def pInD (neg : Bool) : P2 := fun x y q => match y with
  | .list ds => SeqAt.shaped x = true ∧ SeqAt.shaped (.list ds) = true ∧ q (.bool (if neg then !(ds.any fun z => PyData.eqv z x) else ds.any fun z => PyData.eqv z x))
  | _ => False
theorem v_inD {K : PySem.W.Frag} : VOp K (rInD K) (pInD false) := by
  intro F H x y dx dy q Q s px py t h
  cases dy with
  | list ds => exact ⟨dx, ds, dp_of s dx x (SeqAt.canLay_of_shaped t.1) px, dp_of s _ y (SeqAt.canLay_of_shaped t.2.1) py, t.1, t.2.1, fin_flat s h (.bl _) t.2.2⟩
  | _ => exact t.elim
theorem v_niD {K : PySem.W.Frag} : VOp K (rNotInD K) (pInD true) := by
  intro F H x y dx dy q Q s px py t h
  cases dy with
  | list ds => exact ⟨dx, ds, dp_of s dx x (SeqAt.canLay_of_shaped t.1) px, dp_of s _ y (SeqAt.canLay_of_shaped t.2.1) py, t.1, t.2.1, fin_flat s h (.bl _) t.2.2⟩
  | _ => exact t.elim
end DL
end

section
set_option Elab.async false
set_option linter.all false
namespace MK
/-! ## makers, in plain Lean -/
inductive Mk where
  | counter (n s b : Nat)
  | turned (w b : Nat)
  | register (w t b : Nat)
  | table (ns : List Int)
  | slow (k : Nat) (m : Mk)
  | slip (k : Nat) (m : Mk)
  | late (k : Nat) (m : Mk)
deriving DecidableEq

/-- the bits of a number, the last for the first -/
def rev : Nat → Nat → Nat
  | 0, _ => 0
  | w + 1, n => n % 2 * 2 ^ w + rev w (n / 2)
/-- how many ones both have, of the lowest w places -/
def odds : Nat → Nat → Nat → Nat
  | 0, _, _ => 0
  | w + 1, a, b => (a % 2) * (b % 2) + odds w (a / 2) (b / 2)
def next (w t h : Nat) : Nat := 2 * h % 2 ^ w + odds w h t % 2
def held (w t s : Nat) : Nat → Nat
  | 0 => s
  | n + 1 => next w t (held w t s n)
/-- the first place behind which s is held again -/
def backFrom (w t s : Nat) : Nat → Nat → Nat → Nat
  | 0, _, n => n
  | f + 1, h, n => if next w t h = s then n + 1 else backFrom w t s f (next w t h) (n + 1)
def period (w t s : Nat) : Nat := backFrom w t s 64 s 0
theorem back_first (w t s : Nat) : ∀ (f h n : Nat), h = held w t s n → ∀ j, n < j → j < backFrom w t s f h n → held w t s j ≠ s
  | 0, h, n, _, j, h1, h2 => by simp [backFrom] at h2; omega
  | f + 1, h, n, e, j, h1, h2 => by
    unfold backFrom at h2
    have e2 : next w t h = held w t s (n + 1) := by rw [e]; rfl
    split at h2
    · omega
    · rename_i hne
      rcases Nat.lt_or_ge (n + 1) j with h3 | h3
      · exact back_first w t s f (next w t h) (n + 1) e2 j h3 h2
      · have : j = n + 1 := by omega
        subst this
        rw [← e2]; exact hne
/-- what was held a beat ahead -/
def prev (w t b : Nat) : Nat := b / 2 + 2 ^ (w - 1) * ((b % 2 + odds w (b / 2) t) % 2)
def prevOk : Bool := (List.range 7).all fun w => (List.range (2 ^ w)).all fun t => decide (w < 2) || decide (t < 2 ^ (w - 1)) || (List.range (2 ^ w)).all fun h => decide (prev w t (next w t h) = h) && decide (next w t h < 2 ^ w)
set_option maxRecDepth 100000 in
theorem prev_ok : prevOk = true := by decide +kernel
theorem prev_next {w t h : Nat} (h1 : 2 ≤ w) (h2 : w ≤ 6) (h3 : 2 ^ (w - 1) ≤ t) (h4 : t < 2 ^ w) (h5 : h < 2 ^ w) : prev w t (next w t h) = h ∧ next w t h < 2 ^ w := by
  have q := prev_ok
  unfold prevOk at q
  rw [List.all_eq_true] at q
  have a := q w (List.mem_range.2 (by omega))
  rw [List.all_eq_true] at a
  have b := a t (List.mem_range.2 h4)
  simp only [Bool.or_eq_true, decide_eq_true_eq] at b
  rcases b with (b | b) | b
  · omega
  · omega
  · rw [List.all_eq_true] at b
    have c := b h (List.mem_range.2 h5)
    simpa using c
theorem pigeon : ∀ (n : Nat) (f : Nat → Nat), (∀ i, i ≤ n → f i < n) → ∃ i j, i < j ∧ j ≤ n ∧ f i = f j
  | 0, f, h => absurd (h 0 (Nat.le_refl 0)) (Nat.not_lt_zero _)
  | n + 1, f, h => by
    by_cases e : ∃ i, i ≤ n ∧ f i = f (n + 1)
    · obtain ⟨i, hi, e⟩ := e
      exact ⟨i, n + 1, by omega, by omega, e⟩
    · have hn : ∀ i, i ≤ n → f i ≠ f (n + 1) := fun i hi z => e ⟨i, hi, z⟩
      obtain ⟨i, j, h1, h2, h3⟩ := pigeon n (fun i => if f i = n then f (n + 1) else f i) fun i hi => by
        have a := h i (by omega)
        have b := h (n + 1) (by omega)
        have c := hn i hi
        show (if f i = n then f (n + 1) else f i) < n
        split <;> omega
      refine ⟨i, j, h1, by omega, ?_⟩
      have a := hn i (by omega)
      have b := hn j h2
      have h3' : (if f i = n then f (n + 1) else f i) = (if f j = n then f (n + 1) else f j) := h3
      split at h3' <;> split at h3' <;> omega
section
variable {w t s : Nat}
structure Reg (w t s : Nat) : Prop where
  w1 : 2 ≤ w
  w2 : w ≤ 6
  t1 : 2 ^ (w - 1) ≤ t
  t2 : t < 2 ^ w
  s1 : 1 ≤ s
  s2 : s < 2 ^ w
theorem Reg.held_lt (R : Reg w t s) : ∀ n, held w t s n < 2 ^ w
  | 0 => R.s2
  | n + 1 => (prev_next R.w1 R.w2 R.t1 R.t2 (R.held_lt n)).2
theorem Reg.back1 (R : Reg w t s) {i j : Nat} (h : held w t s (i + 1) = held w t s (j + 1)) : held w t s i = held w t s j := by
  have a := (prev_next R.w1 R.w2 R.t1 R.t2 (R.held_lt i)).1
  have b := (prev_next R.w1 R.w2 R.t1 R.t2 (R.held_lt j)).1
  have h' : next w t (held w t s i) = next w t (held w t s j) := h
  rw [← a, ← b, h']
theorem odds_zero : ∀ (w t : Nat), odds w 0 t = 0
  | 0, _ => rfl
  | w + 1, t => by unfold odds; simp [odds_zero w]
theorem next_zero (w t : Nat) : next w t 0 = 0 := by unfold next; rw [odds_zero]; simp
theorem Reg.held_pos (R : Reg w t s) : ∀ n, 1 ≤ held w t s n
  | 0 => R.s1
  | n + 1 => by
    rcases Nat.eq_zero_or_pos (held w t s (n + 1)) with z | z
    · exfalso
      have a := (prev_next R.w1 R.w2 R.t1 R.t2 (R.held_lt n)).1
      have z' : next w t (held w t s n) = next w t 0 := by rw [next_zero]; exact z
      have p0 : 0 < 2 ^ w := Nat.pow_pos (by decide)
      have b := (prev_next R.w1 R.w2 R.t1 R.t2 p0).1
      rw [z', b] at a
      have := R.held_pos n
      omega
    · exact z
theorem Reg.back (R : Reg w t s) (d : Nat) : ∀ i, held w t s i = held w t s (i + d) → held w t s d = s
  | 0, h => by rw [Nat.zero_add] at h; exact h.symm
  | i + 1, h => R.back d i (R.back1 (by rw [Nat.add_right_comm] at h; exact h))
theorem two_pow (R : Reg w t s) : 2 ^ w ≤ 64 := Nat.le_trans (Nat.pow_le_pow_right (by decide) R.w2) (by decide)
theorem Reg.again (R : Reg w t s) : ∃ d, 0 < d ∧ d < 2 ^ w ∧ held w t s d = s := by
  obtain ⟨i, j, h1, h2, h3⟩ := pigeon (2 ^ w - 1) (fun i => held w t s i - 1) fun i _ => by
    have a := R.held_lt i
    have b := R.held_pos i
    omega
  have a := R.held_pos i
  have b := R.held_pos j
  have e : held w t s i = held w t s (i + (j - i)) := by
    rw [show i + (j - i) = j by omega]
    have h3' : held w t s i - 1 = held w t s j - 1 := h3
    omega
  exact ⟨j - i, by omega, by omega, R.back _ i e⟩
theorem back_found : ∀ (f n d : Nat), n < d → d ≤ n + f → held w t s d = s → (∀ j, n < j → j < d → held w t s j ≠ s) → backFrom w t s f (held w t s n) n = d
  | 0, n, d, h1, h2, _, _ => by omega
  | f + 1, n, d, h1, h2, e, l => by
    unfold backFrom
    have e2 : next w t (held w t s n) = held w t s (n + 1) := rfl
    rw [e2]
    by_cases h : d = n + 1
    · subst h; rw [if_pos e]
    · rw [if_neg (l (n + 1) (by omega) (by omega))]
      exact back_found f (n + 1) d (by omega) (by omega) e fun j a b => l j (by omega) b
theorem least {p : Nat → Prop} [DecidablePred p] : ∀ {n : Nat}, p n → ∃ m, m ≤ n ∧ p m ∧ ∀ j, j < m → ¬ p j
  | 0, h => ⟨0, Nat.le_refl _, h, fun j hj => absurd hj (Nat.not_lt_zero _)⟩
  | n + 1, h => by
    by_cases e : ∃ j, j ≤ n ∧ p j
    · obtain ⟨j, hj, e⟩ := e
      obtain ⟨m, a, b, c⟩ := least e
      exact ⟨m, by omega, b, c⟩
    · exact ⟨n + 1, Nat.le_refl _, h, fun j hj z => e ⟨j, by omega, z⟩⟩
theorem Reg.period (R : Reg w t s) : held w t s (MK.period w t s) = s ∧ 0 < MK.period w t s ∧ MK.period w t s < 2 ^ w ∧ ∀ j, 0 < j → j < MK.period w t s → held w t s j ≠ s := by
  obtain ⟨d, h1, h2, h3⟩ := R.again
  obtain ⟨m, a, b, c⟩ := least (p := fun j => 0 < j ∧ held w t s j = s) ⟨h1, h3⟩
  have e : MK.period w t s = m := back_found 64 0 m b.1 (by have := two_pow R; omega) b.2 fun j x y z => c j y ⟨x, z⟩
  rw [e]
  exact ⟨b.2, b.1, by omega, fun j x y z => c j y ⟨x, z⟩⟩
theorem Reg.held_add (R : Reg w t s) (n : Nat) : held w t s (n + MK.period w t s) = held w t s n := by
  induction n with
  | zero => rw [Nat.zero_add]; exact R.period.1
  | succ n ih =>
    rw [Nat.add_right_comm]
    show next w t (held w t s (n + MK.period w t s)) = next w t (held w t s n)
    rw [ih]
end
end MK
end

section
set_option Elab.async false
set_option linter.all false
namespace MK
/-! ## what a maker tells -/
def Mk.base : Mk → List Int
  | .counter n s b => (List.range n).map fun t => (((b : Int) + s * (t : Nat)) % n)
  | .turned w b => (List.range (2 ^ w)).map fun t => ((rev w ((b + t) % 2 ^ w) : Nat) : Int)
  | .register w t s => (List.range (period w t s)).map fun n => ((held w t s n : Nat) : Int)
  | .table ns => ns
  | _ => []
def Mk.round : Mk → Nat
  | .counter n _ _ => n
  | .turned w _ => 2 ^ w
  | .register w t s => period w t s
  | .table ns => ns.length
  | .slow k m => k * m.round
  | .slip k m => k * (m.round / Nat.gcd m.round (k + 1))
  | .late _ m => m.round
def Mk.val : Mk → Int → Int
  | .slow k m, t => m.val (t / k)
  | .slip k m, t => m.val (t + t / k)
  | .late k m, t => m.val (t - k)
  | m, t => m.base.getD (t % m.base.length).toNat 0
def Mk.plain : Mk → Bool
  | .slow _ _ => false
  | .slip _ _ => false
  | .late _ _ => false
  | _ => true
def Mk.wraps : Mk → Nat
  | .slow _ m => m.wraps + 1
  | .slip _ m => m.wraps + 1
  | .late _ m => m.wraps + 1
  | _ => 0
def maxI : List Int → Int
  | [] => 0
  | x :: xs => if maxI xs > x then maxI xs else x
def Mk.top : Mk → Int
  | .counter n _ _ => n
  | .turned w _ => 2 ^ w
  | .register w _ _ => 2 ^ w
  | .table ns => maxI ns + 1
  | .slow _ m => m.top
  | .slip _ m => m.top
  | .late _ m => m.top
def Mk.Ok : Mk → Prop
  | .counter n s b => 1 ≤ n ∧ n ≤ 64 ∧ 1 ≤ s ∧ s ≤ n ∧ b < n ∧ Nat.gcd n s = 1
  | .turned w b => 1 ≤ w ∧ w ≤ 6 ∧ b < 2 ^ w
  | .register w t s => Reg w t s
  | .table ns => 1 ≤ ns.length ∧ ns.length ≤ 64 ∧ ∀ x ∈ ns, 0 ≤ x ∧ x ≤ 63
  | .slow k m => 1 ≤ k ∧ k ≤ 64 ∧ m.Ok
  | .slip k m => 1 ≤ k ∧ k ≤ 64 ∧ m.Ok
  | .late k m => k ≤ 64 ∧ m.Ok
/-- all rounds within are small -/
def Mk.Sm : Mk → Prop
  | .slow k m => k * m.round < 2 ^ 22 ∧ m.Sm
  | .slip k m => k * (m.round / Nat.gcd m.round (k + 1)) < 2 ^ 22 ∧ m.Sm
  | .late _ m => m.Sm
  | _ => True
theorem val_plain {m : Mk} (h : m.plain = true) (t : Int) : m.val t = m.base.getD (t % m.base.length).toNat 0 := by
  cases m <;> first | rfl | cases h
theorem base_len {m : Mk} (h : m.plain = true) : m.base.length = m.round := by
  cases m <;> first | (simp [Mk.base, Mk.round]; done) | cases h
theorem maxI_le : ∀ {ns : List Int} {x : Int}, x ∈ ns → x ≤ maxI ns
  | y :: ys, x, h => by
    unfold maxI
    rcases List.mem_cons.1 h with rfl | h
    · split <;> omega
    · have := maxI_le h
      split <;> omega
theorem maxI_mem : ∀ {ns : List Int}, ns ≠ [] → maxI ns ∈ ns ∨ (maxI ns = 0)
  | [], h => absurd rfl h
  | y :: ys, _ => by
    unfold maxI
    split
    · cases ys with
      | nil => right; rfl
      | cons z zs =>
        rcases maxI_mem (ns := z :: zs) (by simp) with h | h
        · left; exact List.mem_cons_of_mem _ h
        · right; exact h
    · left; exact List.mem_cons_self
theorem maxI_in {ns : List Int} (h : ns ≠ []) (h0 : ∀ x ∈ ns, 0 ≤ x) : maxI ns ∈ ns := by
  cases ns with
  | nil => exact absurd rfl h
  | cons y ys =>
    clear h
    induction ys generalizing y with
    | nil =>
      show (if maxI [] > y then maxI [] else y) ∈ [y]
      have := h0 y (by simp)
      rw [if_neg (by show ¬ (0 > y); omega)]
      simp
    | cons z zs ih =>
      show (if maxI (z :: zs) > y then maxI (z :: zs) else y) ∈ _
      split
      · exact List.mem_cons_of_mem _ (ih z fun x hx => h0 x (List.mem_cons_of_mem _ hx))
      · simp
theorem round_pos : ∀ {m : Mk}, m.Ok → 0 < m.round
  | .counter _ _ _, h => h.1
  | .turned _ _, _ => Nat.pow_pos (by decide)
  | .register _ _ _, h => (Reg.period h).2.1
  | .table _, h => h.1
  | .slow _ _, h => Nat.mul_pos h.1 (round_pos h.2.2)
  | .slip k m, h => by
    have r := round_pos h.2.2
    refine Nat.mul_pos h.1 (Nat.div_pos (Nat.le_of_dvd r (Nat.gcd_dvd_left _ _)) (Nat.gcd_pos_of_pos_left _ r))
  | .late _ m, h => round_pos (m := m) h.2
theorem round_plain : ∀ {m : Mk}, m.Ok → m.plain = true → m.round ≤ 64
  | .counter _ _ _, h, _ => h.2.1
  | .turned _ _, h, _ => Nat.le_trans (Nat.pow_le_pow_right (by decide) h.2.1) (by decide)
  | .register _ _ _, h, _ => by have := (Reg.period h).2.2.1; have := two_pow h; show period _ _ _ ≤ 64; omega
  | .table _, h, _ => h.2.1
theorem Sm.lt : ∀ {m : Mk}, m.Ok → m.Sm → m.round < 2 ^ 22
  | .counter _ _ _, h, _ => by have := h.2.1; show _ < 2 ^ 22; simp only [Mk.round]; omega
  | .turned w b, h, _ => by have := round_plain (m := .turned w b) h rfl; omega
  | .register w t s, h, _ => by have := round_plain (m := .register w t s) h rfl; omega
  | .table ns, h, _ => by have := round_plain (m := .table ns) h rfl; omega
  | .slow _ _, _, h => h.1
  | .slip _ _, _, h => h.1
  | .late _ m, h, h' => Sm.lt (m := m) h.2 h'
theorem mul_step {f : Int → Int} {r : Int} (h : ∀ t, f (t + r) = f t) (t : Int) : ∀ n : Nat, f (t + r * n) = f t
  | 0 => by rw [Int.natCast_zero, Int.mul_zero, Int.add_zero]
  | n + 1 => by
    have e : t + r * ((n + 1 : Nat) : Int) = t + r * n + r := by rw [Int.natCast_add, Int.mul_add]; simp; omega
    rw [e, h, mul_step h t n]
theorem slip_whole {r k : Nat} (h : 0 < r) : ∃ j, r / Nat.gcd r (k + 1) * (k + 1) = r * j := by
  obtain ⟨j, hj⟩ := Nat.gcd_dvd_right r (k + 1)
  refine ⟨j, ?_⟩
  have e : r / Nat.gcd r (k + 1) * Nat.gcd r (k + 1) = r := Nat.div_mul_cancel (Nat.gcd_dvd_left _ _)
  calc r / Nat.gcd r (k + 1) * (k + 1) = r / Nat.gcd r (k + 1) * (Nat.gcd r (k + 1) * j) := by rw [← hj]
    _ = r * j := by rw [← Nat.mul_assoc, e]
theorem val_add : ∀ {m : Mk}, m.Ok → ∀ t : Int, m.val (t + m.round) = m.val t
  | .slow k m, h, t => by
    show m.val ((t + ((k * m.round : Nat) : Int)) / k) = m.val (t / k)
    have hk : (k : Int) ≠ 0 := by have := h.1; omega
    rw [Int.natCast_mul, Int.add_mul_ediv_left _ _ hk, val_add h.2.2]
  | .slip k m, h, t => by
    have hk : (k : Int) ≠ 0 := by have := h.1; omega
    obtain ⟨j, hj⟩ := slip_whole (k := k) (round_pos h.2.2)
    show m.val (t + ((k * (m.round / Nat.gcd m.round (k + 1)) : Nat) : Int) + (t + ((k * (m.round / Nat.gcd m.round (k + 1)) : Nat) : Int)) / k) = m.val (t + t / k)
    generalize m.round / Nat.gcd m.round (k + 1) = q at *
    rw [Int.natCast_mul, Int.add_mul_ediv_left _ _ hk]
    have e : t + (k : Int) * q + (t / k + q) = t + t / k + (m.round : Int) * j := by
      have : ((q * (k + 1) : Nat) : Int) = ((m.round * j : Nat) : Int) := by rw [hj]
      rw [Int.natCast_mul, Int.natCast_mul, Int.natCast_add, Int.mul_add, Int.mul_comm (q : Int) k] at this
      simp at this
      omega
    rw [e, mul_step (val_add h.2.2)]
  | .late k m, h, t => by
    show m.val (t + m.round - k) = m.val (t - k)
    have e : t + (m.round : Int) - k = t - k + m.round := by omega
    rw [e, val_add h.2]
  | .counter n s b, h, t => by rw [val_plain rfl, val_plain rfl, base_len rfl, Int.add_emod_right]
  | .turned w b, h, t => by rw [val_plain rfl, val_plain rfl, base_len rfl, Int.add_emod_right]
  | .register w a s, h, t => by rw [val_plain rfl, val_plain rfl, base_len rfl, Int.add_emod_right]
  | .table ns, h, t => by rw [val_plain rfl, val_plain rfl, base_len rfl, Int.add_emod_right]
theorem val_mod {m : Mk} (h : m.Ok) (t : Int) : m.val (t % m.round) = m.val t := by
  have hr : (0 : Int) < m.round := by have := round_pos h; omega
  rcases Int.le_total 0 (t / m.round) with q | q
  · obtain ⟨n, hn⟩ := Int.eq_ofNat_of_zero_le q
    have e := mul_step (val_add h) (t % m.round) n
    have d := Int.emod_add_mul_ediv t m.round
    rw [hn] at d
    rw [d] at e
    exact e.symm
  · obtain ⟨n, hn⟩ := Int.eq_ofNat_of_zero_le (show 0 ≤ -(t / m.round) by omega)
    have e := mul_step (val_add h) t n
    have d := Int.emod_add_mul_ediv t m.round
    have e2 : t + (m.round : Int) * n = t % m.round := by
      rw [← hn, Int.mul_neg]; omega
    rw [e2] at e
    exact e
theorem rev_lt : ∀ (w n : Nat), rev w n < 2 ^ w
  | 0, _ => Nat.one_pos
  | w + 1, n => by
    unfold rev
    have := rev_lt w (n / 2)
    have h2 : n % 2 < 2 := Nat.mod_lt _ (by decide)
    rw [Nat.pow_succ]
    rcases (by omega : n % 2 = 0 ∨ n % 2 = 1) with e | e <;> rw [e] <;> omega
theorem base_range : ∀ {m : Mk}, m.Ok → ∀ x ∈ m.base, 0 ≤ x ∧ x < m.top
  | .counter n s b, h, x, hx => by
    obtain ⟨t, ht, rfl⟩ := List.mem_map.1 hx
    have h1 := h.1
    exact ⟨Int.emod_nonneg _ (by omega), Int.emod_lt_of_pos _ (by omega)⟩
  | .turned w b, h, x, hx => by
    obtain ⟨t, ht, rfl⟩ := List.mem_map.1 hx
    have := rev_lt w ((b + t) % 2 ^ w)
    refine ⟨by omega, ?_⟩
    show ((rev w ((b + t) % 2 ^ w) : Nat) : Int) < 2 ^ w
    exact_mod_cast this
  | .register w a s, h, x, hx => by
    obtain ⟨t, ht, rfl⟩ := List.mem_map.1 hx
    have := Reg.held_lt h t
    refine ⟨by omega, ?_⟩
    show ((held w a s t : Nat) : Int) < 2 ^ w
    exact_mod_cast this
  | .table ns, h, x, hx => by
    have := maxI_le (x := x) (ns := ns) hx
    exact ⟨(h.2.2 x hx).1, by show x < maxI ns + 1; omega⟩
  | .slow _ _, _, _, hx => by cases hx
  | .slip _ _, _, _, hx => by cases hx
  | .late _ _, _, _, hx => by cases hx
theorem val_base {m : Mk} (h : m.Ok) (hp : m.plain = true) (t : Int) : m.val t ∈ m.base := by
  have r : 0 < m.base.length := by rw [base_len hp]; exact round_pos h
  have a := Int.emod_nonneg t (show (m.base.length : Int) ≠ 0 by omega)
  have b := Int.emod_lt_of_pos t (show (0 : Int) < m.base.length by omega)
  have hl : (t % m.base.length).toNat < m.base.length := by omega
  rw [val_plain hp, List.getD_eq_getElem?_getD, List.getElem?_eq_getElem hl]
  exact List.getElem_mem hl
theorem val_range : ∀ {m : Mk}, m.Ok → ∀ t : Int, 0 ≤ m.val t ∧ m.val t < m.top
  | .slow _ m, h, t => val_range (m := m) h.2.2 _
  | .slip _ m, h, t => val_range (m := m) h.2.2 _
  | .late _ m, h, t => val_range (m := m) h.2 _
  | .counter n s b, h, t => base_range h _ (val_base h rfl t)
  | .turned w b, h, t => base_range h _ (val_base h rfl t)
  | .register w a s, h, t => base_range h _ (val_base h rfl t)
  | .table ns, h, t => base_range h _ (val_base h rfl t)
theorem top_range : ∀ {m : Mk}, m.Ok → 1 ≤ m.top ∧ m.top ≤ 64
  | .slow _ m, h => top_range (m := m) h.2.2
  | .slip _ m, h => top_range (m := m) h.2.2
  | .late _ m, h => top_range (m := m) h.2
  | .counter n s b, h => by have := h.1; have := h.2.1; show 1 ≤ (n : Int) ∧ (n : Int) ≤ 64; omega
  | .turned w b, h => by
    have h2 : 2 ^ w ≤ 64 := Nat.le_trans (Nat.pow_le_pow_right (by decide) h.2.1) (by decide)
    have h1 : 0 < 2 ^ w := Nat.pow_pos (by decide)
    show 1 ≤ (2 ^ w : Int) ∧ (2 ^ w : Int) ≤ 64
    exact ⟨by exact_mod_cast h1, by exact_mod_cast h2⟩
  | .register w a s, h => by
    have h2 := two_pow h
    have h1 : 0 < 2 ^ w := Nat.pow_pos (by decide)
    show 1 ≤ (2 ^ w : Int) ∧ (2 ^ w : Int) ≤ 64
    exact ⟨by exact_mod_cast h1, by exact_mod_cast h2⟩
  | .table ns, h => by
    have hne : ns ≠ [] := fun z => by have := h.1; rw [z] at this; simp at this
    have := h.2.2 _ (maxI_in hne fun x hx => (h.2.2 x hx).1)
    show 1 ≤ maxI ns + 1 ∧ maxI ns + 1 ≤ 64
    omega
end MK
end

section
set_option Elab.async false
set_option linter.all false
set_option maxRecDepth 100000
/-! ## makers -/
namespace DL
open PySem PySem.Spec PyProof.Rows L2 MK
def c_WRAPPERS : D := .tuple [.str "slow", .str "slip", .str "late"]
def b_power_of_two : DTS :=
  (sSeq (sSet 1 (eC (.int 1)))
  (sSeq (sFor (iR1 (aCons (eVar 0) aNil)) (gNm 2) (sAug 1 pMulI (eC (.int 2))))
  (sRet (eVar 1))))
def b_is_odd_together : DTS :=
  (sSeq (sSet 2 (eC (.bool false)))
  (sSeq (sWhile (tAn (tBl (eOp2 pGt (eVar 0) (eC (.int 0)))) (tBl (eOp2 pGt (eVar 1) (eC (.int 0))))) (sSeq (sIf (tAn (tBl (eOp2 pEq (eOp2 pMod (eVar 0) (eC (.int 2))) (eC (.int 1)))) (tBl (eOp2 pEq (eOp2 pMod (eVar 1) (eC (.int 2))) (eC (.int 1))))) (sSet 2 (eNot (eVar 2))) sNext)
  (sSeq (sAug 0 pDivS (eC (.int 2)))
  (sAug 1 pDivS (eC (.int 2))))))
  (sRet (eVar 2))))
def b_held_next (sp_is_odd_together : DSp) (sp_power_of_two : DSp) : DTS :=
  (sRet (eOp2 pAdd (eOp2 pMod (eOp2 pMul (eC (.int 2)) (eVar 2)) (eCallF 1 sp_power_of_two (cCons (eVar 0) cNil))) (eCall pInt (aCons (eCallF 2 sp_is_odd_together (cCons (eVar 2) (cCons (eVar 1) cNil))) aNil))))
def b_held_round (sp_held_next : DSp) : DTS :=
  (sSeq (sAsg (eVar 0) (gTp' 4 (gsCons (gNm 1) (gsCons (gNm 2) (gsCons (gNm 3) (gsCons (gNm 4) gsNil))))))
  (sSeq (sSetO 5 (oLst (aCons (eVar 4) aNil)))
  (sSeq (sSet 6 (eCallF 3 sp_held_next (cCons (eVar 2) (cCons (eVar 3) (cCons (eVar 4) cNil)))))
  (sSeq (sWhile (tBl (eOp2 pNe (eVar 6) (eVar 4))) (sSeq (sDrop (eMutL 5 pApp (aCons (eVar 6) aNil)))
  (sSet 6 (eCallF 3 sp_held_next (cCons (eVar 2) (cCons (eVar 3) (cCons (eVar 6) cNil)))))))
  (sRet (eVar 5))))))
def b_round_of (sp_common_divisor : DSp) (sp_held_round : DSp) (sp_power_of_two : DSp) (sp_round_of : DSp) : DTS :=
  (sSeq (sSet 1 (eIxV 0 (eC (.int 0))))
  (sSeq (sIf (tBl (eOp2 pEq (eVar 1) (eC (.str "counter")))) (sRet (eIxV 0 (eC (.int 1)))) sNext)
  (sSeq (sIf (tBl (eOp2 pEq (eVar 1) (eC (.str "turned")))) (sRet (eCallF 1 sp_power_of_two (cCons (eIxV 0 (eC (.int 1))) cNil))) sNext)
  (sSeq (sIf (tBl (eOp2 pEq (eVar 1) (eC (.str "register")))) (sRet (eCall pLen (aCons (eCallF 1 sp_held_round (cCons (eVar 0) cNil)) aNil))) sNext)
  (sSeq (sIf (tBl (eOp2 pEq (eVar 1) (eC (.str "table")))) (sRet (eCall pLen (aCons (eIxV 0 (eC (.int 1))) aNil))) sNext)
  (sSeq (sSet 2 (eCallF 1 sp_round_of (cCons (eIxV 0 (eC (.int 2))) cNil)))
  (sSeq (sIf (tBl (eOp2 pEq (eVar 1) (eC (.str "slow")))) (sRet (eOp2 pMul (eIxV 0 (eC (.int 1))) (eVar 2))) sNext)
  (sSeq (sIf (tBl (eOp2 pEq (eVar 1) (eC (.str "slip")))) (sRet (eOp2 pMul (eIxV 0 (eC (.int 1))) (eOp2 pDiv (eVar 2) (eCallF 2 sp_common_divisor (cCons (eVar 2) (cCons (eOp2 pAdd (eIxV 0 (eC (.int 1))) (eC (.int 1))) cNil)))))) sNext)
  (sRet (eVar 2))))))))))
def b_top_of (sp_power_of_two : DSp) (sp_top_of : DSp) : DTS :=
  (sSeq (sSet 1 (eIxV 0 (eC (.int 0))))
  (sSeq (sIf (tBl (eOp2 pEq (eVar 1) (eC (.str "counter")))) (sRet (eIxV 0 (eC (.int 1)))) sNext)
  (sSeq (sIf (tBl (eOp2 (pIn false) (eVar 1) (eTup (aCons (eC (.str "turned")) (aCons (eC (.str "register")) aNil))))) (sRet (eCallF 1 sp_power_of_two (cCons (eIxV 0 (eC (.int 1))) cNil))) sNext)
  (sSeq (sIf (tBl (eOp2 pEq (eVar 1) (eC (.str "table")))) (sRet (eOp2 pAdd (eCall pMaxT (aCons (eIxV 0 (eC (.int 1))) aNil)) (eC (.int 1)))) sNext)
  (sRet (eCallF 1 sp_top_of (cCons (eIxV 0 (eC (.int 2))) cNil)))))))
def b_bits_turned : DTS :=
  (sSeq (sSet 2 (eC (.int 0)))
  (sSeq (sFor (iR1 (aCons (eVar 1) aNil)) (gNm 3) (sSeq (sSet 2 (eOp2 pAdd (eOp2 pMul (eC (.int 2)) (eVar 2)) (eOp2 pMod (eVar 0) (eC (.int 2)))))
  (sAug 0 pDivS (eC (.int 2)))))
  (sRet (eVar 2))))
def b_plain_numbers (sp_bits_turned : DSp) (sp_held_round : DSp) (sp_power_of_two : DSp) : DTS :=
  (sSeq (sSet 1 (eIxV 0 (eC (.int 0))))
  (sSeq (sIf (tBl (eOp2 pEq (eVar 1) (eC (.str "counter")))) (sRet (eFrz (oComp true [3] (iR1 (aCons (eIxV 0 (eC (.int 1))) aNil)) tYesD (eOp2 pMod (eOp2 pAdd (eIxV 0 (eC (.int 3))) (eOp2 pMul (eIxV 0 (eC (.int 2))) (eVar 3))) (eIxV 0 (eC (.int 1))))))) sNext)
  (sSeq (sIf (tBl (eOp2 pEq (eVar 1) (eC (.str "turned")))) (sSeq (sSet 2 (eCallF 1 sp_power_of_two (cCons (eIxV 0 (eC (.int 1))) cNil)))
  (sRet (eFrz (oComp true [3] (iR1 (aCons (eVar 2) aNil)) tYesD (eCallF 2 sp_bits_turned (cCons (eOp2 pMod (eOp2 pAdd (eIxV 0 (eC (.int 2))) (eVar 3)) (eVar 2)) (cCons (eIxV 0 (eC (.int 1))) cNil))))))) sNext)
  (sSeq (sIf (tBl (eOp2 pEq (eVar 1) (eC (.str "register")))) (sRet (eCallF 1 sp_held_round (cCons (eVar 0) cNil))) sNext)
  (sRet (eFrz (oList (eIxV 0 (eC (.int 1))))))))))
def b_numbers_of (sp_numbers_of : DSp) (sp_plain_numbers : DSp) (sp_round_of : DSp) : DTS :=
  (sSeq (sSet 1 (eIxV 0 (eC (.int 0))))
  (sSeq (sIf (tBl (eOp2 (pIn true) (eVar 1) (eC c_WRAPPERS))) (sRet (eCallF 1 sp_plain_numbers (cCons (eVar 0) cNil))) sNext)
  (sSeq (sSet 2 (eCallF 1 sp_numbers_of (cCons (eIxV 0 (eC (.int 2))) cNil)))
  (sSeq (sSet 3 (eLenV 2))
  (sSeq (sSet 4 (eFrz (oRg1 (eCallF 1 sp_round_of (cCons (eVar 0) cNil)))))
  (sSeq (sIf (tBl (eOp2 pEq (eVar 1) (eC (.str "slow")))) (sRet (eFrz (oComp true [5] (iAny (eVar 4)) tYesD (eIxV 2 (eOp2 pDiv (eVar 5) (eIxV 0 (eC (.int 1)))))))) sNext)
  (sSeq (sIf (tBl (eOp2 pEq (eVar 1) (eC (.str "slip")))) (sRet (eFrz (oComp true [5] (iAny (eVar 4)) tYesD (eIxV 2 (eOp2 pMod (eOp2 pAdd (eVar 5) (eOp2 pDiv (eVar 5) (eIxV 0 (eC (.int 1))))) (eVar 3)))))) sNext)
  (sRet (eFrz (oComp true [5] (iAny (eVar 4)) tYesD (eIxV 2 (eOp2 pMod (eOp2 pSub (eVar 5) (eIxV 0 (eC (.int 1)))) (eVar 3)))))))))))))
def b_value_at (sp_plain_numbers : DSp) (sp_round_of : DSp) (sp_value_at : DSp) : DTS :=
  (sSeq (sSet 2 (eIxV 0 (eC (.int 0))))
  (sSeq (sIf (tBl (eOp2 pEq (eVar 2) (eC (.str "slow")))) (sRet (eCallF 2 sp_value_at (cCons (eIxV 0 (eC (.int 2))) (cCons (eOp2 pDiv (eVar 1) (eIxV 0 (eC (.int 1)))) cNil)))) sNext)
  (sSeq (sIf (tBl (eOp2 pEq (eVar 2) (eC (.str "slip")))) (sRet (eCallF 2 sp_value_at (cCons (eIxV 0 (eC (.int 2))) (cCons (eOp2 pAdd (eVar 1) (eOp2 pDiv (eVar 1) (eIxV 0 (eC (.int 1))))) cNil)))) sNext)
  (sSeq (sIf (tBl (eOp2 pEq (eVar 2) (eC (.str "late")))) (sRet (eCallF 2 sp_value_at (cCons (eIxV 0 (eC (.int 2))) (cCons (eOp2 pMod (eOp2 pSub (eVar 1) (eIxV 0 (eC (.int 1)))) (eCallF 1 sp_round_of (cCons (eVar 0) cNil))) cNil)))) sNext)
  (sSeq (sSet 3 (eCallF 1 sp_plain_numbers (cCons (eVar 0) cNil)))
  (sRet (eIxV 3 (eOp2 pMod (eVar 1) (eLenV 3)))))))))
def b_values_of (sp_numbers_of : DSp) : DTS :=
  (sSeq (sSet 2 (eCallF 1 sp_numbers_of (cCons (eVar 0) cNil)))
  (sRetO (oComp true [3] (iR1 (aCons (eVar 1) aNil)) tYesD (eIxV 2 (eOp2 pMod (eVar 3) (eLenV 2))))))
def b_share_of (sp_fraction : DSp) (sp_ones : DSp) : DTS :=
  (sRet (eCallF 2 sp_fraction (cCons (eCallF 1 sp_ones (cCons (eVar 0) cNil)) (cCons (eLenV 0) cNil))))
def b_row_of (sp_values_of : DSp) : DTS :=
  (sRet (eCall pTup (aCons (eFrz (oComp true [3] (iAny (eCallF 2 sp_values_of (cCons (eVar 0) (cCons (eVar 2) cNil)))) tYesD (eCall pInt (aCons (eOp2 pLt (eVar 3) (eVar 1)) aNil)))) aNil)))
def b_share_told (sp_round_of : DSp) (sp_row_of : DSp) (sp_share_of : DSp) : DTS :=
  (sRet (eCallF 1 sp_share_of (cCons (eCallF 3 sp_row_of (cCons (eVar 0) (cCons (eVar 1) (cCons (eCallF 1 sp_round_of (cCons (eVar 0) cNil)) cNil)))) cNil)))
theorem bT {b : Bool} {A B : Prop} (h : b = true) (h1 : A) : if b = true then A else B := by rw [if_pos h]; exact h1
theorem bF {b : Bool} {A B : Prop} (h : b = false) (h1 : B) : if b = true then A else B := by rw [if_neg (by rw [h]; exact Bool.false_ne_true)]; exact h1
def mD : Mk → D
  | .counter n s b => .tuple [.str "counter", .int (n : Nat), .int (s : Nat), .int (b : Nat)]
  | .turned w b => .tuple [.str "turned", .int (w : Nat), .int (b : Nat)]
  | .register w t b => .tuple [.str "register", .int (w : Nat), .int (t : Nat), .int (b : Nat)]
  | .table ns => .tuple [.str "table", .tuple (ns.map PyData.int)]
  | .slow k m => .tuple [.str "slow", .int (k : Nat), mD m]
  | .slip k m => .tuple [.str "slip", .int (k : Nat), mD m]
  | .late k m => .tuple [.str "late", .int (k : Nat), mD m]
def sp_power_of_two : DSp := fun cs post => ∃ w : Nat, cs = [.sh (.int (w : Nat))] ∧ w ≤ 64 ∧ post (.sh (.int (2 ^ w : Nat))) []
theorem p_power_of_two (cs post) (h : sp_power_of_two cs post) : runD 3 b_power_of_two cs post := by
  obtain ⟨w, rfl, hw, q⟩ := h
  refine ⟨by omega, by omega, ?_⟩
  rw [Int.toNat_natCast]
  refine rng_on 0 w [1, 2] _ (fun i cs => ∃ c, cs = [some (.sh (.int (2 ^ i : Nat))), c]) ?_ ?_ ⟨_, rfl⟩
  · rintro i hi cs N ⟨c, rfl⟩ hN
    have h2 : 2 ^ i < 2 ^ 64 := Nat.pow_lt_pow_right (by decide) (by omega)
    refine ⟨.inr ⟨by decide, by decide⟩, ?_⟩
    have e : ((2 ^ i : Nat) : Int) * 2 = ((2 ^ (i + 1) : Nat) : Int) := by rw [Nat.pow_succ]; omega
    exact hN [_, _] ⟨_, by rw [← e]⟩
  · rintro cs ⟨c, rfl⟩
    exact q
/-! ### registers -/
theorem two_pos : (0 : Int) < 2 := by decide
theorem odds_zero' : ∀ (w a : Nat), odds w a 0 = 0
  | 0, _ => rfl
  | w + 1, a => by unfold odds; simp [odds_zero' w]
def sp_is_odd_together : DSp := fun cs post => ∃ w a b : Nat, cs = [.sh (.int (a : Nat)), .sh (.int (b : Nat))] ∧ a < 2 ^ w ∧ b < 2 ^ w ∧ post (.sh (.bool (decide (odds w a b % 2 = 1)))) []
theorem p_is_odd_together (cs post) (h : sp_is_odd_together cs post) : runD 3 b_is_odd_together cs post := by
  obtain ⟨w, a, b, rfl, ha, hb, q⟩ := h
  refine ⟨fun m r => ∃ (c d : Nat) (o : Bool), r = [some (.sh (.int (c : Nat))), some (.sh (.int (d : Nat))), some (.sh (.bool o))] ∧ c < 2 ^ m ∧ d < 2 ^ m ∧ (o.toNat + odds m c d) % 2 = odds w a b % 2, ⟨w, a, b, false, rfl, ha, hb, by simp⟩, ?_⟩
  rintro m r ⟨c, d, o, rfl, hc, hd, ho⟩
  have stop : (c = 0 ∨ d = 0) → post (.sh (.bool o)) [] := fun z => by
    have e : odds m c d = 0 := by
      rcases z with rfl | rfl
      · exact odds_zero m d
      · exact odds_zero' m c
    rw [e] at ho
    have e2 : o = decide (odds w a b % 2 = 1) := by
      cases o
      · have : odds w a b % 2 = 0 := by rw [← ho]; rfl
        rw [this]; rfl
      · have : odds w a b % 2 = 1 := by rw [← ho]; rfl
        rw [this]; rfl
    rw [e2]
    exact q
  refine ifD (fun h => ?_) (fun h => ?_)
  · refine ifD (fun h2 => ?_) (fun h2 => ?_)
    · cases m with
      | zero => simp at hc; omega
      | succ m =>
        have hc2 : c / 2 < 2 ^ m := by rw [Nat.pow_succ] at hc; omega
        have hd2 : d / 2 < 2 ^ m := by rw [Nat.pow_succ] at hd; omega
        have eo : odds (m + 1) c d = (c % 2) * (d % 2) + odds m (c / 2) (d / 2) := rfl
        rw [eo] at ho
        have go : ∀ o' : Bool, (o'.toNat + odds m (c / 2) (d / 2)) % 2 = odds w a b % 2 → ∃ m', m' < m + 1 ∧ ∃ (c' d' : Nat) (o'' : Bool), [some (Cell.sh (.int ((c : Int) / 2))), some (.sh (.int ((d : Int) / 2))), some (.sh (.bool o'))] = [some (Cell.sh (.int (c' : Nat))), some (.sh (.int (d' : Nat))), some (.sh (.bool o''))] ∧ c' < 2 ^ m' ∧ d' < 2 ^ m' ∧ (o''.toNat + odds m' c' d') % 2 = odds w a b % 2 := fun o' h => ⟨m, by omega, c / 2, d / 2, o', rfl, hc2, hd2, h⟩
        refine ⟨two_pos, ?_⟩
        refine ifD (fun h3 => ?_) (fun h3 => ?_)
        · refine ⟨two_pos, ?_⟩
          refine ifD (fun h4 => ?_) (fun h4 => ?_)
          · refine ⟨⟨by decide, by decide⟩, ⟨by decide, by decide⟩, ?_⟩
            have e3 : c % 2 = 1 := by omega
            have e4 : d % 2 = 1 := by omega
            rw [e3, e4] at ho
            exact go (!o) (by cases o <;> simp at ho ⊢ <;> omega)
          · refine ⟨⟨by decide, by decide⟩, ⟨by decide, by decide⟩, ?_⟩
            have e4 : d % 2 = 0 := by omega
            rw [e4] at ho
            exact go o (by simpa using ho)
        · refine ⟨⟨by decide, by decide⟩, ⟨by decide, by decide⟩, ?_⟩
          have e3 : c % 2 = 0 := by omega
          rw [e3] at ho
          exact go o (by simpa using ho)
    · exact stop (.inr (by omega))
  · exact stop (.inl (by omega))
def sp_held_next : DSp := fun cs post => ∃ w t h : Nat, cs = [.sh (.int (w : Nat)), .sh (.int (t : Nat)), .sh (.int (h : Nat))] ∧ w ≤ 6 ∧ t < 2 ^ w ∧ h < 2 ^ w ∧ post (.sh (.int (next w t h : Nat))) []
theorem p_held_next (cs post) (h : sp_held_next cs post) : runD 3 (b_held_next sp_is_odd_together sp_power_of_two) cs post := by
  obtain ⟨w, t, h, rfl, hw, ht, hh, q⟩ := h
  have hp : 0 < 2 ^ w := Nat.pow_pos (by decide)
  refine ⟨MulOk.left (by decide), rfl, .nil, w, rfl, by omega, by omega, rfl, .nil, w, h, t, rfl, hh, ht, ?_⟩
  have e : 2 * (h : Int) % ((2 ^ w : Nat) : Int) + (if decide (odds w h t % 2 = 1) = true then (1 : Int) else 0) = ((next w t h : Nat) : Int) := by
    unfold next
    rw [Int.natCast_add, Int.natCast_emod, Int.natCast_mul]
    congr 1
    rcases (by omega : odds w h t % 2 = 0 ∨ odds w h t % 2 = 1) with z | z <;> rw [z] <;> rfl
  have q' := q
  rw [← e] at q'
  exact q'
def sp_held_round : DSp := fun cs post => ∃ w t s : Nat, cs = [.sh (mD (.register w t s))] ∧ Reg w t s ∧ post (.sh (.list ((Mk.base (.register w t s)).map PyData.int))) []
theorem p_held_round (cs post) (h : sp_held_round cs post) : runD 7 (b_held_round sp_held_next) cs post := by
  obtain ⟨w, t, s, rfl, R, q⟩ := h
  have hbig := line_big
  have P := R.period
  have h64 := two_pow R
  refine ⟨rfl, sz1, rfl, .nil, w, t, s, rfl, R.w2, R.t2, R.s2, ?_⟩
  refine ⟨fun m r => ∃ n : Nat, m = period w t s - n ∧ n + 1 ≤ period w t s ∧ r = [some (.sh (mD (.register w t s))), some (.sh (.str "register")), some (.sh (.int (w : Nat))), some (.sh (.int (t : Nat))), some (.sh (.int (s : Nat))), some (.own (.lst (((List.range (n + 1)).map fun n => ((held w t s n : Nat) : Int)).map PyData.int))), some (.sh (.int (held w t s (n + 1) : Nat)))], ⟨_, 0, rfl, P.2.1, rfl⟩, ?_⟩
  rintro m r ⟨n, rfl, hn, rfl⟩
  refine ifN (fun hne => ?_) (fun he => ?_)
  · have hlt : n + 1 < period w t s := by
      rcases Nat.lt_or_ge (n + 1) (period w t s) with z | z
      · exact z
      · exfalso
        have : n + 1 = period w t s := by omega
        exact hne (by rw [this, P.1])
    refine ⟨rfl, rfl, ?_, ?_⟩
    · rw [List.length_map, List.length_map, List.length_range]; omega
    · refine ⟨rfl, .nil, w, t, held w t s (n + 1), rfl, R.w2, R.t2, R.held_lt _, ?_⟩
      refine ⟨period w t s - (n + 1), by omega, n + 1, rfl, by omega, ?_⟩
      rw [List.range_succ (n := n + 1), List.map_append, List.map_append]
      rfl
  · have e : n + 1 = period w t s := by
      rcases Nat.lt_or_ge (n + 1) (period w t s) with z | z
      · exact absurd (show held w t s (n + 1) = s by omega) (P.2.2.2 (n + 1) (by omega) z)
      · omega
    rw [e]
    exact q
/-! ### rounds, tops -/
def sp_round_of : Nat → DSp
  | 0 => fun _ _ => False
  | k + 1 => fun cs post => ∃ m : Mk, cs = [.sh (mD m)] ∧ m.Ok ∧ m.wraps ≤ k ∧ post (.sh (.int (m.round : Nat))) []
theorem sp_round_of_none (cs post) (h : sp_round_of 0 cs post) : False := h
theorem p_round_of (k : Nat) (cs post) (h : sp_round_of (k + 1) cs post) : runD 3 (b_round_of sp_common_divisor sp_held_round sp_power_of_two (sp_round_of k)) cs post := by
  obtain ⟨m, rfl, ok, hw, q⟩ := h
  cases m with
  | counter n s b => exact q
  | turned w b =>
    refine (⟨rfl, .nil, w, rfl, ?_, q⟩)
    have := ok.2.1; omega
  | register w t s =>
    refine ((⟨rfl, .nil, w, t, s, rfl, ok, ?_⟩))
    have e : (((Mk.base (.register w t s)).map PyData.int).length : Int) = ((Mk.round (.register w t s) : Nat) : Int) := by rw [List.length_map, base_len rfl]
    have q' := q
    rw [← e] at q'
    exact q'
  | table ns =>
    refine (((?_)))
    have e : ((ns.map PyData.int).length : Int) = ((Mk.round (.table ns) : Nat) : Int) := by rw [List.length_map]; rfl
    have q' := q
    rw [← e] at q'
    exact q'
  | slow j m =>
    cases k with
    | zero => exact absurd hw (Nat.not_succ_le_zero _)
    | succ k =>
      refine (((⟨rfl, .nil, m, rfl, ok.2.2, Nat.le_of_succ_le_succ hw, ⟨MulOk.left ?_, ?_⟩⟩)))
      · have := ok.2.1; omega
      · have e : (j : Int) * ((m.round : Nat) : Int) = ((Mk.round (.slow j m) : Nat) : Int) := (Int.natCast_mul _ _).symm
        have q' := q
        rw [← e] at q'
        exact q'
  | slip j m =>
    cases k with
    | zero => exact absurd hw (Nat.not_succ_le_zero _)
    | succ k =>
      have r := round_pos ok.2.2
      have g1 : 0 < Nat.gcd m.round (j + 1) := Nat.gcd_pos_of_pos_left _ r
      have g2 : Nat.gcd m.round (j + 1) ≤ j + 1 := Nat.le_of_dvd (by omega) (Nat.gcd_dvd_right _ _)
      have j1 := ok.2.1
      have eg : Int.gcd ((m.round : Nat) : Int) ((j : Int) + 1) = Nat.gcd m.round (j + 1) := by
        rw [show ((j : Int) + 1) = ((j + 1 : Nat) : Int) by omega]; rfl
      refine (((⟨rfl, .nil, m, rfl, ok.2.2, Nat.le_of_succ_le_succ hw, (⟨rfl, .nil, _, _, rfl, DivOk.small ?_ ?_, MulOk.left ?_, ?_⟩)⟩)))
      · rw [eg]; omega
      · rw [eg]; omega
      · omega
      · have e : (j : Int) * (((m.round : Nat) : Int) / ((Int.gcd ((m.round : Nat) : Int) ((j : Int) + 1) : Nat) : Int)) = ((Mk.round (.slip j m) : Nat) : Int) := by
          rw [eg, ← Int.natCast_ediv, ← Int.natCast_mul]; rfl
        have q' := q
        rw [← e] at q'
        exact q'
  | late j m =>
    cases k with
    | zero => exact absurd hw (Nat.not_succ_le_zero _)
    | succ k =>
      exact (((⟨rfl, .nil, m, rfl, ok.2, Nat.le_of_succ_le_succ hw, (q)⟩)))
def sp_top_of : Nat → DSp
  | 0 => fun _ _ => False
  | k + 1 => fun cs post => ∃ m : Mk, cs = [.sh (mD m)] ∧ m.Ok ∧ m.wraps ≤ k ∧ post (.sh (.int m.top)) []
theorem sp_top_of_none (cs post) (h : sp_top_of 0 cs post) : False := h
theorem p_top_of (k : Nat) (cs post) (h : sp_top_of (k + 1) cs post) : runD 2 (b_top_of sp_power_of_two (sp_top_of k)) cs post := by
  obtain ⟨m, rfl, ok, hw, q⟩ := h
  have e2 : ∀ w : Nat, ((2 ^ w : Nat) : Int) = 2 ^ w := fun w => by rw [Int.natCast_pow]; rfl
  cases m with
  | counter n s b => exact q
  | turned w b =>
    refine ⟨sz2, rfl, rfl, ⟨rfl, .nil, w, rfl, ?_, ?_⟩⟩
    · have := ok.2.1; omega
    · rw [e2]; exact q
  | register w t s =>
    refine ⟨sz2, rfl, rfl, ⟨rfl, .nil, w, rfl, ?_, ?_⟩⟩
    · have := Reg.w2 ok; omega
    · rw [e2]; exact q
  | table ns =>
    refine ⟨sz2, rfl, rfl, (⟨ns, rfl, ok.1, fun m hm hmax => ?_⟩)⟩
    have hne : ns ≠ [] := fun z => by have := ok.1; rw [z] at this; simp at this
    have e : m = maxI ns := by
      have h1 := hmax _ (maxI_in hne fun x hx => (ok.2.2 x hx).1)
      have h2 := maxI_le hm
      omega
    rw [e]
    exact q
  | slow j m =>
    cases k with
    | zero => exact absurd hw (Nat.not_succ_le_zero _)
    | succ k => exact ⟨sz2, rfl, rfl, (⟨rfl, .nil, m, rfl, ok.2.2, Nat.le_of_succ_le_succ hw, q⟩)⟩
  | slip j m =>
    cases k with
    | zero => exact absurd hw (Nat.not_succ_le_zero _)
    | succ k => exact ⟨sz2, rfl, rfl, (⟨rfl, .nil, m, rfl, ok.2.2, Nat.le_of_succ_le_succ hw, q⟩)⟩
  | late j m =>
    cases k with
    | zero => exact absurd hw (Nat.not_succ_le_zero _)
    | succ k => exact ⟨sz2, rfl, rfl, (⟨rfl, .nil, m, rfl, ok.2, Nat.le_of_succ_le_succ hw, q⟩)⟩
end DL
end

section
set_option Elab.async false
set_option linter.all false
set_option maxRecDepth 100000
/-! ## a law's outer part: cells folded, a box for each -/
namespace DL
open PySem PySem.Spec PyProof.Rows L2
abbrev lawSt (ns es : List Int) (k : Int) (c : Option Cell) (cs : List (Option Cell)) : DSt := some (.sh (scrD ns)) :: some (.sh (.list (es.map PyData.int))) :: some (.sh (.int k)) :: c :: cs
theorem nrm_in {r : DSt} {k : DSt → Prop} (h : k r) : nrm r k := by rw [nrm_eq]; exact h
theorem outer (L : Nat) {c : Int} (h0 : 0 < c) (h1 : c < 63) {rest : DTS}
    (hrest : ∀ (ns es : List Int) (k : Int) (m : M) (cs : List (Option Cell)) (E : DEnds), cs.length = L → 0 ≤ k → k < 63 → Box 0 m →
      (∀ c' cs', cs'.length = L → E.nx (lawSt ns es k c' cs')) → rest E (lawSt ns es k (some (.own m)) cs))
    (cs post) (h : spLaw cs post) : runD (L + 4) (sSeq (sSet 1 (eCallF 2 sp_fold (cCons (eVar 0) (cCons (eC (.int c)) cNil))))
      (sSeq (sFor (iR1 (aCons (eCall pMax2 (aCons (eC (.int 2)) (aCons (eLenV 1) aNil))) aNil)) (gNm 2) (sSeq (sSetO 3 (oCallF 2 sp_box (cCons (eVar 1) (cCons (eVar 2) cNil)))) rest))
      (sRet (eC (.bool true))))) cs post := by
  obtain ⟨ns, rfl, hl, hb, q⟩ := h
  refine nrm_in ?_
  have hN : startD (L + 4) [.sh (scrD ns)] = some (.sh (scrD ns)) :: none :: none :: none :: List.replicate L none := by
    show [some (Cell.sh (scrD ns))] ++ List.replicate (L + 3) none = _
    rfl
  rw [hN]
  refine ⟨rfl, .nil, ns, c, rfl, h0, h1, hl, fun es hes => nrm_in (nrm_in ?_)⟩
  have hm : 0 ≤ (if ((es.map PyData.int).length : Int) > 2 then ((es.map PyData.int).length : Int) else 2) ∧ (if ((es.map PyData.int).length : Int) > 2 then ((es.map PyData.int).length : Int) else 2) < 63 := by rw [List.length_map]; split <;> omega
  refine ⟨by omega, by omega, ?_⟩
  refine loop_inv (fun t r => (∀ d ∈ t, ∃ k : Int, d = .int k ∧ 0 ≤ k ∧ k < 63) ∧ ∃ c2 c3 cs, cs.length = L ∧ r = some (.sh (scrD ns)) :: some (.sh (.list (es.map PyData.int))) :: c2 :: c3 :: cs) ?_ ?_ _ _ ?_
  · rintro d t r N ⟨hd, c2, c3, cs, hcs, rfl⟩ hN
    obtain ⟨k, rfl, hk0, hk⟩ := hd _ List.mem_cons_self
    refine nrm_in ⟨rfl, .nil, es, k, rfl, hk0, by omega, fun m bm => nrm_in (nrm_in ?_)⟩
    exact hrest ns es k m cs _ hcs hk0 hk bm fun c' cs' h' => hN _ ⟨fun d h => hd d (List.mem_cons_of_mem _ h), _, _, _, h', rfl⟩
  · rintro r ⟨_, c2, c3, cs, hcs, rfl⟩
    exact q
  · refine ⟨fun d h => ?_, none, none, _, List.length_replicate, rfl⟩
    obtain ⟨k, e, h1, h2⟩ := rng_mem _ _ _ h
    exact ⟨k, e, h1, by omega⟩
/-- draws from the box in slot j -/
theorem comp_draw {js : List Nat} {te : DTE} {Q : List D → DSt → Prop} {ds : List D} {r : DSt} (j : Nat) (B : Int) (P : D → Prop) (m : M) (hb : Box B m) (hn : ds.length = ds.length)
    (step : ∀ d ∈ ds, ∀ (n : Int) (m : M) (q : D → DSt → Prop), B ≤ n → n < B + ds.length → Box n m → (∀ v m', P v → Box (n + 1) m' → ∀ r', wipeD r' js = putM r j m' → q v r') → tgD true js d (putM r j m) fun r1 => te r1 q)
    (fin : ∀ (vs : List D) (m' : M), vs.length = ds.length → (∀ v ∈ vs, P v) → Box (B + ds.length) m' → Q vs (putM r j m')) (e : putM r j m = r := by rfl) : compD true js tYesD te ds [] r Q := by
  have := comp_takes (js := js) (te := te) (Q := Q) ds B P (putM r j) m hb step fin
  rw [e] at this
  exact this
/-- what follows a statement, told once: by the slots that it changes -/
theorem seq_on {a R : DTS} {E : DEnds} {r : DSt} (js : List Nat) (I : List (Option Cell) → Prop) (h1 : ∀ N : DSt → Prop, (∀ cs, I cs → N (putsC js cs r)) → a { E with nx := N } r) (h2 : ∀ cs, I cs → R E (putsC js cs r)) : sSeq a R E r :=
  h1 _ fun cs h => h2 cs h
theorem eqv_ints : ∀ (xs ys : List Int), PyData.eqvAll (xs.map PyData.int) (ys.map PyData.int) = decide (xs = ys)
  | [], [] => rfl
  | [], y :: ys => by simp [PyData.eqvAll]
  | x :: xs, [] => by simp [PyData.eqvAll]
  | x :: xs, y :: ys => by
    show (x == y && PyData.eqvAll (xs.map PyData.int) (ys.map PyData.int)) = _
    rw [eqv_ints xs ys]
    by_cases h : x = y <;> by_cases h2 : xs = ys <;> simp [h, h2]
theorem eqv_list (xs ys : List Int) : PyData.eqv (.list (xs.map PyData.int)) (.list (ys.map PyData.int)) = decide (xs = ys) := eqv_ints xs ys
theorem eqv_tup (xs ys : List Int) : PyData.eqv (.tuple (xs.map PyData.int)) (.tuple (ys.map PyData.int)) = decide (xs = ys) := eqv_ints xs ys
theorem shaped_list (xs : List Int) : SeqAt.shaped (.list (xs.map PyData.int)) = true := by
  unfold SeqAt.shaped
  have h1 : (PyData.list (xs.map PyData.int)).canLay0 = true := canAll (fun x h => by obtain ⟨i, _, rfl⟩ := List.mem_map.1 h; rfl)
  have h2 : (PyData.list (xs.map PyData.int)).depth = 1 := by
    show PyData.depthAll _ + 1 = 1
    rw [depth_ints]
  rw [h1, h2]; rfl
theorem shaped_tup (xs : List Int) : SeqAt.shaped (.tuple (xs.map PyData.int)) = true := by
  unfold SeqAt.shaped
  have h1 : (PyData.tuple (xs.map PyData.int)).canLay0 = true := canAll (fun x h => by obtain ⟨i, _, rfl⟩ := List.mem_map.1 h; rfl)
  have h2 : (PyData.tuple (xs.map PyData.int)).depth = 1 := by
    show PyData.depthAll _ + 1 = 1
    rw [depth_ints]
  rw [h1, h2]; rfl
theorem cut_from {α : Type} (xs : List α) (k : Int) (h : 0 ≤ k) : cutD xs (some k) none = xs.drop k.toNat := by
  show (xs.drop (if k < 0 then (k + (xs.length : Int)).toNat else min k.toNat xs.length)).take (xs.length - (if k < 0 then (k + (xs.length : Int)).toNat else min k.toNat xs.length)) = _
  rw [if_neg (by omega)]
  by_cases h2 : k.toNat ≤ xs.length
  · rw [Nat.min_eq_left h2, List.take_of_length_le (by rw [List.length_drop]; omega)]
  · rw [Nat.min_eq_right (by omega), List.drop_eq_nil_of_le (Nat.le_refl _), List.drop_eq_nil_of_le (by omega)]; simp
/-- item by item, one slot j left as it may be -/
theorem comp_rng1 {js : List Nat} {te : DTE} {Q : List D → DSt → Prop} (n : Nat) (j : Nat) (r : DSt) (f : Nat → D)
    (step : ∀ i < n, ∀ (c : Option Cell) (q : D → DSt → Prop), (∀ r' c', wipeD r' js = dput r j c' → q (f i) r') → tgD true js (.int (i : Nat)) (dput r j c) fun r1 => te r1 q)
    (fin : ∀ c, Q ((List.range n).map f) (dput r j c)) (e : dput r j (dat r j) = r := by rfl) : compD true js tYesD te (rngD 0 n) [] r Q := by
  refine rng_comp 0 n (fun i acc r' => acc = (List.range i).map f ∧ ∃ c, r' = dput r j c) ?_ ?_ r ⟨rfl, _, e.symm⟩
  · rintro i hi acc r' N ⟨rfl, c, rfl⟩ hN
    show tgD true js (.int (0 + (i : Int))) (dput r j c) fun r1 => te r1 fun y r3 => N ((List.range i).map f ++ [y]) r3
    rw [Int.zero_add]
    refine step i hi c _ fun r2 c' e => hN _ _ ⟨?_, c', e⟩
    rw [List.range_succ, List.map_append]
    rfl
  · rintro acc r' ⟨rfl, c, rfl⟩
    exact fin c
theorem comp_mapA1 {α : Type} {one : Bool} {js : List Nat} {te : DTE} {Q : List D → DSt → Prop} (xs : List α) (g : α → D) (j : Nat) (r : DSt) (f : α → D)
    (step : ∀ x ∈ xs, ∀ (c : Option Cell) (q : D → DSt → Prop), (∀ r' c', wipeD r' js = dput r j c' → q (f x) r') → tgD one js (g x) (dput r j c) fun r1 => te r1 q)
    (fin : ∀ c, Q (xs.map f) (dput r j c)) (e : dput r j (dat r j) = r := by rfl) : compD one js tYesD te (xs.map g) [] r Q := by
  refine idx_comp (xs.map g) (fun i acc r' => acc = (xs.take i).map f ∧ ∃ c, r' = dput r j c) ?_ ?_ r ⟨rfl, _, e.symm⟩
  · rintro i hi acc r' N ⟨rfl, c, rfl⟩ hN
    rw [List.length_map] at hi
    show tgD one js (xs.map g)[i] (dput r j c) fun r1 => te r1 fun y r3 => N ((xs.take i).map f ++ [y]) r3
    rw [List.getElem_map]
    refine step _ (List.getElem_mem hi) c _ fun r2 c' e => hN _ _ ⟨?_, c', e⟩
    rw [List.take_succ_eq_append_getElem hi, List.map_append]
    rfl
  · rintro acc r' ⟨rfl, c, rfl⟩
    rw [List.length_map, List.take_length]
    exact fin c
theorem while_on {tt : DTT} {tb : DTS} {E : DEnds} {r : DSt} (js : List Nat) (I : Nat → List (Option Cell) → Prop) (h : ∃ μ, I μ (js.map (dat r)))
    (step : ∀ μ cs, I μ cs → ∀ N : DSt → Prop, (∀ μ' cs', μ' < μ → I μ' cs' → N (putsC js cs' r)) → tt (putsC js cs r) fun b r' => if b = true then tb { E with nx := N, ct := N, bk := E.nx } r' else E.nx r')
    (e : putsC js (js.map (dat r)) r = r := by rfl) : sWhile tt tb E r := by
  obtain ⟨μ, h⟩ := h
  refine ⟨fun μ r' => ∃ cs, I μ cs ∧ r' = putsC js cs r, ⟨μ, _, h, e.symm⟩, ?_⟩
  rintro μ r' ⟨cs, hI, rfl⟩
  exact step μ cs hI _ fun μ' cs' h1 h2 => ⟨μ', h1, cs', h2, rfl⟩
/-- so many draws for each item -/
theorem comp_drawN {js : List Nat} {te : DTE} {Q : List D → DSt → Prop} {ds : List D} {r : DSt} (j : Nat) (B c : Int) (hc : 0 ≤ c) (P : D → Prop) (m : M) (hb : Box B m)
    (step : ∀ d ∈ ds, ∀ (n : Int) (m : M) (q : D → DSt → Prop), B ≤ n → n + c ≤ B + c * ds.length → Box n m → (∀ v m', P v → Box (n + c) m' → ∀ r', wipeD r' js = putM r j m' → q v r') → tgD true js d (putM r j m) fun r1 => te r1 q)
    (fin : ∀ (vs : List D) (m' : M), vs.length = ds.length → (∀ v ∈ vs, P v) → Box (B + c * ds.length) m' → Q vs (putM r j m')) (e : putM r j m = r := by rfl) : compD true js tYesD te ds [] r Q := by
  refine idx_comp ds (fun i acc r' => ∃ m', r' = putM r j m' ∧ Box (B + c * i) m' ∧ acc.length = i ∧ ∀ v ∈ acc, P v) ?_ ?_ r ⟨m, e.symm, by simpa using hb, rfl, fun v h => by cases h⟩
  · rintro i hi acc r' N ⟨m', rfl, hb', hl, hP⟩ hN
    show tgD true js ds[i] (putM r j m') fun r1 => te r1 fun y r3 => N (acc ++ [y]) r3
    have h1 : c * (i : Int) + c ≤ c * ds.length := by
      have : c * ((i : Int) + 1) ≤ c * ds.length := Int.mul_le_mul_of_nonneg_left (by omega) hc
      rw [Int.mul_add, Int.mul_one] at this
      exact this
    have h0 : 0 ≤ c * (i : Int) := Int.mul_nonneg hc (by omega)
    refine step _ (List.getElem_mem hi) _ m' _ (by omega) (by omega) hb' fun v m2 hv hb2 r2 e => hN _ _ ⟨m2, e, ?_, by rw [List.length_append, hl]; rfl, fun x hx => ?_⟩
    · have e3 : B + c * ((i + 1 : Nat) : Int) = B + c * i + c := by rw [Int.natCast_add, Int.mul_add]; simp; omega
      rw [e3]; exact hb2
    · rcases List.mem_append.1 hx with h | h
      · exact hP x h
      · rcases List.mem_cons.1 h with rfl | h
        · exact hv
        · cases h
  · rintro acc r' ⟨m', rfl, hb', hl, hP⟩
    exact fin acc m' hl hP hb'
end DL
end

section
set_option Elab.async false
set_option linter.all false
set_option maxRecDepth 100000
set_option maxHeartbeats 1000000
/-! ## what is a maker -/
namespace DL
open PySem PySem.Spec PyProof.Rows L2 MK
def isNum : D → Bool
  | .int _ => true
  | _ => false
def isIn : D → Int → Int → Bool
  | .int i, lo, hi => decide (lo ≤ i) && decide (i ≤ hi)
  | _, _, _ => false
theorem isIn_iff {d : D} {lo hi : Int} : isIn d lo hi = true ↔ ∃ i, d = .int i ∧ lo ≤ i ∧ i ≤ hi := by
  cases d <;> simp [isIn]
/-- a yes or a no -/
def YN (p : Prop) (post : Cell → List M → Prop) : Prop := (p → post (.sh (.bool true)) []) ∧ (¬ p → post (.sh (.bool false)) [])
theorem YN.bool {p : Prop} {post : Cell → List M → Prop} (h : YN p post) {b : Bool} (e : b = true ↔ p) : post (.sh (.bool b)) [] := by
  cases b with
  | true => exact h.1 (e.1 rfl)
  | false => exact h.2 fun z => by have := e.2 z; cases this
def b_is_number : DTS := (sRet (eAnd (eIsi .int (eVar 0)) (eNot (eIsi .bool (eVar 0)))))
def b_is_between (sp_is_number : DSp) : DTS :=
  (sRet (eAnd (eCallF 1 sp_is_number (cCons (eVar 0) cNil)) (eChain pLe pLe (eVar 1) (eVar 0) (eVar 2))))
def b_is_counter (sp_common_divisor : DSp) (sp_is_between : DSp) : DTS :=
  (sSeq (sIf (tOr' (tBl (eOp2 pNe (eLenV 0) (eC (.int 4)))) (tOr' (tNt (tTru (eCallF 3 sp_is_between (cCons (eIxV 0 (eC (.int 1))) (cCons (eC (.int 1)) (cCons (eC (.int 64)) cNil)))))) (tNt (tTru (eCallF 3 sp_is_between (cCons (eIxV 0 (eC (.int 2))) (cCons (eC (.int 1)) (cCons (eIxV 0 (eC (.int 1))) cNil)))))))) (sRet (eC (.bool false))) sNext)
  (sRet (eAnd (eOp2 pEq (eCallF 2 sp_common_divisor (cCons (eIxV 0 (eC (.int 1))) (cCons (eIxV 0 (eC (.int 2))) cNil))) (eC (.int 1))) (eCallF 3 sp_is_between (cCons (eIxV 0 (eC (.int 3))) (cCons (eC (.int 0)) (cCons (eOp2 pSub (eIxV 0 (eC (.int 1))) (eC (.int 1))) cNil)))))))
def b_is_turned (sp_is_between : DSp) (sp_power_of_two : DSp) : DTS :=
  (sSeq (sIf (tOr' (tBl (eOp2 pNe (eLenV 0) (eC (.int 3)))) (tNt (tTru (eCallF 3 sp_is_between (cCons (eIxV 0 (eC (.int 1))) (cCons (eC (.int 1)) (cCons (eC (.int 6)) cNil))))))) (sRet (eC (.bool false))) sNext)
  (sRet (eCallF 3 sp_is_between (cCons (eIxV 0 (eC (.int 2))) (cCons (eC (.int 0)) (cCons (eOp2 pSub (eCallF 1 sp_power_of_two (cCons (eIxV 0 (eC (.int 1))) cNil)) (eC (.int 1))) cNil))))))
def b_is_register (sp_is_between : DSp) (sp_power_of_two : DSp) : DTS :=
  (sSeq (sIf (tOr' (tBl (eOp2 pNe (eLenV 0) (eC (.int 4)))) (tNt (tTru (eCallF 3 sp_is_between (cCons (eIxV 0 (eC (.int 1))) (cCons (eC (.int 2)) (cCons (eC (.int 6)) cNil))))))) (sRet (eC (.bool false))) sNext)
  (sSeq (sSet 1 (eCallF 1 sp_power_of_two (cCons (eIxV 0 (eC (.int 1))) cNil)))
  (sRet (eAnd (eCallF 3 sp_is_between (cCons (eIxV 0 (eC (.int 2))) (cCons (eOp2 pDiv (eVar 1) (eC (.int 2))) (cCons (eOp2 pSub (eVar 1) (eC (.int 1))) cNil)))) (eCallF 3 sp_is_between (cCons (eIxV 0 (eC (.int 3))) (cCons (eC (.int 1)) (cCons (eOp2 pSub (eVar 1) (eC (.int 1))) cNil))))))))
def b_is_table (sp_is_between : DSp) : DTS :=
  (sSeq (sIf (tOr' (tBl (eOp2 pNe (eLenV 0) (eC (.int 2)))) (tOr' (tNt (tTru (eIsi .tuple (eIxV 0 (eC (.int 1)))))) (tNt (tBl (eChain pLe pLe (eC (.int 1)) (eCall pLen (aCons (eIxV 0 (eC (.int 1))) aNil)) (eC (.int 64))))))) (sRet (eC (.bool false))) sNext)
  (sRet (eCall pAll (aCons (eFrz (oComp true [1] (iAny (eIxV 0 (eC (.int 1)))) tYesD (eCallF 3 sp_is_between (cCons (eVar 1) (cCons (eC (.int 0)) (cCons (eOp2 pSub (eC (.int 64)) (eC (.int 1))) cNil)))))) aNil))))
def b_is_wrapped (sp_is_between : DSp) (sp_is_counter : DSp) (sp_is_register : DSp) (sp_is_table : DSp) (sp_is_turned : DSp) (sp_is_wrapped : DSp) : DTS :=
  (sSeq (sIf (tOr' (tNt (tTru (eIsi .tuple (eVar 0)))) (tOr' (tBl (eOp2 pEq (eLenV 0) (eC (.int 0)))) (tNt (tTru (eIsi .str (eIxV 0 (eC (.int 0)))))))) (sRet (eC (.bool false))) sNext)
  (sSeq (sSet 2 (eIxV 0 (eC (.int 0))))
  (sSeq (sIf (tBl (eOp2 (pIn false) (eVar 2) (eC (.tuple [.str "slow", .str "slip", .str "late"])))) (sSeq (sSet 3 (eIf (tBl (eOp2 pEq (eVar 2) (eC (.str "late")))) (eC (.int 0)) (eC (.int 1))))
  (sSeq (sIf (tOr' (tBl (eOp2 pEq (eVar 1) (eC (.int 0)))) (tOr' (tBl (eOp2 pNe (eLenV 0) (eC (.int 3)))) (tNt (tTru (eCallF 3 sp_is_between (cCons (eIxV 0 (eC (.int 1))) (cCons (eVar 3) (cCons (eC (.int 64)) cNil)))))))) (sRet (eC (.bool false))) sNext)
  (sRet (eCallF 2 sp_is_wrapped (cCons (eIxV 0 (eC (.int 2))) (cCons (eOp2 pSub (eVar 1) (eC (.int 1))) cNil)))))) sNext)
  (sSeq (sIf (tBl (eOp2 pEq (eVar 2) (eC (.str "counter")))) (sRet (eCallF 1 sp_is_counter (cCons (eVar 0) cNil))) sNext)
  (sSeq (sIf (tBl (eOp2 pEq (eVar 2) (eC (.str "turned")))) (sRet (eCallF 1 sp_is_turned (cCons (eVar 0) cNil))) sNext)
  (sSeq (sIf (tBl (eOp2 pEq (eVar 2) (eC (.str "register")))) (sRet (eCallF 1 sp_is_register (cCons (eVar 0) cNil))) sNext)
  (sRet (eAnd (eOp2 pEq (eVar 2) (eC (.str "table"))) (eCallF 1 sp_is_table (cCons (eVar 0) cNil))))))))))
def b_is_maker (sp_is_wrapped : DSp) (sp_round_of : DSp) : DTS :=
  (sRet (eAnd (eCallF 2 sp_is_wrapped (cCons (eVar 0) (cCons (eC (.int 3)) cNil))) (eOp2 pLe (eCallF 1 sp_round_of (cCons (eVar 0) cNil)) (eC (.int 4096)))))
def sp_is_number : DSp := fun cs post => ∃ d : D, cs = [.sh d] ∧ notDict d = true ∧ post (.sh (.bool (isNum d))) []
theorem p_is_number (cs post) (h : sp_is_number cs post) : runD 1 b_is_number cs post := by
  obtain ⟨d, rfl, h, q⟩ := h
  cases d <;> first | exact ⟨rfl, q⟩ | exact ⟨rfl, rfl, q⟩ | cases h
def sp_is_between : DSp := fun cs post => ∃ (d : D) (lo hi : Int), cs = [.sh d, .sh (.int lo), .sh (.int hi)] ∧ notDict d = true ∧ post (.sh (.bool (isIn d lo hi))) []
theorem p_is_between (cs post) (h : sp_is_between cs post) : runD 3 (b_is_between sp_is_number) cs post := by
  obtain ⟨d, lo, hi, rfl, h, q⟩ := h
  refine ⟨rfl, .nil, d, rfl, h, ?_⟩
  cases d with
  | int i =>
    have q' : post (.sh (.bool (decide (lo ≤ i) && decide (i ≤ hi)))) [] := q
    refine ifD (fun h => ?_) (fun h => ?_)
    · rw [decide_eq_true h, Bool.true_and] at q'
      exact q'
    · rw [decide_eq_false h, Bool.false_and] at q'
      exact q'
  | _ => first | exact q | cases h
def PC (xs : List D) : Prop := ∃ n s b : Nat, xs = [.int (n : Nat), .int (s : Nat), .int (b : Nat)] ∧ (Mk.counter n s b).Ok
def PT (xs : List D) : Prop := ∃ w b : Nat, xs = [.int (w : Nat), .int (b : Nat)] ∧ (Mk.turned w b).Ok
def PR (xs : List D) : Prop := ∃ w t s : Nat, xs = [.int (w : Nat), .int (t : Nat), .int (s : Nat)] ∧ (Mk.register w t s).Ok
def PB (xs : List D) : Prop := ∃ ns : List Int, xs = [.tuple (ns.map PyData.int)] ∧ (Mk.table ns).Ok
def ndAll (xs : List D) : Prop := ∀ x ∈ xs, notDict x = true
theorem PC.iff {a b c : D} : PC [a, b, c] ↔ ∃ n s k : Int, a = .int n ∧ b = .int s ∧ c = .int k ∧ 1 ≤ n ∧ n ≤ 64 ∧ 1 ≤ s ∧ s ≤ n ∧ Int.gcd n s = 1 ∧ 0 ≤ k ∧ k ≤ n - 1 := by
  constructor
  · rintro ⟨n, s, k, e, h1, h2, h3, h4, h5, h6⟩
    cases e
    exact ⟨_, _, _, rfl, rfl, rfl, by omega, by omega, by omega, by omega, by rw [Int.gcd_natCast_natCast]; exact h6, by omega, by omega⟩
  · rintro ⟨n, s, k, rfl, rfl, rfl, h1, h2, h3, h4, h5, h6, h7⟩
    refine ⟨n.toNat, s.toNat, k.toNat, ?_, by omega, by omega, by omega, by omega, by omega, ?_⟩
    · rw [Int.toNat_of_nonneg (by omega), Int.toNat_of_nonneg (by omega), Int.toNat_of_nonneg (by omega)]
    · rw [← Int.gcd_natCast_natCast, Int.toNat_of_nonneg (by omega), Int.toNat_of_nonneg (by omega)]; exact h5
theorem PT.iff {a b : D} : PT [a, b] ↔ ∃ w k : Int, a = .int w ∧ b = .int k ∧ 1 ≤ w ∧ w ≤ 6 ∧ 0 ≤ k ∧ k ≤ ((2 ^ w.toNat : Nat) : Int) - 1 := by
  constructor
  · rintro ⟨w, k, e, h1, h2, h3⟩
    cases e
    exact ⟨_, _, rfl, rfl, by omega, by omega, by omega, by rw [Int.toNat_natCast]; omega⟩
  · rintro ⟨w, k, rfl, rfl, h1, h2, h3, h4⟩
    refine ⟨w.toNat, k.toNat, ?_, by omega, by omega, by omega⟩
    rw [Int.toNat_of_nonneg (by omega), Int.toNat_of_nonneg (by omega)]
theorem two_half {w : Nat} (h : 1 ≤ w) : ((2 ^ w : Nat) : Int) / 2 = ((2 ^ (w - 1) : Nat) : Int) := by
  obtain ⟨v, rfl⟩ := Nat.exists_eq_add_of_le h
  rw [show 1 + v - 1 = v by omega, Nat.add_comm, Nat.pow_succ]
  omega
theorem PR.iff {a b c : D} : PR [a, b, c] ↔ ∃ w t k : Int, a = .int w ∧ b = .int t ∧ c = .int k ∧ 2 ≤ w ∧ w ≤ 6 ∧ ((2 ^ w.toNat : Nat) : Int) / 2 ≤ t ∧ t ≤ ((2 ^ w.toNat : Nat) : Int) - 1 ∧ 1 ≤ k ∧ k ≤ ((2 ^ w.toNat : Nat) : Int) - 1 := by
  constructor
  · rintro ⟨w, t, k, e, R⟩
    cases e
    have := R.w1; have := R.w2; have := R.t1; have := R.t2; have := R.s1; have := R.s2
    exact ⟨_, _, _, rfl, rfl, rfl, by omega, by omega, by rw [Int.toNat_natCast, two_half (by omega)]; omega, by rw [Int.toNat_natCast]; omega, by omega, by rw [Int.toNat_natCast]; omega⟩
  · rintro ⟨w, t, k, rfl, rfl, rfl, h1, h2, h3, h4, h5, h6⟩
    rw [two_half (by omega)] at h3
    have hp := Nat.two_pow_pos (w.toNat - 1)
    refine ⟨w.toNat, t.toNat, k.toNat, ?_, ⟨by omega, by omega, by omega, by omega, by omega, by omega⟩⟩
    rw [Int.toNat_of_nonneg (by omega), Int.toNat_of_nonneg (by omega), Int.toNat_of_nonneg (by omega)]
theorem all_ints {lo hi : Int} : ∀ {ys : List D}, (∀ y ∈ ys, isIn y lo hi = true) → ∃ ns : List Int, ys = ns.map PyData.int ∧ ∀ x ∈ ns, lo ≤ x ∧ x ≤ hi
  | [], _ => ⟨[], rfl, fun x h => by cases h⟩
  | y :: ys, h => by
    obtain ⟨i, rfl, h1, h2⟩ := isIn_iff.1 (h y List.mem_cons_self)
    obtain ⟨ns, rfl, h3⟩ := all_ints (ys := ys) fun z m => h z (List.mem_cons_of_mem _ m)
    refine ⟨i :: ns, rfl, fun x m => ?_⟩
    rcases List.mem_cons.1 m with rfl | m
    · exact ⟨h1, h2⟩
    · exact h3 x m
theorem PB.iff {a : D} : PB [a] ↔ ∃ ys : List D, a = .tuple ys ∧ 1 ≤ ys.length ∧ ys.length ≤ 64 ∧ ∀ y ∈ ys, isIn y 0 63 = true := by
  constructor
  · rintro ⟨ns, e, h1, h2, h3⟩
    cases e
    refine ⟨_, rfl, by rw [List.length_map]; exact h1, by rw [List.length_map]; exact h2, fun y hy => ?_⟩
    obtain ⟨i, hi, rfl⟩ := List.mem_map.1 hy
    exact isIn_iff.2 ⟨i, rfl, h3 i hi⟩
  · rintro ⟨ys, rfl, h1, h2, h3⟩
    obtain ⟨ns, rfl, h4⟩ := all_ints h3
    rw [List.length_map] at h1 h2
    exact ⟨ns, rfl, h1, h2, h4⟩
theorem PC.len {xs : List D} (h : PC xs) : xs.length = 3 := by obtain ⟨n, s, b, rfl, _⟩ := h; rfl
theorem PT.len {xs : List D} (h : PT xs) : xs.length = 2 := by obtain ⟨n, s, rfl, _⟩ := h; rfl
theorem PR.len {xs : List D} (h : PR xs) : xs.length = 3 := by obtain ⟨n, s, b, rfl, _⟩ := h; rfl
theorem PB.len {xs : List D} (h : PB xs) : xs.length = 1 := by obtain ⟨n, rfl, _⟩ := h; rfl
theorem len1 {xs : List D} (h : xs.length = 1) : ∃ a, xs = [a] := by
  match xs, h with
  | [a], _ => exact ⟨a, rfl⟩
theorem len2 {xs : List D} (h : xs.length = 2) : ∃ a b, xs = [a, b] := by
  match xs, h with
  | [a, b], _ => exact ⟨a, b, rfl⟩
theorem len3 {xs : List D} (h : xs.length = 3) : ∃ a b c, xs = [a, b, c] := by
  match xs, h with
  | [a, b, c], _ => exact ⟨a, b, c, rfl⟩
theorem cons_len {x : D} {xs : List D} {n : Nat} {m : Int} (e : m = ((n + 1 : Nat) : Int)) : (((x :: xs).length : Nat) : Int) = m ↔ xs.length = n := by rw [List.length_cons]; omega
def sp_is_counter : DSp := fun cs post => ∃ (x : D) (xs : List D), cs = [.sh (.tuple (x :: xs))] ∧ ndAll xs ∧ YN (PC xs) post
theorem p_is_counter (cs post) (h : sp_is_counter cs post) : runD 1 (b_is_counter sp_common_divisor sp_is_between) cs post := by
  obtain ⟨x, xs, rfl, nd, q⟩ := h
  refine ifN (fun h => q.2 fun z => h ((cons_len rfl).2 z.len)) (fun h => ?_)
  obtain ⟨a, b, c, rfl⟩ := len3 ((cons_len (n := 3) rfl).1 h)
  have na := nd a (by simp)
  have nb := nd b (by simp)
  have nc := nd c (by simp)
  refine ⟨rfl, .nil, a, 1, 64, rfl, na, ?_⟩
  refine ifB (b := !isIn a 1 64) (fun e => q.2 fun z => ?_) (fun e => ?_)
  · obtain ⟨n, s, k, rfl, rfl, rfl, h1, h2, _⟩ := PC.iff.1 z
    rw [isIn_iff.2 ⟨n, rfl, h1, h2⟩] at e; cases e
  have e : isIn a 1 64 = true := by simpa using e
  obtain ⟨n, rfl, h1, h2⟩ := isIn_iff.1 e
  refine ⟨rfl, .nil, b, 1, n, rfl, nb, ?_⟩
  refine ifB (b := !isIn b 1 n) (fun e => q.2 fun z => ?_) (fun e2 => ?_)
  · obtain ⟨n', s, k, hn, rfl, rfl, _, _, h3, h4, _⟩ := PC.iff.1 z
    cases hn
    rw [isIn_iff.2 ⟨s, rfl, h3, h4⟩] at e; cases e
  have e2 : isIn b 1 n = true := by simpa using e2
  obtain ⟨s, rfl, h3, h4⟩ := isIn_iff.1 e2
  refine ⟨rfl, .nil, n, s, rfl, ?_⟩
  refine ifD (fun hg => ?_) (fun hg => q.2 fun z => ?_)
  · refine ⟨rfl, .nil, c, 0, n - 1, rfl, nc, q.bool ?_⟩
    rw [PC.iff, isIn_iff]
    constructor
    · rintro ⟨k, rfl, h5, h6⟩
      exact ⟨n, s, k, rfl, rfl, rfl, h1, h2, h3, h4, by omega, h5, h6⟩
    · rintro ⟨n', s', k, hn, hs, rfl, _, _, _, _, _, h5, h6⟩
      cases hn; cases hs
      exact ⟨k, rfl, h5, h6⟩
  · obtain ⟨n', s', k, hn, hs, rfl, _, _, _, _, h5, _⟩ := PC.iff.1 z
    cases hn; cases hs
    exact hg (by omega)
def sp_is_turned : DSp := fun cs post => ∃ (x : D) (xs : List D), cs = [.sh (.tuple (x :: xs))] ∧ ndAll xs ∧ YN (PT xs) post
theorem p_is_turned (cs post) (h : sp_is_turned cs post) : runD 1 (b_is_turned sp_is_between sp_power_of_two) cs post := by
  obtain ⟨x, xs, rfl, nd, q⟩ := h
  refine ifN (fun h => q.2 fun z => h ((cons_len rfl).2 z.len)) (fun h => ?_)
  obtain ⟨a, b, rfl⟩ := len2 ((cons_len (n := 2) rfl).1 h)
  have na := nd a (by simp)
  have nb := nd b (by simp)
  refine ⟨rfl, .nil, a, 1, 6, rfl, na, ?_⟩
  refine ifB (b := !isIn a 1 6) (fun e => q.2 fun z => ?_) (fun e => ?_)
  · obtain ⟨n, k, rfl, rfl, h1, h2, _⟩ := PT.iff.1 z
    rw [isIn_iff.2 ⟨n, rfl, h1, h2⟩] at e; cases e
  have e : isIn a 1 6 = true := by simpa using e
  obtain ⟨n, rfl, h1, h2⟩ := isIn_iff.1 e
  refine ⟨rfl, .nil, n.toNat, by rw [Int.toNat_of_nonneg (by omega)], by omega, ?_⟩
  refine ⟨rfl, .nil, b, 0, _, rfl, nb, q.bool ?_⟩
  rw [PT.iff, isIn_iff]
  constructor
  · rintro ⟨k, rfl, h5, h6⟩
    exact ⟨n, k, rfl, rfl, h1, h2, h5, h6⟩
  · rintro ⟨n', k, hn, rfl, _, _, h5, h6⟩
    cases hn
    exact ⟨k, rfl, h5, h6⟩
def sp_is_register : DSp := fun cs post => ∃ (x : D) (xs : List D), cs = [.sh (.tuple (x :: xs))] ∧ ndAll xs ∧ YN (PR xs) post
theorem p_is_register (cs post) (h : sp_is_register cs post) : runD 2 (b_is_register sp_is_between sp_power_of_two) cs post := by
  obtain ⟨x, xs, rfl, nd, q⟩ := h
  refine ifN (fun h => q.2 fun z => h ((cons_len rfl).2 z.len)) (fun h => ?_)
  obtain ⟨a, b, c, rfl⟩ := len3 ((cons_len (n := 3) rfl).1 h)
  have na := nd a (by simp)
  have nb := nd b (by simp)
  have nc := nd c (by simp)
  refine ⟨rfl, .nil, a, 2, 6, rfl, na, ?_⟩
  refine ifB (b := !isIn a 2 6) (fun e => q.2 fun z => ?_) (fun e => ?_)
  · obtain ⟨n, t, k, rfl, rfl, rfl, h1, h2, _⟩ := PR.iff.1 z
    rw [isIn_iff.2 ⟨n, rfl, h1, h2⟩] at e; cases e
  have e : isIn a 2 6 = true := by simpa using e
  obtain ⟨n, rfl, h1, h2⟩ := isIn_iff.1 e
  refine ⟨rfl, .nil, n.toNat, by rw [Int.toNat_of_nonneg (by omega)], by omega, nrm_in ?_⟩
  refine ⟨DivOk.small (by decide) (by decide), rfl, .nil, b, _, _, rfl, nb, ?_⟩
  refine ifB (b := isIn b _ _) (fun e2 => ?_) (fun e2 => q.2 fun z => ?_)
  · obtain ⟨t, rfl, h3, h4⟩ := isIn_iff.1 e2
    refine ⟨rfl, .nil, c, 1, _, rfl, nc, q.bool ?_⟩
    rw [PR.iff, isIn_iff]
    constructor
    · rintro ⟨k, rfl, h5, h6⟩
      exact ⟨n, t, k, rfl, rfl, rfl, h1, h2, h3, h4, h5, h6⟩
    · rintro ⟨n', t', k, hn, ht, rfl, _, _, _, _, h5, h6⟩
      cases hn; cases ht
      exact ⟨k, rfl, h5, h6⟩
  · obtain ⟨n', t', k, hn, rfl, rfl, _, _, h3, h4, _⟩ := PR.iff.1 z
    cases hn
    rw [isIn_iff.2 ⟨t', rfl, h3, h4⟩] at e2; cases e2
def sp_is_table : DSp := fun cs post => ∃ (B S : Nat) (x : D) (xs : List D), cs = [.sh (.tuple (x :: xs))] ∧ gdAll B S xs = true ∧ wtAll xs ≤ sizeLine ∧ YN (PB xs) post
theorem p_is_table (cs post) (h : sp_is_table cs post) : runD 2 (b_is_table sp_is_between) cs post := by
  obtain ⟨B, S, x, xs, rfl, gd', hw, q⟩ := h
  have hbig := line_big
  refine ifN (fun h => q.2 fun z => h ((cons_len rfl).2 z.len)) (fun h => ?_)
  obtain ⟨a, rfl⟩ := len1 ((cons_len (n := 1) rfl).1 h)
  have ga := gd_all.1 gd' a (by simp)
  refine ⟨gd_nd ga, ?_⟩
  cases a with
  | tuple ys =>
    refine ifD (fun h1 => ?_) (fun h1 => q.2 fun z => ?_)
    · refine ifN (fun h2 => q.2 fun z => ?_) (fun h2 => ?_)
      · obtain ⟨_, e, _, h3, _⟩ := PB.iff.1 z
        cases e
        omega
      · have gy := gd_all.1 (show gdAll B S ys = true by rw [gd] at ga; exact ga)
        refine ⟨by omega, ?_⟩
        rw [← List.map_id ys]
        refine comp_mapA ys id _ (fun y => .bool (isIn y 0 63)) (fun y hy q hq => ?_) ?_
        · exact ⟨rfl, .nil, y, 0, 63, rfl, gd_nd (gy y hy), hq _ rfl⟩
        · refine ⟨ys.map fun y => isIn y 0 63, by rw [List.map_map]; rfl, q.bool ?_⟩
          rw [PB.iff]
          simp only [List.all_eq_true, List.mem_map]
          constructor
          · intro h3
            exact ⟨ys, rfl, by omega, by omega, fun y hy => h3 _ ⟨y, hy, rfl⟩⟩
          · rintro ⟨ys', e, _, _, h3⟩ _ ⟨y, hy, rfl⟩
            cases e
            exact h3 y hy
    · obtain ⟨_, e, h2, _⟩ := PB.iff.1 z
      cases e
      omega
  | _ => exact q.2 fun z => by obtain ⟨_, e, _⟩ := PB.iff.1 z; cases e

theorem at_hd (x : D) (xs : List D) : atI (x :: xs) 0 = some x := by
  rw [at_in (by decide) (by rw [List.length_cons]; omega)]; rfl
def IsMk (left : Nat) (d : D) : Prop := ∃ m : Mk, d = mD m ∧ m.Ok ∧ m.wraps ≤ left
def Wrd (z : Str) : Prop := z = "slow" ∨ z = "slip" ∨ z = "late"
instance (z : Str) : Decidable (Wrd z) := inferInstanceAs (Decidable (z = "slow" ∨ z = "slip" ∨ z = "late"))
def PW (z : Str) (left : Nat) (xs : List D) : Prop := ∃ (k : Int) (b : D), xs = [.int k, b] ∧ (if z = "late" then 0 else 1) ≤ k ∧ k ≤ 64 ∧ ∃ l, left = l + 1 ∧ IsMk l b
theorem IsMk.not {left : Nat} {d : D} (h : ∀ z xs, d ≠ .tuple (.str z :: xs)) : ¬ IsMk left d := fun ⟨m, e, _⟩ => by
  cases m <;> exact h _ _ e
theorem mk_plain {left : Nat} {z : Str} {xs : List D} (hz : ¬ Wrd z) : IsMk left (.tuple (.str z :: xs)) ↔ (z = "counter" ∧ PC xs) ∨ (z = "turned" ∧ PT xs) ∨ (z = "register" ∧ PR xs) ∨ (z = "table" ∧ PB xs) := by
  constructor
  · rintro ⟨m, e, ok, _⟩
    cases m with
    | counter n s b => cases e; exact .inl ⟨rfl, n, s, b, rfl, ok⟩
    | turned w b => cases e; exact .inr (.inl ⟨rfl, w, b, rfl, ok⟩)
    | register w t b => cases e; exact .inr (.inr (.inl ⟨rfl, w, t, b, rfl, ok⟩))
    | table ns => cases e; exact .inr (.inr (.inr ⟨rfl, ns, rfl, ok⟩))
    | slow k m => cases e; exact absurd (.inl rfl) hz
    | slip k m => cases e; exact absurd (.inr (.inl rfl)) hz
    | late k m => cases e; exact absurd (.inr (.inr rfl)) hz
  · rintro (⟨rfl, n, s, b, rfl, ok⟩ | ⟨rfl, w, b, rfl, ok⟩ | ⟨rfl, w, t, b, rfl, ok⟩ | ⟨rfl, ns, rfl, ok⟩)
    · exact ⟨_, rfl, ok, Nat.zero_le _⟩
    · exact ⟨_, rfl, ok, Nat.zero_le _⟩
    · exact ⟨_, rfl, ok, Nat.zero_le _⟩
    · exact ⟨_, rfl, ok, Nat.zero_le _⟩
theorem mk_wrap {left : Nat} {z : Str} {xs : List D} (hz : Wrd z) : IsMk left (.tuple (.str z :: xs)) ↔ PW z left xs := by
  have n1 : ("slow" : Str) ≠ "late" := by decide
  have n2 : ("slip" : Str) ≠ "late" := by decide
  constructor
  · rintro ⟨m, e, ok, hw⟩
    cases m with
    | counter n s b => cases e; exact absurd hz (by decide)
    | turned w b => cases e; exact absurd hz (by decide)
    | register w t b => cases e; exact absurd hz (by decide)
    | table ns => cases e; exact absurd hz (by decide)
    | slow k m =>
      cases e
      obtain ⟨l, rfl⟩ : ∃ l, left = l + 1 := ⟨left - 1, by have : m.wraps + 1 ≤ left := hw; omega⟩
      exact ⟨k, _, rfl, by rw [if_neg n1]; have := ok.1; omega, by have := ok.2.1; omega, l, rfl, m, rfl, ok.2.2, Nat.le_of_succ_le_succ hw⟩
    | slip k m =>
      cases e
      obtain ⟨l, rfl⟩ : ∃ l, left = l + 1 := ⟨left - 1, by have : m.wraps + 1 ≤ left := hw; omega⟩
      exact ⟨k, _, rfl, by rw [if_neg n2]; have := ok.1; omega, by have := ok.2.1; omega, l, rfl, m, rfl, ok.2.2, Nat.le_of_succ_le_succ hw⟩
    | late k m =>
      cases e
      obtain ⟨l, rfl⟩ : ∃ l, left = l + 1 := ⟨left - 1, by have : m.wraps + 1 ≤ left := hw; omega⟩
      exact ⟨k, _, rfl, by rw [if_pos rfl]; omega, by have := ok.1; omega, l, rfl, m, rfl, ok.2, Nat.le_of_succ_le_succ hw⟩
  · rintro ⟨k, b, rfl, h1, h2, l, rfl, m, rfl, ok, hw⟩
    rcases hz with rfl | rfl | rfl
    · rw [if_neg n1] at h1
      refine ⟨.slow k.toNat m, ?_, ⟨by omega, by omega, ok⟩, Nat.succ_le_succ hw⟩
      show _ = PyData.tuple [.str "slow", .int (k.toNat : Nat), mD m]
      rw [Int.toNat_of_nonneg (by omega)]
    · rw [if_neg n2] at h1
      refine ⟨.slip k.toNat m, ?_, ⟨by omega, by omega, ok⟩, Nat.succ_le_succ hw⟩
      show _ = PyData.tuple [.str "slip", .int (k.toNat : Nat), mD m]
      rw [Int.toNat_of_nonneg (by omega)]
    · rw [if_pos rfl] at h1
      refine ⟨.late k.toNat m, ?_, ⟨by omega, ok⟩, Nat.succ_le_succ hw⟩
      show _ = PyData.tuple [.str "late", .int (k.toNat : Nat), mD m]
      rw [Int.toNat_of_nonneg (by omega)]
theorem wrd_any (z : Str) : (([.str "slow", .str "slip", .str "late"] : List D).any fun y => PyData.eqv y (.str z)) = decide (Wrd z) := by
  by_cases h : Wrd z
  · rw [decide_eq_true h]
    rcases h with rfl | rfl | rfl <;> decide
  · rw [decide_eq_false h]
    have h1 : ("slow" : Str) ≠ z := fun e => h (.inl e.symm)
    have h2 : ("slip" : Str) ≠ z := fun e => h (.inr (.inl e.symm))
    have h3 : ("late" : Str) ≠ z := fun e => h (.inr (.inr e.symm))
    simp [PyData.eqv, h1, h2, h3]
def sp_is_wrapped : Nat → DSp
  | 0 => fun _ _ => False
  | k + 1 => fun cs post => ∃ (B S : Nat) (d : D) (left : Nat), cs = [.sh d, .sh (.int (left : Nat))] ∧ gd B S d = true ∧ wt d ≤ sizeLine ∧ left ≤ k ∧ YN (IsMk left d) post
theorem sp_is_wrapped_none (cs post) (h : sp_is_wrapped 0 cs post) : False := h
theorem p_is_wrapped (k : Nat) (cs post) (h : sp_is_wrapped (k + 1) cs post) : runD 4 (b_is_wrapped sp_is_between sp_is_counter sp_is_register sp_is_table sp_is_turned (sp_is_wrapped k)) cs post := by
  obtain ⟨B, S, d, left, rfl, hg, hw, hl, q⟩ := h
  have nd := gd_nd hg
  have hbig := line_big
  cases d with
  | tuple ds =>
    match ds, hg, hw, q with
    | [], hg, hw, q => exact ⟨rfl, q.2 (IsMk.not fun z xs e => by cases e)⟩
    | x :: xs, hg, hw, q =>
      have ga : gdAll B S (x :: xs) = true := by rw [gd] at hg; exact hg
      have gx := gd_all.1 ga x (by simp)
      have gxs : gdAll B S xs = true := by rw [gdAll, Bool.and_eq_true] at ga; exact ga.2
      have hwx : wtAll xs ≤ sizeLine := by rw [wt, wtAll] at hw; omega
      have hnd : ndAll xs := fun y hy => gd_nd (gd_all.1 gxs y hy)
      refine nrm_in ?_
      show sSeq _ _ _ [_, _, _, _]
      cases x with
      | str z =>
        refine seq_on [] (fun cs => cs = []) (fun N hN => ?_) ?_
        · refine ⟨rfl, ?_⟩
          exact optD_of (at_hd _ _) ⟨rfl, hN [] rfl⟩
        rintro cs rfl
        show sSeq _ _ _ [_, _, _, _]
        refine seq_on [2] (fun cs => cs = [some (.sh (.str z))]) (fun N hN => optD_of (at_hd _ _) (nrm_in (hN [_] rfl))) ?_
        rintro cs rfl
        show sSeq _ _ _ [_, _, _, _]
        by_cases hz : Wrd z
        · refine ⟨rfl, rfl, ?_⟩
          show if (([.str "slow", .str "slip", .str "late"] : List D).any fun y => PyData.eqv y (.str z)) = true then _ else _
          rw [wrd_any]
          refine ifT hz ?_
          have hq : YN (PW z left xs) post := ⟨fun h => q.1 ((mk_wrap hz).2 h), fun h => q.2 fun z' => h ((mk_wrap hz).1 z')⟩
          show sSeq _ _ _ [_, _, _, _]
          refine seq_on [3] (fun cs => cs = [some (.sh (.int (if z = "late" then 0 else 1)))]) (fun N hN => ?_) ?_
          · refine ifD (fun h => ?_) (fun h => ?_)
            · rw [if_pos h] at hN; exact nrm_in (hN [_] rfl)
            · rw [if_neg h] at hN; exact nrm_in (hN [_] rfl)
          rintro cs rfl
          show sSeq _ _ _ [_, _, _, _]
          refine ifD (fun h => hq.2 fun ⟨_, _, _, _, _, l, e, _⟩ => by omega) (fun h0 => ?_)
          refine ifN (fun h => hq.2 fun ⟨_, _, e, _⟩ => h (by rw [e]; rfl)) (fun h => ?_)
          obtain ⟨a, b, rfl⟩ := len2 ((cons_len (n := 2) rfl).1 h)
          refine ⟨rfl, .nil, a, _, 64, rfl, hnd a (by simp), ?_⟩
          refine ifB (b := !isIn a _ 64) (fun e => hq.2 fun ⟨k, b', e', h1, h2, _⟩ => ?_) (fun e => ?_)
          · cases e'
            rw [isIn_iff.2 ⟨k, rfl, h1, h2⟩] at e; cases e
          have e : isIn a (if z = "late" then 0 else 1) 64 = true := by simpa using e
          obtain ⟨i, rfl, h1, h2⟩ := isIn_iff.1 e
          cases k with
          | zero => omega
          | succ k =>
            obtain ⟨l, rfl⟩ : ∃ l, left = l + 1 := ⟨left - 1, by omega⟩
            have gb := gd_all.1 gxs b (by simp)
            refine ⟨rfl, .nil, B, S, b, l, by show [Cell.sh b, Cell.sh (.int (((l + 1 : Nat) : Int) - 1))] = _; rw [show ((l + 1 : Nat) : Int) - 1 = (l : Nat) by omega], gb, by rw [wtAll, wtAll] at hwx; omega, by omega, ⟨fun h => hq.1 ⟨i, b, rfl, h1, h2, l, rfl, h⟩, fun h => hq.2 fun ⟨i', b', e', _, _, l', e2, h'⟩ => h ?_⟩⟩
            cases e'
            have : l = l' := by omega
            subst this; exact h'
        · refine ⟨rfl, rfl, ?_⟩
          show if (([.str "slow", .str "slip", .str "late"] : List D).any fun y => PyData.eqv y (.str z)) = true then _ else _
          rw [wrd_any]
          refine ifF hz ?_
          have hq : YN ((z = "counter" ∧ PC xs) ∨ (z = "turned" ∧ PT xs) ∨ (z = "register" ∧ PR xs) ∨ (z = "table" ∧ PB xs)) post := ⟨fun h => q.1 ((mk_plain hz).2 h), fun h => q.2 fun z' => h ((mk_plain hz).1 z')⟩
          have n1 : ("counter" : Str) ≠ "turned" := by decide
          have n2 : ("counter" : Str) ≠ "register" := by decide
          have n3 : ("counter" : Str) ≠ "table" := by decide
          have n4 : ("turned" : Str) ≠ "register" := by decide
          have n5 : ("turned" : Str) ≠ "table" := by decide
          have n6 : ("register" : Str) ≠ "table" := by decide
          show sSeq _ _ _ [_, _, _, _]
          by_cases w1 : z = "counter"
          · subst w1
            refine ⟨rfl, .nil, _, xs, rfl, hnd, ⟨fun h => hq.1 (.inl ⟨rfl, h⟩), fun h => hq.2 ?_⟩⟩
            rintro (⟨_, h'⟩ | ⟨e, _⟩ | ⟨e, _⟩ | ⟨e, _⟩)
            · exact h h'
            · exact n1 e
            · exact n2 e
            · exact n3 e
          refine ifF w1 ?_
          show sSeq _ _ _ [_, _, _, _]
          by_cases w2 : z = "turned"
          · subst w2
            refine ⟨rfl, .nil, _, xs, rfl, hnd, ⟨fun h => hq.1 (.inr (.inl ⟨rfl, h⟩)), fun h => hq.2 ?_⟩⟩
            rintro (⟨e, _⟩ | ⟨_, h'⟩ | ⟨e, _⟩ | ⟨e, _⟩)
            · exact n1 e.symm
            · exact h h'
            · exact n4 e
            · exact n5 e
          refine ifF w2 ?_
          show sSeq _ _ _ [_, _, _, _]
          by_cases w3 : z = "register"
          · subst w3
            refine ⟨rfl, .nil, _, xs, rfl, hnd, ⟨fun h => hq.1 (.inr (.inr (.inl ⟨rfl, h⟩))), fun h => hq.2 ?_⟩⟩
            rintro (⟨e, _⟩ | ⟨e, _⟩ | ⟨_, h'⟩ | ⟨e, _⟩)
            · exact n2 e.symm
            · exact n4 e.symm
            · exact h h'
            · exact n6 e
          refine ifF w3 ?_
          by_cases w4 : z = "table"
          · subst w4
            refine ⟨rfl, .nil, B, S, _, xs, rfl, gxs, hwx, ⟨fun h => hq.1 (.inr (.inr (.inr ⟨rfl, h⟩))), fun h => hq.2 ?_⟩⟩
            rintro (⟨e, _⟩ | ⟨e, _⟩ | ⟨e, _⟩ | ⟨_, h'⟩)
            · exact n3 e.symm
            · exact n5 e.symm
            · exact n6 e.symm
            · exact h h'
          refine ifF w4 (hq.2 ?_)
          rintro (⟨e, _⟩ | ⟨e, _⟩ | ⟨e, _⟩ | ⟨e, _⟩)
          · exact w1 e
          · exact w2 e
          · exact w3 e
          · exact w4 e
      | dict _ => rw [gd] at gx; cases gx
      | _ =>
        refine ⟨rfl, ?_⟩
        exact optD_of (at_hd _ _) ⟨rfl, q.2 (IsMk.not fun z xs e => by cases e)⟩
  | dict _ => cases nd
  | _ => exact ⟨rfl, q.2 (IsMk.not fun z xs e => by cases e)⟩
/-- whether a thing is a maker -/
def Maker (d : D) : Prop := ∃ m : Mk, d = mD m ∧ m.Ok ∧ m.wraps ≤ 3 ∧ m.round ≤ 4096
theorem ints_inj : ∀ {xs ys : List Int}, xs.map PyData.int = ys.map PyData.int → xs = ys
  | [], [], _ => rfl
  | [], y :: ys, h => by simp at h
  | x :: xs, [], h => by simp at h
  | x :: xs, y :: ys, h => by
    simp only [List.map_cons, List.cons.injEq, PyData.int.injEq] at h
    rw [h.1, ints_inj h.2]
theorem mD_inj : ∀ {m m' : Mk}, mD m = mD m' → m = m' := by
  intro m
  induction m with
  | counter n s b =>
    intro m' e
    cases m' <;> simp only [mD, PyData.tuple.injEq, List.cons.injEq, PyData.str.injEq, PyData.int.injEq, and_true, true_and] at e <;> first | exact absurd e.1 (by decide) | exact absurd e (by decide) | skip
    obtain ⟨h1, h2, h3⟩ := e
    cases Int.ofNat_inj.1 h1; cases Int.ofNat_inj.1 h2; cases Int.ofNat_inj.1 h3; rfl
  | turned w b =>
    intro m' e
    cases m' <;> simp only [mD, PyData.tuple.injEq, List.cons.injEq, PyData.str.injEq, PyData.int.injEq, and_true, true_and] at e <;> first | exact absurd e.1 (by decide) | exact absurd e (by decide) | skip
    obtain ⟨h1, h2⟩ := e
    cases Int.ofNat_inj.1 h1; cases Int.ofNat_inj.1 h2; rfl
  | register w t b =>
    intro m' e
    cases m' <;> simp only [mD, PyData.tuple.injEq, List.cons.injEq, PyData.str.injEq, PyData.int.injEq, and_true, true_and] at e <;> first | exact absurd e.1 (by decide) | exact absurd e (by decide) | skip
    obtain ⟨h1, h2, h3⟩ := e
    cases Int.ofNat_inj.1 h1; cases Int.ofNat_inj.1 h2; cases Int.ofNat_inj.1 h3; rfl
  | table ns =>
    intro m' e
    cases m' <;> simp only [mD, PyData.tuple.injEq, List.cons.injEq, PyData.str.injEq, and_true, true_and] at e <;> first | exact absurd e.1 (by decide) | exact absurd e (by decide) | skip
    rw [ints_inj e]
  | slow k m ih =>
    intro m' e
    cases m' <;> simp only [mD, PyData.tuple.injEq, List.cons.injEq, PyData.str.injEq, PyData.int.injEq, and_true, true_and] at e <;> first | exact absurd e.1 (by decide) | exact absurd e (by decide) | skip
    cases Int.ofNat_inj.1 e.1; rw [ih e.2]
  | slip k m ih =>
    intro m' e
    cases m' <;> simp only [mD, PyData.tuple.injEq, List.cons.injEq, PyData.str.injEq, PyData.int.injEq, and_true, true_and] at e <;> first | exact absurd e.1 (by decide) | exact absurd e (by decide) | skip
    cases Int.ofNat_inj.1 e.1; rw [ih e.2]
  | late k m ih =>
    intro m' e
    cases m' <;> simp only [mD, PyData.tuple.injEq, List.cons.injEq, PyData.str.injEq, PyData.int.injEq, and_true, true_and] at e <;> first | exact absurd e.1 (by decide) | exact absurd e (by decide) | skip
    cases Int.ofNat_inj.1 e.1; rw [ih e.2]
def sp_is_maker : DSp := fun cs post => ∃ (B S : Nat) (d : D), cs = [.sh d] ∧ gd B S d = true ∧ wt d ≤ sizeLine ∧ YN (Maker d) post
theorem p_is_maker (cs post) (h : sp_is_maker cs post) : runD 1 (b_is_maker (sp_is_wrapped 4) (sp_round_of 4)) cs post := by
  obtain ⟨B, S, d, rfl, hg, hw, q⟩ := h
  refine ⟨rfl, .nil, B, S, d, 3, rfl, hg, hw, Nat.le_refl _, ⟨fun ⟨m, e, ok, hm⟩ => ?_, fun h => q.2 fun ⟨m, e, ok, hm, _⟩ => h ⟨m, e, ok, hm⟩⟩⟩
  subst e
  refine ⟨rfl, .nil, m, rfl, ok, hm, q.bool ?_⟩
  rw [decide_eq_true_eq]
  constructor
  · intro h; exact ⟨m, rfl, ok, hm, by omega⟩
  · rintro ⟨m', e, ok', _, h⟩
    rw [mD_inj e]; omega
end DL
end

section
set_option Elab.async false
set_option linter.all false
set_option maxRecDepth 100000
/-! ## makers: their numbers -/
namespace DL
open PySem PySem.Spec PyProof.Rows L2 MK
def sp_bits_turned : DSp := fun cs post => ∃ n w : Nat, cs = [.sh (.int (n : Nat)), .sh (.int (w : Nat))] ∧ w ≤ 6 ∧ post (.sh (.int (rev w n : Nat))) []
theorem p_bits_turned (cs post) (h : sp_bits_turned cs post) : runD 4 b_bits_turned cs post := by
  obtain ⟨n, w, rfl, hw, q⟩ := h
  refine ⟨by omega, by omega, ?_⟩
  rw [Int.toNat_natCast]
  refine rng_on 0 w [0, 2, 3] _ (fun i cs => ∃ (m f : Nat) (c : Option Cell), cs = [some (.sh (.int (m : Nat))), some (.sh (.int (f : Nat))), c] ∧ f * 2 ^ (w - i) + rev (w - i) m = rev w n) ?_ ?_ ⟨n, 0, _, rfl, by simp⟩
  · rintro i hi cs N ⟨m, f, c, rfl, e⟩ hN
    refine ⟨MulOk.left (by decide), two_pos, ⟨two_pos, by decide⟩, ?_⟩
    refine hN [_, _, _] ⟨m / 2, 2 * f + m % 2, _, rfl, ?_⟩
    have e1 : w - i = (w - (i + 1)) + 1 := by omega
    rw [e1] at e
    rw [← e]
    show _ = f * 2 ^ (w - (i + 1) + 1) + (m % 2 * 2 ^ (w - (i + 1)) + rev (w - (i + 1)) (m / 2))
    rw [Nat.pow_succ, Nat.add_mul, Nat.mul_comm 2 f, Nat.mul_assoc, Nat.mul_comm 2, Nat.add_assoc]
  · rintro cs ⟨m, f, c, rfl, e⟩
    rw [Nat.sub_self] at e
    have e2 : f = rev w n := by rw [← e]; show f = f * 1 + 0; omega
    rw [← e2] at q
    exact q
theorem small_map {α : Type} {xs : List α} {n : Nat} {f : α → D} (h : xs.length ≤ n) (h2 : n ≤ 2 ^ 24) : (xs.map f).length ≤ sizeLine := by
  have := line_big
  rw [List.length_map]; omega
def sp_plain_numbers : DSp := fun cs post => ∃ m : Mk, cs = [.sh (mD m)] ∧ m.Ok ∧ m.plain = true ∧ post (.sh (.list (m.base.map PyData.int))) []
theorem p_plain_numbers (cs post) (h : sp_plain_numbers cs post) : runD 4 (b_plain_numbers sp_bits_turned sp_held_round sp_power_of_two) cs post := by
  obtain ⟨m, rfl, ok, hp, q⟩ := h
  have hbig := line_big
  cases m with
  | counter n s b =>
    have h1 := ok.1
    have h2 := ok.2.1
    refine ⟨by omega, by omega, by rw [rngD_len]; omega, ?_⟩
    rw [Int.toNat_natCast]
    refine comp_rng n _ (fun t => .int (((b : Int) + s * (t : Nat)) % n)) (fun t ht q hq => ?_) ?_
    · refine ⟨MulOk.left ?_, ?_, hq _ rfl⟩
      · have := ok.2.2.2.1; omega
      · show (0 : Int) < n; omega
    · have e : (List.range n).map (fun t => PyData.int (((b : Int) + s * ((t : Nat) : Int)) % n)) = (Mk.base (.counter n s b)).map PyData.int := by
        show _ = ((List.range n).map _).map _
        rw [List.map_map]; rfl
      rw [e]
      exact q
  | turned w b =>
    have h1 := ok.1
    have h2 := ok.2.1
    have hp2 : 0 < 2 ^ w := Nat.pow_pos (by decide)
    have h64 : 2 ^ w ≤ 64 := Nat.le_trans (Nat.pow_le_pow_right (by decide) h2) (by decide)
    refine ⟨rfl, .nil, w, rfl, by omega, by omega, by omega, by rw [rngD_len]; omega, ?_⟩
    rw [Int.toNat_natCast]
    refine comp_rng (2 ^ w) _ (fun t => .int ((rev w ((b + t) % 2 ^ w) : Nat) : Int)) (fun t ht q hq => ?_) ?_
    · refine ⟨?_, rfl, .nil, (b + t) % 2 ^ w, w, rfl, by omega, hq _ rfl⟩
      show (0 : Int) < ((2 ^ w : Nat) : Int); omega
    · have e : (List.range (2 ^ w)).map (fun t => PyData.int ((rev w ((b + t) % 2 ^ w) : Nat) : Int)) = (Mk.base (.turned w b)).map PyData.int := by
        show _ = ((List.range (2 ^ w)).map _).map _
        rw [List.map_map]; rfl
      rw [e]
      exact q
  | register w t s => exact ⟨rfl, .nil, w, t, s, rfl, ok, q⟩
  | table ns => exact q
  | slow _ _ => cases hp
  | slip _ _ => cases hp
  | late _ _ => cases hp
/-- the numbers of a round -/
def nums (m : Mk) : List Int := (List.range m.round).map fun t => m.val ((t : Nat) : Int)
theorem nums_len (m : Mk) : (nums m).length = m.round := by unfold nums; rw [List.length_map, List.length_range]
theorem nums_base {m : Mk} (hp : m.plain = true) : nums m = m.base := by
  have e := base_len hp
  apply List.ext_getElem
  · rw [nums_len, e]
  · intro i h1 h2
    have e1 : (nums m)[i] = m.val ((i : Nat) : Int) := by simp [nums]
    rw [e1, val_plain hp, Int.emod_eq_of_lt (by omega) (by omega)]
    simp [List.getD_eq_getElem?_getD, List.getElem?_eq_getElem h2]
theorem at_nums {m : Mk} {i : Int} (h0 : 0 ≤ i) (h1 : i < (m.round : Nat)) : atI ((nums m).map PyData.int) i = some (.int (m.val i)) := by
  rw [at_ints h0 (by rw [nums_len]; exact h1)]
  congr 2
  unfold nums
  have hl : i.toNat < m.round := by omega
  simp [List.getD_eq_getElem?_getD, List.getElem?_map, List.getElem?_range hl]
  congr 1
  omega
theorem at_nums_mod {m : Mk} (ok : m.Ok) (t : Int) : atI ((nums m).map PyData.int) (t % ((nums m).map PyData.int).length) = some (.int (m.val t)) := by
  have r := round_pos ok
  have e : (((nums m).map PyData.int).length : Int) = (m.round : Nat) := by rw [List.length_map, nums_len]
  rw [e]
  have a := Int.emod_nonneg t (show ((m.round : Nat) : Int) ≠ 0 by omega)
  have b := Int.emod_lt_of_pos t (show (0 : Int) < ((m.round : Nat) : Int) by omega)
  rw [at_nums a b, val_mod ok]
def sp_numbers_of : Nat → DSp
  | 0 => fun _ _ => False
  | k + 1 => fun cs post => ∃ m : Mk, cs = [.sh (mD m)] ∧ m.Ok ∧ m.Sm ∧ m.wraps ≤ k ∧ m.wraps ≤ 3 ∧ post (.sh (.list ((nums m).map PyData.int))) []
theorem sp_numbers_of_none (cs post) (h : sp_numbers_of 0 cs post) : False := h
theorem plain_ww {m : Mk} (hp : m.plain = true) {k : Nat} : m.wraps ≤ k := by cases m <;> first | exact Nat.zero_le _ | cases hp
theorem rg_ok {n : Nat} (h : n < 2 ^ 22) : RgOk 0 (n : Int) := by
  have := line_big
  unfold RgOk
  omega
theorem nums_map (m : Mk) : (List.range m.round).map (fun t => PyData.int (m.val ((t : Nat) : Int))) = (nums m).map PyData.int := by
  unfold nums; rw [List.map_map]; rfl
theorem p_numbers_of (k : Nat) (cs post) (h : sp_numbers_of (k + 1) cs post) : runD 6 (b_numbers_of (sp_numbers_of k) sp_plain_numbers (sp_round_of 4)) cs post := by
  obtain ⟨m, rfl, ok, sm, hw, hw3, q⟩ := h
  have hbig := line_big
  have pl : m.plain = true → post (.sh (.list (m.base.map PyData.int))) [] := fun hp => by rw [← nums_base hp]; exact q
  have hR := Sm.lt ok sm
  rw [← nums_map] at q
  have hl : (rngD 0 ((m.round : Nat) : Int).toNat).length ≤ sizeLine := by rw [rngD_len, Int.toNat_natCast]; omega
  cases m with
  | counter n s b => exact ⟨rfl, rfl, rfl, .nil, _, rfl, ok, rfl, pl rfl⟩
  | turned w b => exact ⟨rfl, rfl, rfl, .nil, .turned w b, rfl, ok, rfl, pl rfl⟩
  | register w t s => exact ⟨rfl, rfl, rfl, .nil, .register w t s, rfl, ok, rfl, pl rfl⟩
  | table ns => exact ⟨rfl, rfl, rfl, .nil, .table ns, rfl, ok, rfl, pl rfl⟩
  | slow j m =>
    have hw' := hw
    cases k with
    | zero => exact absurd hw (Nat.not_succ_le_zero _)
    | succ k =>
      have j0 := ok.1
      have j1 := ok.2.1
      refine ⟨rfl, rfl, rfl, .nil, m, rfl, ok.2.2, sm.2, Nat.le_of_succ_le_succ hw, Nat.le_of_succ_le hw3, ?_⟩
      refine ⟨rfl, .nil, .slow j m, rfl, ok, hw3, rg_ok hR, hl, ?_⟩
      rw [Int.toNat_natCast]
      refine comp_rng _ _ (fun t => .int (Mk.val (.slow j m) ((t : Nat) : Int))) (fun t ht q hq => ?_) q
      have ht2 : t < m.round * j := by rw [Nat.mul_comm]; exact ht
      have ht3 : t / j < m.round := Nat.div_lt_of_lt_mul (by rw [Nat.mul_comm]; exact ht2)
      exact ⟨DivOk.small (by omega) (by omega), optD_of (at_nums (i := ((t / j : Nat) : Int)) (Int.natCast_nonneg _) (Int.ofNat_lt.2 ht3)) (hq _ rfl)⟩
  | slip j m =>
    cases k with
    | zero => exact absurd hw (Nat.not_succ_le_zero _)
    | succ k =>
      have j0 := ok.1
      have j1 := ok.2.1
      refine ⟨rfl, rfl, rfl, .nil, m, rfl, ok.2.2, sm.2, Nat.le_of_succ_le_succ hw, Nat.le_of_succ_le hw3, ?_⟩
      refine ⟨rfl, .nil, .slip j m, rfl, ok, hw3, rg_ok hR, hl, ?_⟩
      rw [Int.toNat_natCast]
      refine comp_rng _ _ (fun t => .int (Mk.val (.slip j m) ((t : Nat) : Int))) (fun t ht q hq => ?_) q
      refine ⟨DivOk.small (by omega) (by omega), ?_, optD_of (at_nums_mod ok.2.2 _) (hq _ rfl)⟩
      rw [List.length_map, nums_len]
      have := round_pos ok.2.2
      omega
  | late j m =>
    cases k with
    | zero => exact absurd hw (Nat.not_succ_le_zero _)
    | succ k =>
      refine ⟨rfl, rfl, rfl, .nil, m, rfl, ok.2, sm, Nat.le_of_succ_le_succ hw, Nat.le_of_succ_le hw3, ?_⟩
      refine ⟨rfl, .nil, .late j m, rfl, ok, hw3, rg_ok hR, hl, ?_⟩
      rw [Int.toNat_natCast]
      refine comp_rng _ _ (fun t => .int (Mk.val (.late j m) ((t : Nat) : Int))) (fun t ht q hq => ?_) q
      refine ⟨?_, optD_of (at_nums_mod ok.2 _) (hq _ rfl)⟩
      rw [List.length_map, nums_len]
      have := round_pos ok.2
      omega
def sp_value_at : Nat → DSp
  | 0 => fun _ _ => False
  | k + 1 => fun cs post => ∃ (m : Mk) (t : Int), cs = [.sh (mD m), .sh (.int t)] ∧ m.Ok ∧ m.wraps ≤ k ∧ m.wraps ≤ 3 ∧ post (.sh (.int (m.val t))) []
theorem sp_value_at_none (cs post) (h : sp_value_at 0 cs post) : False := h
theorem p_value_at (k : Nat) (cs post) (h : sp_value_at (k + 1) cs post) : runD 4 (b_value_at sp_plain_numbers (sp_round_of 4) (sp_value_at k)) cs post := by
  obtain ⟨m, t, rfl, ok, hw, hw3, q⟩ := h
  have hp : ∀ (hp : m.plain = true), (0 : Int) < ((m.base.map PyData.int).length : Nat) ∧ atI (m.base.map PyData.int) (t % ((m.base.map PyData.int).length : Nat)) = some (.int (m.val t)) := fun hp => by
    have := at_nums_mod ok t
    rw [nums_base hp] at this
    refine ⟨?_, this⟩
    rw [List.length_map, base_len hp]
    have := round_pos ok
    omega
  cases m with
  | counter n s b => exact ⟨rfl, .nil, .counter n s b, rfl, ok, rfl, (hp rfl).1, optD_of (hp rfl).2 q⟩
  | turned w b => exact ⟨rfl, .nil, .turned w b, rfl, ok, rfl, (hp rfl).1, optD_of (hp rfl).2 q⟩
  | register w t s => exact ⟨rfl, .nil, .register w t s, rfl, ok, rfl, (hp rfl).1, optD_of (hp rfl).2 q⟩
  | table ns => exact ⟨rfl, .nil, .table ns, rfl, ok, rfl, (hp rfl).1, optD_of (hp rfl).2 q⟩
  | slow j m =>
    cases k with
    | zero => exact absurd hw (Nat.not_succ_le_zero _)
    | succ k =>
      have j0 := ok.1
      have j1 := ok.2.1
      exact ⟨DivOk.small (by omega) (by omega), rfl, .nil, m, _, rfl, ok.2.2, Nat.le_of_succ_le_succ hw, Nat.le_of_succ_le hw3, q⟩
  | slip j m =>
    cases k with
    | zero => exact absurd hw (Nat.not_succ_le_zero _)
    | succ k =>
      have j0 := ok.1
      have j1 := ok.2.1
      exact ⟨DivOk.small (by omega) (by omega), rfl, .nil, m, _, rfl, ok.2.2, Nat.le_of_succ_le_succ hw, Nat.le_of_succ_le hw3, q⟩
  | late j m =>
    cases k with
    | zero => exact absurd hw (Nat.not_succ_le_zero _)
    | succ k =>
      refine ⟨rfl, .nil, .late j m, rfl, ok, hw3, ?_, rfl, .nil, m, _, rfl, ok.2, Nat.le_of_succ_le_succ hw, Nat.le_of_succ_le hw3, ?_⟩
      · have := round_pos ok.2
        show (0 : Int) < ((m.round : Nat) : Int); omega
      · have e : m.val ((t - (j : Int)) % ((Mk.round (.late j m) : Nat) : Int)) = Mk.val (.late j m) t := val_mod ok.2 _
        rw [e]
        exact q
/-- the numbers of the first n beats -/
def vals (m : Mk) (n : Nat) : List Int := (List.range n).map fun t => m.val ((t : Nat) : Int)
theorem vals_len (m : Mk) (n : Nat) : (vals m n).length = n := by unfold vals; rw [List.length_map, List.length_range]
theorem vals_map (m : Mk) (n : Nat) : (List.range n).map (fun t => PyData.int (m.val ((t : Nat) : Int))) = (vals m n).map PyData.int := by
  unfold vals; rw [List.map_map]; rfl
theorem vals_get (m : Mk) {n i : Nat} (h : i < n) : (vals m n)[i]'(by rw [vals_len]; exact h) = m.val ((i : Nat) : Int) := by simp [vals]
def sp_values_of : DSp := fun cs post => ∃ (m : Mk) (n : Nat), cs = [.sh (mD m), .sh (.int (n : Nat))] ∧ m.Ok ∧ m.Sm ∧ m.wraps ≤ 3 ∧ n < 2 ^ 22 ∧ post (.own (.lst ((vals m n).map PyData.int))) []
theorem p_values_of (cs post) (h : sp_values_of cs post) : runD 4 (b_values_of (sp_numbers_of 4)) cs post := by
  obtain ⟨m, n, rfl, ok, sm, hw, hn, q⟩ := h
  have hbig := line_big
  refine ⟨rfl, .nil, m, rfl, ok, sm, hw, hw, ?_⟩
  refine ⟨by omega, by omega, by rw [rngD_len]; omega, ?_⟩
  rw [Int.toNat_natCast]
  rw [← vals_map] at q
  refine comp_rng n _ (fun t => .int (m.val ((t : Nat) : Int))) (fun t ht q hq => ?_) q
  refine ⟨?_, optD_of (at_nums_mod ok _) (hq _ rfl)⟩
  rw [List.length_map, nums_len]
  have := round_pos ok
  omega
/-! ### rows of makers -/
def rowI (m : Mk) (k : Int) (n : Nat) : List Int := (vals m n).map fun v => if decide (v < k) = true then 1 else 0
theorem rowI_len (m : Mk) (k : Int) (n : Nat) : (rowI m k n).length = n := by unfold rowI; rw [List.length_map, vals_len]
theorem rowI_bits (m : Mk) (k : Int) (n : Nat) : Bits (rowI m k n) := fun b hb => by
  obtain ⟨v, _, rfl⟩ := List.mem_map.1 hb
  split
  · exact .inr rfl
  · exact .inl rfl
def sp_row_of : DSp := fun cs post => ∃ (m : Mk) (k : Int) (n : Nat), cs = [.sh (mD m), .sh (.int k), .sh (.int (n : Nat))] ∧ m.Ok ∧ m.Sm ∧ m.wraps ≤ 3 ∧ n < 2 ^ 22 ∧ post (.sh (bD (rowI m k n))) []
theorem p_row_of (cs post) (h : sp_row_of cs post) : runD 4 (b_row_of sp_values_of) cs post := by
  obtain ⟨m, k, n, rfl, ok, sm, hw, hn, q⟩ := h
  have hbig := line_big
  refine ⟨rfl, .nil, m, n, rfl, ok, sm, hw, hn, by rw [List.length_map, vals_len]; omega, ?_⟩
  refine comp_mapA (vals m n) PyData.int _ (fun v => .int (if decide (v < k) = true then 1 else 0)) (fun v hv q hq => hq _ rfl) ?_
  have e : bD (rowI m k n) = .tuple ((vals m n).map fun v => .int (if decide (v < k) = true then 1 else 0)) := by
    unfold bD rowI; rw [List.map_map]; rfl
  rw [e] at q
  exact q
def shareR (bs : List Int) : Rat := Rat.divInt bs.sum bs.length
def sp_share_of : DSp := fun cs post => ∃ bs : List Int, cs = [.sh (bD bs)] ∧ 0 < bs.length ∧ bs.length < 2 ^ 24 ∧ post (.sh (fD (shareR bs))) []
theorem p_share_of (cs post) (h : sp_share_of cs post) : runD 1 (b_share_of sp_fraction sp_ones) cs post := by
  obtain ⟨bs, rfl, h0, hl, q⟩ := h
  have el : ((bs.map PyData.int).length : Int) = bs.length := by rw [List.length_map]
  refine ⟨rfl, .nil, bs, rfl, rfl, .nil, bs.sum, _, rfl, by omega, (Szl (n := 24) (by rw [List.length_map]; exact hl)).mono (by decide), ?_⟩
  rw [el]
  exact q
def sp_share_told : DSp := fun cs post => ∃ (m : Mk) (k : Int), cs = [.sh (mD m), .sh (.int k)] ∧ m.Ok ∧ m.Sm ∧ m.wraps ≤ 3 ∧ post (.sh (fD (shareR (rowI m k m.round)))) []
theorem p_share_told (cs post) (h : sp_share_told cs post) : runD 2 (b_share_told (sp_round_of 4) sp_row_of sp_share_of) cs post := by
  obtain ⟨m, k, rfl, ok, sm, hw, q⟩ := h
  have hR := Sm.lt ok sm
  have h0 := round_pos ok
  exact ⟨rfl, .nil, m, rfl, ok, hw, rfl, .nil, m, k, m.round, rfl, ok, sm, hw, hR, rfl, .nil, _, rfl, by rw [rowI_len]; exact h0, by rw [rowI_len]; omega, q⟩
end DL
end

section
set_option Elab.async false
set_option linter.all false
set_option maxRecDepth 100000
/-! ## makers, as the laws themselves reckon them (one way) -/
namespace DL
open PySem PySem.Spec PyProof.Rows L2 MK
def b_powers_a : DTS :=
  (sRet (eFrz (oLst (aCons (eC (.int 1)) (aCons (eC (.int 2)) (aCons (eC (.int 4)) (aCons (eC (.int 8)) (aCons (eC (.int 16)) (aCons (eC (.int 32)) (aCons (eC (.int 64)) aNil))))))))))
def b_base_a (sp_law_powers : DSp) : DTS :=
  (sSeq (sIf (tBl (eOp2 pEq (eIxV 0 (eC (.int 0))) (eC (.str "table")))) (sRet (eFrz (oList (eIxV 0 (eC (.int 1)))))) sNext)
  (sSeq (sIf (tBl (eOp2 pEq (eIxV 0 (eC (.int 0))) (eC (.str "counter")))) (sSeq (sSetO 2 (oLst (aCons (eIxV 0 (eC (.int 3))) aNil)))
  (sSeq (sWhile (tBl (eOp2 pLt (eLenV 2) (eIxV 0 (eC (.int 1))))) (sDrop (eMutL 2 pApp (aCons (eOp2 pMod (eOp2 pAdd (eIxV 2 (eOp1 pNeg (eC (.int 1)))) (eIxV 0 (eC (.int 2)))) (eIxV 0 (eC (.int 1)))) aNil))))
  (sRet (eVar 2)))) sNext)
  (sSeq (sIf (tBl (eOp2 pEq (eIxV 0 (eC (.int 0))) (eC (.str "turned")))) (sSeq (sPutT [4, 2] (xCons (eOp2 pIx (eCallF 0 sp_law_powers cNil) (eIxV 0 (eC (.int 1)))) (xOwn (oLst aNil) xNil)))
  (sSeq (sFor (iR1 (aCons (eVar 4) aNil)) (gNm 5) (sSeq (sSetO 1 (oComp true [7] (iAny (eSl (eCallF 0 sp_law_powers cNil) pNo (pSome (eIxV 0 (eC (.int 1)))))) tYesD (eOp2 pMod (eOp2 pDiv (eOp2 pMod (eOp2 pAdd (eIxV 0 (eC (.int 2))) (eVar 5)) (eVar 4)) (eVar 7)) (eC (.int 2)))))
  (sDrop (eMutL 2 pApp (aCons (eCall pSum (aCons (eFrz (oComp false [8, 7] (iZp (aCons (eVar 1) (aCons (eRev (eSl (eCallF 0 sp_law_powers cNil) pNo (pSome (eIxV 0 (eC (.int 1)))))) aNil))) tYesD (eOp2 pMul (eVar 8) (eVar 7)))) aNil)) aNil)))))
  (sRet (eVar 2)))) sNext)
  (sSeq (sPutX [1, 2] (xCons (eSl (eCallF 0 sp_law_powers cNil) pNo (pSome (eIxV 0 (eC (.int 1))))) (xOwn (oLst aNil) xNil)))
  (sSeq (sSet 3 (eIxV 0 (eC (.int 3))))
  (sSeq (sWhile (tQuiet (tBl (eOp2 (pIn true) (eVar 3) (eVar 2)))) (sSeq (sDrop (eMutL 2 pApp (aCons (eVar 3) aNil)))
  (sSeq (sSet 6 (eOp2 pMod (eCall pSum (aCons (eFrz (oComp true [7] (iAny (eVar 1)) tYesD (eOp2 pMul (eOp2 pMod (eOp2 pDiv (eVar 3) (eVar 7)) (eC (.int 2))) (eOp2 pMod (eOp2 pDiv (eIxV 0 (eC (.int 2))) (eVar 7)) (eC (.int 2)))))) aNil)) (eC (.int 2))))
  (sSet 3 (eOp2 pAdd (eOp2 pMod (eOp2 pMul (eC (.int 2)) (eVar 3)) (eOp2 pIx (eCallF 0 sp_law_powers cNil) (eIxV 0 (eC (.int 1))))) (eVar 6))))))
  (sRet (eVar 2))))))))
def b_inner_a : DTS :=
  (sSeq (sWhile (tBl (eOp2 (pIn false) (eIxV 0 (eC (.int 0))) (eTup (aCons (eC (.str "slow")) (aCons (eC (.str "slip")) (aCons (eC (.str "late")) aNil)))))) (sSet 0 (eIxV 0 (eC (.int 2)))))
  (sRet (eVar 0)))
def b_round_a (sp_law_base : DSp) (sp_law_divisor : DSp) (sp_law_round : DSp) : DTS :=
  (sSeq (sIf (tBl (eOp2 (pIn true) (eIxV 0 (eC (.int 0))) (eTup (aCons (eC (.str "slow")) (aCons (eC (.str "slip")) (aCons (eC (.str "late")) aNil)))))) (sRet (eCall pLen (aCons (eCallF 1 sp_law_base (cCons (eVar 0) cNil)) aNil))) sNext)
  (sSeq (sSet 1 (eCallF 1 sp_law_round (cCons (eIxV 0 (eC (.int 2))) cNil)))
  (sSeq (sIf (tBl (eOp2 pEq (eIxV 0 (eC (.int 0))) (eC (.str "late")))) (sRet (eVar 1)) sNext)
  (sRet (eOp2 pDiv (eOp2 pMul (eIxV 0 (eC (.int 1))) (eVar 1)) (eIf (tBl (eOp2 pEq (eIxV 0 (eC (.int 0))) (eC (.str "slip")))) (eCallF 2 sp_law_divisor (cCons (eVar 1) (cCons (eOp2 pAdd (eIxV 0 (eC (.int 1))) (eC (.int 1))) cNil))) (eC (.int 1))))))))
def b_beat_a (sp_law_beat : DSp) : DTS :=
  (sSeq (sIf (tBl (eOp2 pEq (eIxV 0 (eC (.int 0))) (eC (.str "slow")))) (sRet (eCallF 3 sp_law_beat (cCons (eIxV 0 (eC (.int 2))) (cCons (eVar 1) (cCons (eOp2 pDiv (eVar 2) (eIxV 0 (eC (.int 1)))) cNil))))) sNext)
  (sSeq (sIf (tBl (eOp2 pEq (eIxV 0 (eC (.int 0))) (eC (.str "slip")))) (sRet (eCallF 3 sp_law_beat (cCons (eIxV 0 (eC (.int 2))) (cCons (eVar 1) (cCons (eOp2 pAdd (eVar 2) (eOp2 pDiv (eVar 2) (eIxV 0 (eC (.int 1))))) cNil))))) sNext)
  (sSeq (sIf (tBl (eOp2 pEq (eIxV 0 (eC (.int 0))) (eC (.str "late")))) (sRet (eCallF 3 sp_law_beat (cCons (eIxV 0 (eC (.int 2))) (cCons (eVar 1) (cCons (eOp2 pSub (eVar 2) (eIxV 0 (eC (.int 1)))) cNil))))) sNext)
  (sRet (eIxV 1 (eOp2 pMod (eVar 2) (eLenV 1)))))))
def b_top_a (sp_law_inner : DSp) (sp_law_powers : DSp) : DTS :=
  (sSeq (sSet 1 (eCallF 1 sp_law_inner (cCons (eVar 0) cNil)))
  (sSeq (sIf (tBl (eOp2 pEq (eIxV 1 (eC (.int 0))) (eC (.str "counter")))) (sRet (eIxV 1 (eC (.int 1)))) sNext)
  (sRet (eIf (tBl (eOp2 pEq (eIxV 1 (eC (.int 0))) (eC (.str "table")))) (eOp2 pAdd (eCall pMaxT (aCons (eIxV 1 (eC (.int 1))) aNil)) (eC (.int 1))) (eOp2 pIx (eCallF 0 sp_law_powers cNil) (eIxV 1 (eC (.int 1))))))))
def b_plain_a (sp_law_divisor : DSp) (sp_law_powers : DSp) (sp_law_take : DSp) : DTS :=
  (sSeq (sPar 1 2 (aCons (eCallF 2 sp_law_take (cIo 0 (cCons (eC (.int 4)) cNil))) (aCons (eOp2 pEq (eCallF 2 sp_law_take (cIo 0 (cCons (eC (.int 8)) cNil))) (eC (.int 0))) aNil)))
  (sSeq (sIf (tBl (eOp2 pEq (eVar 1) (eC (.int 0)))) (sSeq (sSet 4 (eOp2 pIx (eFrz (oLst (aCons (eOp2 pAdd (eC (.int 1)) (eCallF 2 sp_law_take (cIo 0 (cCons (eC (.int 16)) cNil)))) (aCons (eOp2 pAdd (eC (.int 1)) (eCallF 2 sp_law_take (cIo 0 (cCons (eC (.int 64)) cNil)))) aNil)))) (eCall pInt (aCons (eVar 2) aNil))))
  (sSeq (sSetO 5 (oComp true [7] (iR2 (aCons (eC (.int 1)) (aCons (eOp2 pAdd (eVar 4) (eC (.int 1))) aNil))) (tBl (eOp2 pEq (eCallF 2 sp_law_divisor (cCons (eVar 7) (cCons (eVar 4) cNil))) (eC (.int 1)))) (eVar 7)))
  (sRet (eTup (aCons (eC (.str "counter")) (aCons (eVar 4) (aCons (eIxV 5 (eCallF 2 sp_law_take (cIo 0 (cCons (eLenV 5) cNil)))) (aCons (eCallF 2 sp_law_take (cIo 0 (cCons (eVar 4) cNil))) aNil)))))))) sNext)
  (sSeq (sIf (tBl (eOp2 pEq (eVar 1) (eC (.int 3)))) (sSeq (sSet 4 (eOp2 pIx (eFrz (oLst (aCons (eOp2 pAdd (eC (.int 1)) (eCallF 2 sp_law_take (cIo 0 (cCons (eC (.int 8)) cNil)))) (aCons (eOp2 pAdd (eC (.int 1)) (eCallF 2 sp_law_take (cIo 0 (cCons (eC (.int 64)) cNil)))) aNil)))) (eCall pInt (aCons (eVar 2) aNil))))
  (sSeq (sSet 6 (eOp2 pIx (eFrz (oLst (aCons (eC (.int 2)) (aCons (eC (.int 6)) (aCons (eC (.int 64)) aNil))))) (eCallF 2 sp_law_take (cIo 0 (cCons (eC (.int 3)) cNil)))))
  (sRet (eTup (aCons (eC (.str "table")) (aCons (eCall pTup (aCons (eFrz (oComp true [8] (iR1 (aCons (eVar 4) aNil)) tYesD (eCallF 2 sp_law_take (cIo 0 (cCons (eVar 6) cNil))))) aNil)) aNil)))))) sNext)
  (sSeq (sSet 3 (eOp2 pAdd (eC (.int 2)) (eCallF 2 sp_law_take (cIo 0 (cCons (eOp2 pIx (eFrz (oLst (aCons (eC (.int 3)) (aCons (eC (.int 5)) aNil)))) (eCall pInt (aCons (eVar 2) aNil))) cNil)))))
  (sSeq (sSet 4 (eOp2 pIx (eCallF 0 sp_law_powers cNil) (eVar 3)))
  (sSeq (sIf (tBl (eOp2 pEq (eVar 1) (eC (.int 1)))) (sSeq (sSet 3 (eOp2 pSub (eVar 3) (eCallF 2 sp_law_take (cIo 0 (cCons (eC (.int 2)) cNil)))))
  (sRet (eTup (aCons (eC (.str "turned")) (aCons (eVar 3) (aCons (eCallF 2 sp_law_take (cIo 0 (cCons (eOp2 pIx (eCallF 0 sp_law_powers cNil) (eVar 3)) cNil))) aNil)))))) sNext)
  (sRet (eTup (aCons (eC (.str "register")) (aCons (eVar 3) (aCons (eOp2 pAdd (eOp2 pDiv (eVar 4) (eC (.int 2))) (eCallF 2 sp_law_take (cIo 0 (cCons (eOp2 pDiv (eVar 4) (eC (.int 2))) cNil)))) (aCons (eOp2 pAdd (eC (.int 1)) (eCallF 2 sp_law_take (cIo 0 (cCons (eOp2 pSub (eVar 4) (eC (.int 1))) cNil)))) aNil))))))))))))
def b_maker_a (sp_law_plain : DSp) (sp_law_round : DSp) (sp_law_take : DSp) : DTS :=
  (sSeq (sSet 2 (eCallF 1 sp_law_plain (cIo 0 cNil)))
  (sSeq (sFor (iR1 (aCons (eOp2 pIx (eFrz (oLst (aCons (eC (.int 0)) (aCons (eC (.int 1)) (aCons (eC (.int 2)) (aCons (eC (.int 3)) aNil)))))) (eCallF 2 sp_law_take (cIo 0 (cCons (eC (.int 4)) cNil)))) aNil)) (gNm 3) (sSeq (sSet 4 (eOp2 pIx (eFrz (oLst (aCons (eC (.str "slow")) (aCons (eC (.str "slip")) (aCons (eC (.str "late")) aNil))))) (eCallF 2 sp_law_take (cIo 0 (cCons (eC (.int 3)) cNil)))))
  (sSeq (sSet 5 (eOp2 pAdd (eC (.int 1)) (eCallF 2 sp_law_take (cIo 0 (cCons (eOp2 pIx (eFrz (oLst (aCons (eC (.int 4)) (aCons (eC (.int 9)) (aCons (eC (.int 64)) aNil))))) (eCallF 2 sp_law_take (cIo 0 (cCons (eC (.int 3)) cNil)))) cNil)))))
  (sSeq (sSet 6 (eTup (aCons (eVar 4) (aCons (eOp2 pSub (eVar 5) (eOp2 pMul (eCall pInt (aCons (eOp2 pEq (eVar 4) (eC (.str "late"))) aNil)) (eCallF 2 sp_law_take (cIo 0 (cCons (eC (.int 2)) cNil))))) (aCons (eVar 2) aNil)))))
  (sIf (tBl (eOp2 pLe (eCallF 1 sp_law_round (cCons (eVar 6) cNil)) (eVar 1))) (sSet 2 (eVar 6)) sNext)))))
  (sRet (eVar 2))))
def pows : List Int := [1, 2, 4, 8, 16, 32, 64]
def sp_powers_a : DSp := fun cs post => cs = [] ∧ post (.sh (.list (pows.map PyData.int))) []
theorem p_powers_a (cs post) (h : sp_powers_a cs post) : runD 0 b_powers_a cs post := by
  obtain ⟨rfl, q⟩ := h
  exact ⟨sz7, q⟩
theorem at_pows {w : Nat} (h : w ≤ 6) : atI (pows.map PyData.int) (w : Int) = some (.int (2 ^ w : Nat)) := by
  rcases (by omega : w = 0 ∨ w = 1 ∨ w = 2 ∨ w = 3 ∨ w = 4 ∨ w = 5 ∨ w = 6) with rfl | rfl | rfl | rfl | rfl | rfl | rfl <;> rfl
theorem cut_pows {w : Nat} (h : w ≤ 6) : cutD (pows.map PyData.int) none (some (w : Int)) = (List.range w).map fun i => PyData.int (2 ^ i : Nat) := by
  rcases (by omega : w = 0 ∨ w = 1 ∨ w = 2 ∨ w = 3 ∨ w = 4 ∨ w = 5 ∨ w = 6) with rfl | rfl | rfl | rfl | rfl | rfl | rfl <;> rfl
theorem rev_pows {w : Nat} (h : w ≤ 6) : ((List.range w).map fun i => PyData.int (2 ^ i : Nat)).reverse = (List.range w).map fun i => PyData.int (2 ^ (w - 1 - i) : Nat) := by
  rcases (by omega : w = 0 ∨ w = 1 ∨ w = 2 ∨ w = 3 ∨ w = 4 ∨ w = 5 ∨ w = 6) with rfl | rfl | rfl | rfl | rfl | rfl | rfl <;> rfl
theorem zipD_same {α : Type} (g h : α → D) : ∀ xs : List α, zipD (xs.map g) (xs.map h) = xs.map fun x => .tuple [g x, h x]
  | [] => rfl
  | x :: xs => by
    show _ :: zipD (xs.map g) (xs.map h) = _
    rw [zipD_same g h xs]; rfl
theorem sum_cast {α : Type} (f : α → Nat) : ∀ xs : List α, (xs.map fun x => ((f x : Nat) : Int)).sum = ((xs.map f).sum : Nat)
  | [] => rfl
  | x :: xs => by rw [List.map_cons, List.sum_cons, sum_cast f xs, List.map_cons, List.sum_cons, Int.natCast_add]
theorem rev_sum : ∀ (w x : Nat), ((List.range w).map fun i => x / 2 ^ i % 2 * 2 ^ (w - 1 - i)).sum = rev w x
  | 0, _ => rfl
  | w + 1, x => by
    rw [List.range_succ_eq_map, List.map_cons, List.sum_cons, List.map_map]
    unfold rev
    rw [← rev_sum w (x / 2)]
    congr 1
    · simp
    · congr 1
      apply List.map_congr_left
      intro i hi
      have := List.mem_range.1 hi
      show x / 2 ^ (i + 1) % 2 * 2 ^ (w + 1 - 1 - (i + 1)) = x / 2 / 2 ^ i % 2 * 2 ^ (w - 1 - i)
      rw [Nat.pow_succ, Nat.mul_comm (2 ^ i), ← Nat.div_div_eq_div_mul, show w + 1 - 1 - (i + 1) = w - 1 - i by omega]
theorem odds_sum : ∀ (w a b : Nat), ((List.range w).map fun i => a / 2 ^ i % 2 * (b / 2 ^ i % 2)).sum = odds w a b
  | 0, _, _ => rfl
  | w + 1, a, b => by
    rw [List.range_succ_eq_map, List.map_cons, List.sum_cons, List.map_map]
    unfold odds
    rw [← odds_sum w (a / 2) (b / 2)]
    congr 1
    · simp
    · congr 1
      apply List.map_congr_left
      intro i hi
      show a / 2 ^ (i + 1) % 2 * (b / 2 ^ (i + 1) % 2) = _
      rw [Nat.pow_succ, Nat.mul_comm (2 ^ i), ← Nat.div_div_eq_div_mul, ← Nat.div_div_eq_div_mul]
theorem any_ints (ns : List Int) (x : Int) : ((ns.map PyData.int).any fun z => PyData.eqv z (.int x)) = decide (x ∈ ns) := by
  induction ns with
  | nil => rfl
  | cons n ns ih =>
    rw [List.map_cons, List.any_cons, ih]
    show ((n == x) || _) = _
    by_cases h : n = x
    · subst h; simp
    · have h2 : x ≠ n := fun z => h z.symm
      simp [h, h2]
theorem flat_all_ints (ns : List Int) : (ns.map PyData.int).all flatD = true := by
  rw [List.all_map, List.all_eq_true]
  intro n _
  rfl
def cb (n s b : Nat) (i : Nat) : Int := ((b : Int) + s * (i : Nat)) % n
theorem cb_next (n s b i : Nat) : (cb n s b i + s) % n = cb n s b (i + 1) := by
  unfold cb
  rw [Int.emod_add_emod, Int.natCast_add, Int.mul_add]
  congr 1
  simp
  omega
theorem range_map_last {α : Type} (f : Nat → α) {i : Nat} (h : 0 < i) : (List.range i).map f = (List.range (i - 1)).map f ++ [f (i - 1)] := by
  obtain ⟨j, rfl⟩ : ∃ j, i = j + 1 := ⟨i - 1, by omega⟩
  rw [List.range_succ, List.map_append]
  rfl
def sp_base_a : DSp := fun cs post => ∃ m : Mk, cs = [.sh (mD m)] ∧ m.Ok ∧ m.plain = true ∧ post (.sh (.list (m.base.map PyData.int))) []
theorem p_base_a (cs post) (h : sp_base_a cs post) : runD 9 (b_base_a sp_powers_a) cs post := by
  obtain ⟨m, rfl, ok, hp, q⟩ := h
  have hbig := line_big
  cases m with
  | table ns => exact q
  | counter n s b =>
    have n1 := ok.1
    have n2 := ok.2.1
    have eb : cb n s b 0 = b := by
      unfold cb
      have := ok.2.2.2.2.1
      rw [Int.natCast_zero, Int.mul_zero, Int.add_zero, Int.emod_eq_of_lt (by omega) (by omega)]
    refine ⟨sz1, ?_⟩
    refine ⟨fun μ r => ∃ i : Nat, 1 ≤ i ∧ i ≤ n ∧ μ = n - i ∧ r = [some (.sh (mD (.counter n s b))), none, some (.own (.lst (((List.range i).map (cb n s b)).map PyData.int))), none, none, none, none, none, none], ⟨_, 1, Nat.le_refl _, n1, rfl, ?_⟩, ?_⟩
    · show [_, _, _, _, _, _, _, _, _] = [_, _, some (Cell.own (.lst [PyData.int (cb n s b 0)])), _, _, _, _, _, _]
      rw [eb]
    rintro μ r ⟨i, i1, i2, rfl, rfl⟩
    have el : (((List.range i).map (cb n s b)).map PyData.int).length = i := by rw [List.length_map, List.length_map, List.length_range]
    have ea : atI (((List.range i).map (cb n s b)).map PyData.int) (-1) = some (.int (cb n s b (i - 1))) := by
      rw [range_map_last _ i1, List.map_append]
      exact at_last _ _
    refine ifD (fun h => ?_) (fun h => ?_)
    · rw [el] at h
      refine ⟨rfl, rfl, optD_of ea ⟨?_, ?_, ?_⟩⟩
      · show (0 : Int) < (n : Int); omega
      · show (((List.range i).map (cb n s b)).map PyData.int).length < sizeLine
        rw [el]; omega
      · refine ⟨n - (i + 1), by omega, i + 1, by omega, by omega, rfl, ?_⟩
        rw [range_map_last _ (Nat.succ_pos i), List.map_append]
        have e : (cb n s b (i - 1) + s) % n = cb n s b i := by
          have := cb_next n s b (i - 1)
          rw [show i - 1 + 1 = i by omega] at this
          exact this
        rw [show i + 1 - 1 = i by omega, ← e]
        rfl
    · rw [el] at h
      have : i = n := by omega
      subst this
      exact q
  | turned w b =>
    have w1 := ok.1
    have w2 := ok.2.1
    have p0 : 0 < 2 ^ w := Nat.pow_pos (by decide)
    have p64 : 2 ^ w ≤ 64 := Nat.le_trans (Nat.pow_le_pow_right (by decide) w2) (by decide)
    refine ⟨rfl, .nil, rfl, optD_of (at_pows w2) ⟨sz0, rfl, sz2, ?_⟩⟩
    refine ⟨by omega, by omega, ?_⟩
    rw [Int.toNat_natCast]
    refine rng_on 0 (2 ^ w) [1, 2, 5] _ (fun i cs => ∃ c1 c5, cs = [c1, some (.own (.lst (((List.range i).map fun t => ((rev w ((b + t) % 2 ^ w) : Nat) : Int)).map PyData.int))), c5]) ?_ ?_ ⟨_, _, rfl⟩
    · rintro i hi cs N ⟨c1, c5, rfl⟩ hN
      have ec := cut_pows w2
      have er := rev_pows w2
      generalize hx : (b + i) % 2 ^ w = x at *
      have ex : ((b : Int) + (0 + (i : Int))) % ((2 ^ w : Nat) : Int) = (x : Nat) := by
        rw [← hx, Int.natCast_emod, Int.natCast_add, Int.zero_add]
      refine ⟨rfl, .nil, rfl, ?_, ?_⟩
      · show (cutD (pows.map PyData.int) none (some (w : Int))).length ≤ sizeLine
        rw [ec, List.length_map, List.length_range]; omega
      show compD true [7] tYesD _ (cutD (pows.map PyData.int) none (some (w : Int))) [] _ _
      rw [ec]
      refine comp_mapA (List.range w) _ _ (fun j => .int (x / 2 ^ j % 2 : Nat)) (fun j hj q hq => ?_) ?_
      · have j6 : j < 6 := by have := List.mem_range.1 hj; omega
        have q0 : 0 < 2 ^ j := Nat.pow_pos (by decide)
        have q1 : 2 ^ j ≤ 64 := Nat.le_trans (Nat.pow_le_pow_right (by decide) (by omega : j ≤ 6)) (by decide)
        refine ⟨?_, DivOk.small (by omega) (by omega), two_pos, ?_⟩
        · show (0 : Int) < ((2 ^ w : Nat) : Int); omega
        · rw [ex]
          exact hq _ rfl
      · refine ⟨rfl, rfl, rfl, .nil, rfl, ?_⟩
        show (zipD ((List.range w).map fun j => PyData.int (x / 2 ^ j % 2 : Nat)) (cutD (pows.map PyData.int) none (some (w : Int))).reverse).length ≤ sizeLine ∧ compD false [8, 7] tYesD _ (zipD ((List.range w).map fun j => PyData.int (x / 2 ^ j % 2 : Nat)) (cutD (pows.map PyData.int) none (some (w : Int))).reverse) [] _ _
        rw [ec, er, zipD_same]
        refine ⟨by rw [List.length_map, List.length_range]; omega, ?_⟩
        refine comp_mapA (List.range w) _ _ (fun j => .int ((x / 2 ^ j % 2 * 2 ^ (w - 1 - j) : Nat) : Int)) (fun j hj q hq => ?_) ?_
        · refine ⟨rfl, MulOk.left ?_, ?_⟩
          · have : x / 2 ^ j % 2 < 2 := Nat.mod_lt _ (by decide)
            omega
          · rw [← Int.natCast_mul]
            exact hq _ rfl
        · refine ⟨(List.range w).map fun j => ((x / 2 ^ j % 2 * 2 ^ (w - 1 - j) : Nat) : Int), by rw [List.map_map]; rfl, ?_⟩
          rw [sum_cast, rev_sum]
          refine ⟨?_, ?_⟩
          · show (((List.range i).map fun t => ((rev w ((b + t) % 2 ^ w) : Nat) : Int)).map PyData.int).length < sizeLine
            rw [List.length_map, List.length_map, List.length_range]; omega
          · have e : ((List.range (i + 1)).map fun t => ((rev w ((b + t) % 2 ^ w) : Nat) : Int)).map PyData.int = ((List.range i).map fun t => ((rev w ((b + t) % 2 ^ w) : Nat) : Int)).map PyData.int ++ [.int (rev w x : Nat)] := by
              rw [List.range_succ, List.map_append, List.map_append, ← hx]
              rfl
            rw [e] at hN
            exact hN [_, _, _] ⟨_, _, rfl⟩
    · rintro cs ⟨c1, c5, rfl⟩
      exact q
  | register w t s =>
    have R : Reg w t s := ok
    have P := R.period
    have w2 := R.w2
    have p64 := two_pow R
    have p0 : 0 < 2 ^ w := Nat.pow_pos (by decide)
    refine ⟨rfl, .nil, rfl, sz0, rfl, ?_⟩
    refine ⟨fun μ r => ∃ (n : Nat) (c6 : Option Cell), μ = period w t s - n ∧ n ≤ period w t s ∧ r = [some (.sh (mD (.register w t s))), some (.sh (.list (cutD (pows.map PyData.int) none (some (w : Int))))), some (.own (.lst (((List.range n).map fun n => ((held w t s n : Nat) : Int)).map PyData.int))), some (.sh (.int (held w t s n : Nat))), none, none, c6, none, none], ⟨_, 0, none, rfl, Nat.zero_le _, rfl⟩, ?_⟩
    rintro μ r ⟨n, c6, rfl, hn, rfl⟩
    refine ⟨rfl, flat_all_ints _, ?_⟩
    show if (!((((List.range n).map fun n => ((held w t s n : Nat) : Int)).map PyData.int).any fun z => PyData.eqv z (.int (held w t s n : Nat)))) = true then _ else _
    rw [any_ints]
    refine ifN (fun hne => ?_) (fun he => ?_)
    · have hlt : n < period w t s := by
        rcases Nat.lt_or_ge n (period w t s) with z | z
        · exact z
        · exfalso
          have : n = period w t s := by omega
          subst this
          refine hne (List.mem_map.2 ⟨0, List.mem_range.2 P.2.1, ?_⟩)
          show ((s : Nat) : Int) = _
          rw [P.1]
      refine ⟨rfl, rfl, ?_, ?_⟩
      · show (((List.range n).map fun n => ((held w t s n : Nat) : Int)).map PyData.int).length < sizeLine
        rw [List.length_map, List.length_map, List.length_range]; omega
      show (cutD (pows.map PyData.int) none (some (w : Int))).length ≤ sizeLine ∧ compD true [7] tYesD _ (cutD (pows.map PyData.int) none (some (w : Int))) [] _ _
      rw [cut_pows w2]
      refine ⟨by rw [List.length_map, List.length_range]; omega, ?_⟩
      refine comp_mapA (List.range w) _ _ (fun j => .int ((held w t s n / 2 ^ j % 2 * (t / 2 ^ j % 2) : Nat) : Int)) (fun j hj q hq => ?_) ?_
      · have j6 : j < 6 := by have := List.mem_range.1 hj; omega
        have q0 : 0 < 2 ^ j := Nat.pow_pos (by decide)
        have q1 : 2 ^ j ≤ 64 := Nat.le_trans (Nat.pow_le_pow_right (by decide) (by omega : j ≤ 6)) (by decide)
        refine ⟨DivOk.small (by omega) (by omega), two_pos, DivOk.small (by omega) (by omega), two_pos, MulOk.left ?_, ?_⟩
        · have : held w t s n / 2 ^ j % 2 < 2 := Nat.mod_lt _ (by decide)
          omega
        · rw [Int.natCast_mul] at hq
          exact hq _ rfl
      · refine ⟨(List.range w).map fun j => ((held w t s n / 2 ^ j % 2 * (t / 2 ^ j % 2) : Nat) : Int), by rw [List.map_map]; rfl, two_pos, ?_⟩
        rw [sum_cast, odds_sum]
        refine ⟨MulOk.left (by decide), rfl, .nil, rfl, optD_of (at_pows w2) ⟨?_, ?_⟩⟩
        · show (0 : Int) < ((2 ^ w : Nat) : Int); omega
        · refine ⟨period w t s - (n + 1), by omega, n + 1, some (.sh (.int ((odds w (held w t s n) t : Nat) % 2))), rfl, hlt, ?_⟩
          rw [List.range_succ, List.map_append, List.map_append]
          have e : 2 * ((held w t s n : Nat) : Int) % ((2 ^ w : Nat) : Int) + ((odds w (held w t s n) t : Nat) : Int) % 2 = ((held w t s (n + 1) : Nat) : Int) := by
            show _ = ((next w t (held w t s n) : Nat) : Int)
            unfold next
            rw [Int.natCast_add, Int.natCast_emod, Int.natCast_emod, Int.natCast_mul]
            rfl
          rw [← e]
          rfl
    · have hmem : ((held w t s n : Nat) : Int) ∈ (List.range n).map fun n => ((held w t s n : Nat) : Int) := he
      obtain ⟨i, hi, e⟩ := List.mem_map.1 hmem
      have hi2 := List.mem_range.1 hi
      have e2 : held w t s i = held w t s (i + (n - i)) := by rw [show i + (n - i) = n by omega]; omega
      have e3 := R.back (n - i) i e2
      have hn2 : n = period w t s := by
        rcases Nat.lt_or_ge (n - i) (period w t s) with z | z
        · exact absurd e3 (P.2.2.2 _ (by omega) z)
        · omega
      subst hn2
      exact q
  | slow _ _ => cases hp
  | slip _ _ => cases hp
  | late _ _ => cases hp
end DL
end

section
set_option Elab.async false
set_option linter.all false
set_option maxRecDepth 100000
/-! ## makers, as the laws themselves reckon them: rounds, beats, tops, drawn ones -/
namespace DL
open PySem PySem.Spec PyProof.Rows L2 MK
def inner : Mk → Mk
  | .slow _ m => inner m
  | .slip _ m => inner m
  | .late _ m => inner m
  | m => m
theorem inner_ok : ∀ {m : Mk}, m.Ok → (inner m).Ok ∧ (inner m).plain = true
  | .slow _ m, h => inner_ok (m := m) h.2.2
  | .slip _ m, h => inner_ok (m := m) h.2.2
  | .late _ m, h => inner_ok (m := m) h.2
  | .counter _ _ _, h => ⟨h, rfl⟩
  | .turned _ _, h => ⟨h, rfl⟩
  | .register _ _ _, h => ⟨h, rfl⟩
  | .table _, h => ⟨h, rfl⟩
theorem inner_top : ∀ (m : Mk), (inner m).top = m.top
  | .slow _ m => inner_top m
  | .slip _ m => inner_top m
  | .late _ m => inner_top m
  | .counter _ _ _ => rfl
  | .turned _ _ => rfl
  | .register _ _ _ => rfl
  | .table _ => rfl
def sp_inner_a : DSp := fun cs post => ∃ m : Mk, cs = [.sh (mD m)] ∧ post (.sh (mD (inner m))) []
theorem p_inner_a (cs post) (h : sp_inner_a cs post) : runD 1 b_inner_a cs post := by
  obtain ⟨m, rfl, q⟩ := h
  refine ⟨fun μ r => ∃ m' : Mk, r = [some (.sh (mD m'))] ∧ inner m' = inner m ∧ m'.wraps = μ, ⟨_, m, rfl, rfl, rfl⟩, ?_⟩
  rintro μ r ⟨m', rfl, e, rfl⟩
  cases m' with
  | slow k m' => exact ⟨sz3, rfl, rfl, bT (by decide +kernel) ⟨m'.wraps, Nat.lt_succ_self _, m', rfl, e, rfl⟩⟩
  | slip k m' => exact ⟨sz3, rfl, rfl, bT (by decide +kernel) ⟨m'.wraps, Nat.lt_succ_self _, m', rfl, e, rfl⟩⟩
  | late k m' => exact ⟨sz3, rfl, rfl, bT (by decide +kernel) ⟨m'.wraps, Nat.lt_succ_self _, m', rfl, e, rfl⟩⟩
  | counter a b c => rw [← e] at q; exact ⟨sz3, rfl, rfl, bF (by decide +kernel) q⟩
  | turned a b => rw [← e] at q; exact ⟨sz3, rfl, rfl, bF (by decide +kernel) q⟩
  | register a b c => rw [← e] at q; exact ⟨sz3, rfl, rfl, bF (by decide +kernel) q⟩
  | table a => rw [← e] at q; exact ⟨sz3, rfl, rfl, bF (by decide +kernel) q⟩
def sp_round_a : Nat → DSp
  | 0 => fun _ _ => False
  | k + 1 => fun cs post => ∃ m : Mk, cs = [.sh (mD m)] ∧ m.Ok ∧ m.wraps ≤ k ∧ post (.sh (.int (m.round : Nat))) []
theorem sp_round_a_none (cs post) (h : sp_round_a 0 cs post) : False := h
theorem p_round_a (k : Nat) (cs post) (h : sp_round_a (k + 1) cs post) : runD 2 (b_round_a sp_base_a sp_common_divisor (sp_round_a k)) cs post := by
  obtain ⟨m, rfl, ok, hw, q⟩ := h
  have hp : m.plain = true → post (.sh (.int ((m.base.map PyData.int).length : Nat))) [] := fun hp => by
    rw [List.length_map, base_len hp]; exact q
  cases m with
  | counter a b c => exact ⟨sz3, rfl, rfl, rfl, .nil, .counter a b c, rfl, ok, rfl, hp rfl⟩
  | turned a b => exact ⟨sz3, rfl, rfl, rfl, .nil, .turned a b, rfl, ok, rfl, hp rfl⟩
  | register a b c => exact ⟨sz3, rfl, rfl, rfl, .nil, .register a b c, rfl, ok, rfl, hp rfl⟩
  | table a => exact ⟨sz3, rfl, rfl, rfl, .nil, .table a, rfl, ok, rfl, hp rfl⟩
  | slow j m =>
    cases k with
    | zero => exact absurd hw (Nat.not_succ_le_zero _)
    | succ k =>
      have j1 := ok.2.1
      refine ⟨sz3, rfl, rfl, rfl, .nil, m, rfl, ok.2.2, Nat.le_of_succ_le_succ hw, MulOk.left (by omega), DivOk.small (by decide) (by decide), ?_⟩
      have e : (j : Int) * ((m.round : Nat) : Int) / 1 = ((Mk.round (.slow j m) : Nat) : Int) := by rw [Int.ediv_one, ← Int.natCast_mul]; rfl
      have q' := q
      rw [← e] at q'
      exact q'
  | slip j m =>
    cases k with
    | zero => exact absurd hw (Nat.not_succ_le_zero _)
    | succ k =>
      have r := round_pos ok.2.2
      have g1 : 0 < Nat.gcd m.round (j + 1) := Nat.gcd_pos_of_pos_left _ r
      have g2 : Nat.gcd m.round (j + 1) ≤ j + 1 := Nat.le_of_dvd (by omega) (Nat.gcd_dvd_right _ _)
      have j1 := ok.2.1
      have eg : Int.gcd ((m.round : Nat) : Int) ((j : Int) + 1) = Nat.gcd m.round (j + 1) := by
        rw [show ((j : Int) + 1) = ((j + 1 : Nat) : Int) by omega]; rfl
      refine ⟨sz3, rfl, rfl, rfl, .nil, m, rfl, ok.2.2, Nat.le_of_succ_le_succ hw, MulOk.left (by omega), rfl, .nil, _, _, rfl, DivOk.small ?_ ?_, ?_⟩
      · rw [eg]; omega
      · rw [eg]; omega
      · have e : (j : Int) * ((m.round : Nat) : Int) / ((Int.gcd ((m.round : Nat) : Int) ((j : Int) + 1) : Nat) : Int) = ((Mk.round (.slip j m) : Nat) : Int) := by
          rw [eg, ← Int.natCast_mul, ← Int.natCast_ediv, Nat.mul_div_assoc _ (Nat.gcd_dvd_left _ _)]; rfl
        have q' := q
        rw [← e] at q'
        exact q'
  | late j m =>
    cases k with
    | zero => exact absurd hw (Nat.not_succ_le_zero _)
    | succ k => exact ⟨sz3, rfl, rfl, rfl, .nil, m, rfl, ok.2, Nat.le_of_succ_le_succ hw, q⟩
def sp_beat_a : Nat → DSp
  | 0 => fun _ _ => False
  | k + 1 => fun cs post => ∃ (m : Mk) (t : Int), cs = [.sh (mD m), .sh (.list ((inner m).base.map PyData.int)), .sh (.int t)] ∧ m.Ok ∧ m.wraps ≤ k ∧ post (.sh (.int (m.val t))) []
theorem sp_beat_a_none (cs post) (h : sp_beat_a 0 cs post) : False := h
theorem p_beat_a (k : Nat) (cs post) (h : sp_beat_a (k + 1) cs post) : runD 3 (b_beat_a (sp_beat_a k)) cs post := by
  obtain ⟨m, t, rfl, ok, hw, q⟩ := h
  have hp : ∀ (hp : m.plain = true), (0 : Int) < ((m.base.map PyData.int).length : Nat) ∧ atI (m.base.map PyData.int) (t % ((m.base.map PyData.int).length : Nat)) = some (.int (m.val t)) := fun hp => by
    have := at_nums_mod ok t
    rw [nums_base hp] at this
    refine ⟨?_, this⟩
    rw [List.length_map, base_len hp]
    have := round_pos ok
    omega
  cases m with
  | counter n s b => exact ⟨(hp rfl).1, optD_of (hp rfl).2 q⟩
  | turned w b => exact ⟨(hp rfl).1, optD_of (hp rfl).2 q⟩
  | register w t s => exact ⟨(hp rfl).1, optD_of (hp rfl).2 q⟩
  | table ns => exact ⟨(hp rfl).1, optD_of (hp rfl).2 q⟩
  | slow j m =>
    cases k with
    | zero => exact absurd hw (Nat.not_succ_le_zero _)
    | succ k =>
      have j0 := ok.1
      have j1 := ok.2.1
      exact ⟨DivOk.small (by omega) (by omega), rfl, .nil, m, _, rfl, ok.2.2, Nat.le_of_succ_le_succ hw, q⟩
  | slip j m =>
    cases k with
    | zero => exact absurd hw (Nat.not_succ_le_zero _)
    | succ k =>
      have j0 := ok.1
      have j1 := ok.2.1
      exact ⟨DivOk.small (by omega) (by omega), rfl, .nil, m, _, rfl, ok.2.2, Nat.le_of_succ_le_succ hw, q⟩
  | late j m =>
    cases k with
    | zero => exact absurd hw (Nat.not_succ_le_zero _)
    | succ k => exact ⟨rfl, .nil, m, _, rfl, ok.2, Nat.le_of_succ_le_succ hw, q⟩
def sp_top_a : DSp := fun cs post => ∃ m : Mk, cs = [.sh (mD m)] ∧ m.Ok ∧ post (.sh (.int m.top)) []
theorem p_top_a (cs post) (h : sp_top_a cs post) : runD 2 (b_top_a sp_inner_a sp_powers_a) cs post := by
  obtain ⟨m, rfl, ok, q⟩ := h
  obtain ⟨ok2, hp⟩ := inner_ok ok
  rw [← inner_top] at q
  refine ⟨rfl, .nil, m, rfl, ?_⟩
  have e2 : ∀ w : Nat, ((2 ^ w : Nat) : Int) = 2 ^ w := fun w => by rw [Int.natCast_pow]; rfl
  generalize inner m = m at *
  cases m with
  | counter n s b => exact q
  | turned w b => exact ⟨rfl, .nil, rfl, optD_of (at_pows ok2.2.1) (by rw [e2]; exact q)⟩
  | register w t s => exact ⟨rfl, .nil, rfl, optD_of (at_pows (Reg.w2 ok2)) (by rw [e2]; exact q)⟩
  | table ns =>
    refine ⟨ns, rfl, ok2.1, fun m hm hmax => ?_⟩
    have hne : ns ≠ [] := fun z => by have := ok2.1; rw [z] at this; simp at this
    have e : m = maxI ns := by
      have h1 := hmax _ (maxI_in hne fun x hx => (ok2.2.2 x hx).1)
      have h2 := maxI_le hm
      omega
    rw [e]
    exact q
  | slow _ _ => cases hp
  | slip _ _ => cases hp
  | late _ _ => cases hp
end DL
end

section
set_option Elab.async false
set_option linter.all false
set_option maxRecDepth 100000
/-! ## drawn makers (one way) -/
namespace DL
open PySem PySem.Spec PyProof.Rows L2 MK
def sp_plain_a : DSp := fun cs post => ∃ (m : M) (B : Int), cs = [.io m] ∧ Box B m ∧ B + 70 < farB ∧ ∀ (k : Mk) m', k.Ok → k.plain = true → Box (B + 70) m' → post (.sh (mD k)) [m']
theorem b2i {b : Bool} : 0 ≤ (if b = true then (1 : Int) else 0) ∧ (if b = true then (1 : Int) else 0) < 2 := by split <;> omega
theorem filter_at {n : Nat} {p : Nat → Bool} {f : Nat → D} {i : Int} (h0 : 0 ≤ i) (h1 : i < (((List.range n).filter p).map f).length) : ∃ j, j < n ∧ p j = true ∧ atI (((List.range n).filter p).map f) i = some (f j) := by
  have hl : i.toNat < ((List.range n).filter p).length := by rw [List.length_map] at h1; omega
  have hm := List.getElem_mem hl
  have := List.mem_filter.1 hm
  refine ⟨((List.range n).filter p)[i.toNat], List.mem_range.1 this.1, this.2, ?_⟩
  rw [at_in h0 h1, List.getElem_map]
theorem steps_pos {n : Nat} (h : 1 ≤ n) (f : Nat → D) : 0 < (((List.range n).filter fun i : Nat => decide (Int.gcd (1 + (i : Int)) (n : Int) = 1)).map f).length := by
  rw [List.length_map]
  refine List.length_pos_of_mem (a := 0) (List.mem_filter.2 ⟨List.mem_range.2 (by omega), ?_⟩)
  have e : Int.gcd (1 + ((0 : Nat) : Int)) (n : Int) = 1 := by
    show Int.gcd ((1 : Nat) : Int) (n : Int) = 1
    exact Nat.gcd_one_left n
  rw [e]; rfl
theorem gcd_step1 {n i : Nat} (h : decide (Int.gcd (1 + (i : Int)) (n : Int) = 1) = true) : Nat.gcd n (1 + i) = 1 := by
  have h1 := of_decide_eq_true h
  rw [show (1 + (i : Int)) = ((1 + i : Nat) : Int) by omega] at h1
  rw [Nat.gcd_comm]
  exact h1
theorem mk_table {n : Nat} {vs : List D} (h1 : 1 ≤ n) (h2 : n ≤ 64) (hl : vs.length = n) (hP : ∀ v ∈ vs, ∃ x : Int, v = .int x ∧ 0 ≤ x ∧ x ≤ 63) : ∃ ns : List Int, vs = ns.map PyData.int ∧ (Mk.table ns).Ok := by
  have : ∃ ns : List Int, vs = ns.map PyData.int ∧ ∀ x ∈ ns, 0 ≤ x ∧ x ≤ 63 := by
    clear hl
    induction vs with
    | nil => exact ⟨[], rfl, fun x h => by cases h⟩
    | cons v vs ih =>
      obtain ⟨x, rfl, hx⟩ := hP v List.mem_cons_self
      obtain ⟨ns, rfl, hn⟩ := ih fun w hw => hP w (List.mem_cons_of_mem _ hw)
      refine ⟨x :: ns, rfl, fun y hy => ?_⟩
      rcases List.mem_cons.1 hy with rfl | hy
      · exact hx
      · exact hn y hy
  obtain ⟨ns, rfl, hn⟩ := this
  rw [List.length_map] at hl
  exact ⟨ns, rfl, by omega, by omega, hn⟩
theorem at_powsI {i : Int} (h0 : 0 ≤ i) (h : i ≤ 6) : atI (pows.map PyData.int) i = some (.int (2 ^ i.toNat : Nat)) := by
  obtain ⟨w, rfl⟩ := Int.eq_ofNat_of_zero_le h0
  exact at_pows (by omega)
theorem p_plain_a (cs post) (h : sp_plain_a cs post) : runD 9 (b_plain_a sp_common_divisor sp_powers_a sp_take) cs post := by
  obtain ⟨m, B, rfl, bm, hB, q⟩ := h
  have hf : farB = 1099511627776 := by decide
  have hbig := line_big
  refine ⟨rfl, rfl, nd1 0, m, B, 4, rfl, bm, by omega, by decide, by decide, fun way m1 a1 z1 b1 => ?_⟩
  refine ⟨rfl, rfl, nd1 0, m1, _, 8, rfl, b1, by omega, by decide, by decide, fun v2 m2 a2 z2 b2 => ?_⟩
  refine ifD (fun h => ?_) (fun h => ?_)
  · refine ⟨rfl, rfl, nd1 0, m2, _, 16, rfl, b2, by omega, by decide, by decide, fun v3 m3 a3 z3 b3 => ?_⟩
    refine ⟨rfl, rfl, nd1 0, m3, _, 64, rfl, b3, by omega, by decide, by decide, fun v4 m4 a4 z4 b4 => ?_⟩
    refine ⟨sz2, at_pick [1 + v3, 1 + v4] 1 64 b2i.1 (by exact b2i.2) (by simp; omega) fun n hn1 hn2 => ?_⟩
    obtain ⟨n, rfl⟩ := Int.eq_ofNat_of_zero_le (show 0 ≤ n by omega)
    have en : ((n : Int) + 1 - 1).toNat = n := by omega
    refine ⟨by omega, by rw [rngD_len]; omega, ?_⟩
    rw [en]
    refine comp_filterA (List.range n) _ _ (fun i => decide (Int.gcd (1 + (i : Int)) (n : Int) = 1)) (fun i => .int (1 + (i : Int))) (fun i hi q q' h1 h2 => ?_) ?_
    · refine ⟨rfl, .nil, _, _, rfl, ?_⟩
      have e : (decide (((Int.gcd (1 + (i : Int)) (n : Int) : Nat) : Int) = 1)) = decide (Int.gcd (1 + (i : Int)) (n : Int) = 1) := by
        congr 1; exact propext ⟨fun z => by omega, fun z => by omega⟩
      refine ifD (fun h => ?_) (fun h => ?_)
      · exact h1 (by rw [← e]; exact decide_eq_true h) _ rfl
      · exact h2 (by rw [← e]; exact decide_eq_false h) _ rfl
    · have hpos := steps_pos (n := n) (by omega) (fun i => PyData.int (1 + (i : Int)))
      refine ⟨rfl, rfl, nd1 0, m4, _, _, rfl, b4, by omega, by omega, ?_, fun v5 m5 a5 z5 b5 => ?_⟩
      · have := List.length_filter_le (fun i : Nat => decide (Int.gcd (1 + (i : Int)) (n : Int) = 1)) (List.range n)
        rw [List.length_range] at this
        rw [List.length_map]; omega
      obtain ⟨j, hj, hp, e⟩ := filter_at a5 z5
      refine optD_of e ?_
      refine ⟨rfl, rfl, nd1 0, m5, _, _, rfl, b5, by omega, by omega, by omega, fun v6 m6 a6 z6 b6 => ?_⟩
      obtain ⟨b, rfl⟩ := Int.eq_ofNat_of_zero_le a6
      refine ⟨sz4, ?_⟩
      have q' := q (.counter n (1 + j) b) m6 ⟨by omega, by omega, by omega, by omega, by omega, gcd_step1 hp⟩ rfl (b6.le (by omega))
      rw [show (1 + (j : Int)) = ((1 + j : Nat) : Int) by omega]
      exact q'
  refine ifD (fun h3 => ?_) (fun h3 => ?_)
  · refine ⟨rfl, rfl, nd1 0, m2, _, 8, rfl, b2, by omega, by decide, by decide, fun v3 m3 a3 z3 b3 => ?_⟩
    refine ⟨rfl, rfl, nd1 0, m3, _, 64, rfl, b3, by omega, by decide, by decide, fun v4 m4 a4 z4 b4 => ?_⟩
    refine ⟨sz2, at_pick [1 + v3, 1 + v4] 1 64 b2i.1 (by exact b2i.2) (by simp; omega) fun n hn1 hn2 => ?_⟩
    obtain ⟨n, rfl⟩ := Int.eq_ofNat_of_zero_le (show 0 ≤ n by omega)
    refine ⟨sz3, rfl, rfl, nd1 0, m4, _, 3, rfl, b4, by omega, by decide, by decide, fun v5 m5 a5 z5 b5 => ?_⟩
    refine at_pick [2, 6, 64] 2 64 a5 (by exact z5) (by simp) fun most hm1 hm2 => ?_
    refine ⟨by omega, by omega, by rw [rngD_len]; omega, ?_⟩
    rw [Int.toNat_natCast]
    refine comp_takes (rngD 0 n) (B + 5) (fun d => ∃ x : Int, d = .int x ∧ 0 ≤ x ∧ x ≤ 63) (fun m => [some (.io m), some (.sh (.int way)), some (.sh (.bool (decide (v2 = 0)))), none, some (.sh (.int n)), none, some (.sh (.int most)), none, none]) m5 (b5.le (by omega)) (fun d hd k m q hk1 hk2 hb hq => ?_) (fun vs m' hl hP hb' => ?_)
    · obtain ⟨i, rfl, _⟩ := rng_mem _ _ _ hd
      rw [rngD_len] at hk2
      refine ⟨rfl, rfl, nd1 0, m, k, _, rfl, hb, by omega, by omega, by omega, fun v m2 a2 z2 b2 => ?_⟩
      exact hq _ m2 ⟨v, rfl, a2, by omega⟩ b2 _ rfl
    · rw [rngD_len] at hl hb'
      obtain ⟨ns, rfl, ok⟩ := mk_table (by omega) (by omega) hl hP
      exact ⟨sz2, q (.table ns) m' ok rfl (hb'.le (by omega))⟩
  refine ⟨rfl, sz2, at_pick [3, 5] 3 5 b2i.1 (by exact b2i.2) (by simp) fun lo hlo1 hlo2 => ?_⟩
  refine ⟨rfl, nd1 0, m2, _, lo, rfl, b2, by omega, by omega, by omega, fun v3 m3 a3 z3 b3 => ?_⟩
  have hw : (((2 + v3).toNat : Nat) : Int) = 2 + v3 := by omega
  have hw6 : (2 + v3).toNat ≤ 6 := by omega
  have hw2 : 2 ≤ (2 + v3).toNat := by omega
  refine ⟨rfl, .nil, rfl, optD_of (at_powsI (by omega) (by omega)) ?_⟩
  generalize (2 + v3).toNat = w at *
  have p1 : 2 ≤ 2 ^ w := Nat.le_trans (by decide : 2 ≤ 2 ^ 2) (Nat.pow_le_pow_right (by decide) (by omega))
  have p64 : 2 ^ w ≤ 64 := Nat.le_trans (Nat.pow_le_pow_right (by decide) (by omega : w ≤ 6)) (by decide)
  refine ifD (fun h4 => ?_) (fun h4 => ?_)
  · refine ⟨rfl, rfl, nd1 0, m3, _, 2, rfl, b3, by omega, by decide, by decide, fun v4 m4 a4 z4 b4 => ?_⟩
    have hu : (((2 + v3 - v4).toNat : Nat) : Int) = 2 + v3 - v4 := by omega
    have hu6 : (2 + v3 - v4).toNat ≤ 6 := by omega
    have hu1 : 1 ≤ (2 + v3 - v4).toNat := by omega
    refine ⟨rfl, rfl, .nil, rfl, optD_of (at_powsI (by omega) (by omega)) ?_⟩
    generalize (2 + v3 - v4).toNat = u at *
    have r0 : 0 < 2 ^ u := Nat.pow_pos (by decide)
    have r64 : 2 ^ u ≤ 64 := Nat.le_trans (Nat.pow_le_pow_right (by decide) (by omega : u ≤ 6)) (by decide)
    refine ⟨rfl, nd1 0, m4, _, _, rfl, b4, by omega, by omega, by omega, fun v5 m5 a5 z5 b5 => ?_⟩
    obtain ⟨b, rfl⟩ := Int.eq_ofNat_of_zero_le a5
    have q' := q (.turned u b) m5 ⟨by omega, by omega, by omega⟩ rfl (b5.le (by omega))
    unfold mD at q'
    rw [hu] at q'
    exact ⟨sz3, q'⟩
  · have eh : ((2 ^ w : Nat) : Int) / 2 = ((2 ^ (w - 1) : Nat) : Int) := by
      obtain ⟨u, rfl⟩ : ∃ u, w = u + 1 := ⟨w - 1, by omega⟩
      rw [Nat.pow_succ]; simp
    have e2 : 2 ^ w = 2 * 2 ^ (w - 1) := by
      obtain ⟨u, rfl⟩ : ∃ u, w = u + 1 := ⟨w - 1, by omega⟩
      rw [Nat.pow_succ, Nat.add_sub_cancel, Nat.mul_comm]
    refine ⟨DivOk.small (by decide) (by decide), rfl, DivOk.small (by decide) (by decide), ?_⟩
    refine ⟨rfl, nd1 0, m3, _, _, rfl, b3, by omega, by omega, by omega, fun v4 m4 a4 z4 b4 => ?_⟩
    refine ⟨rfl, rfl, nd1 0, m4, _, _, rfl, b4, by omega, by omega, by omega, fun v5 m5 a5 z5 b5 => ?_⟩
    obtain ⟨t, rfl⟩ := Int.eq_ofNat_of_zero_le a4
    obtain ⟨s, rfl⟩ := Int.eq_ofNat_of_zero_le a5
    refine ⟨sz4, ?_⟩
    have q' := q (.register w (2 ^ (w - 1) + t) (1 + s)) m5 ⟨by omega, by omega, by omega, by omega, by omega, by omega⟩ rfl (b5.le (by omega))
    have e3 : (((2 ^ (w - 1) + t : Nat) : Int)) = ((2 ^ w : Nat) : Int) / 2 + (t : Int) := by omega
    have e4 : (((1 + s : Nat) : Int)) = 1 + (s : Int) := by omega
    unfold mD at q'
    rw [e3, e4, hw] at q'
    exact q'
/-! ### wrapped -/
/-- all rounds within are at most so many -/
def _root_.MK.Mk.In (n : Int) : Mk → Prop
  | .slow k m => ((k * m.round : Nat) : Int) ≤ n ∧ m.In n
  | .slip k m => ((k * (m.round / Nat.gcd m.round (k + 1)) : Nat) : Int) ≤ n ∧ m.In n
  | .late _ m => m.In n
  | m => (m.round : Int) ≤ n
def sp_maker_b : DSp := fun cs post => ∃ (m : M) (B most : Int), cs = [.io m, .sh (.int most)] ∧ Box B m ∧ B + 100 < farB ∧ 64 ≤ most ∧ most ≤ 4096 ∧ ∀ (k : Mk) m', k.Ok → k.Sm → k.wraps ≤ 3 → (k.round : Int) ≤ most → k.In most → Box (B + 100) m' → post (.sh (mD k)) [m']
def sp_maker_a : DSp := fun cs post => ∃ (m : M) (B most : Int), cs = [.io m, .sh (.int most)] ∧ Box B m ∧ B + 100 < farB ∧ 64 ≤ most ∧ most ≤ 4096 ∧ ∀ (k : Mk) m', k.Ok → k.Sm → k.wraps ≤ 3 → (k.round : Int) ≤ most → Box (B + 100) m' → post (.sh (mD k)) [m']
theorem p_maker_b (cs post) (h : sp_maker_b cs post) : runD 7 (b_maker_a sp_plain_a (sp_round_a 4) sp_take) cs post := by
  obtain ⟨m, B, most, rfl, bm, hB, hm1, hm2, q⟩ := h
  have hf : farB = 1099511627776 := by decide
  have hbig := line_big
  refine ⟨rfl, rfl, nd1 0, m, B, rfl, bm, by omega, fun k m1 ok hp b1 => ?_⟩
  refine ⟨sz4, rfl, rfl, nd1 0, m1, _, 4, rfl, b1, by omega, by decide, by decide, fun v2 m2 a2 z2 b2 => ?_⟩
  refine at_pick [0, 1, 2, 3] 0 3 a2 (by exact z2) (by simp) fun n hn1 hn2 => ?_
  refine ⟨by omega, by omega, ?_⟩
  have sm : k.Sm := by cases k <;> first | trivial | cases hp
  have hr := round_plain ok hp
  have hw : k.wraps = 0 := by cases k <;> first | rfl | cases hp
  have hin : k.In most := by cases k <;> first | (show (_ : Int) ≤ most; omega) | cases hp
  refine rng_on 0 n.toNat [0, 2, 3, 4, 5, 6] _ (fun i cs => ∃ (m : M) (k : Mk) (c3 c4 c5 c6 : Option Cell), cs = [some (.io m), some (.sh (mD k)), c3, c4, c5, c6] ∧ k.Ok ∧ k.Sm ∧ k.wraps ≤ i ∧ (k.round : Int) ≤ most ∧ k.In most ∧ Box (B + 71 + 4 * i) m) ?_ ?_ ⟨m2, k, _, _, _, _, rfl, ok, sm, by omega, by omega, hin, b2.le (by omega)⟩
  · rintro i hi cs N ⟨m, k, c3, c4, c5, c6, rfl, ok, sm, hw, hr, hin, bm⟩ hN
    have fin : ∀ (raw : D) (mk : Mk) (m4 : M) (c3 c4 c5 : Option Cell) (E : DEnds), E.nx = N → raw = mD mk → mk.Ok → mk.wraps ≤ i + 1 → ((mk.round : Int) ≤ most → mk.Sm ∧ mk.In most) → Box (B + 71 + 4 * (i + 1)) m4 →
        (sIf (tBl (eOp2 pLe (eCallF 1 (sp_round_a 4) (cCons (eVar 6) cNil)) (eVar 1))) (sSet 2 (eVar 6)) sNext) E [some (.io m4), some (.sh (.int most)), some (.sh (mD k)), c3, c4, c5, some (.sh raw)] := by
      rintro raw mk m4 c3 c4 c5 E hE rfl ok' hw' hs b4
      refine ⟨rfl, .nil, mk, rfl, ok', (show mk.wraps ≤ 3 by omega), ?_⟩
      refine ifD (fun h => ?_) (fun h => ?_)
      · show E.nx _
        rw [hE]
        exact hN [_, _, _, _, _, _] ⟨m4, mk, _, _, _, _, rfl, ok', (hs h).1, hw', h, (hs h).2, b4⟩
      · show E.nx _
        rw [hE]
        exact hN [_, _, _, _, _, _] ⟨m4, k, _, _, _, _, rfl, ok, sm, by omega, hr, hin, b4⟩
    refine ⟨sz3, rfl, rfl, nd1 0, m, _, 3, rfl, bm, by omega, by decide, by decide, fun v1 m1 a1 z1 b1 => ?_⟩
    have words : ∀ {q : D → Prop}, (∀ d, (d = PyData.str "slow" ∨ d = PyData.str "slip" ∨ d = PyData.str "late") → q d) → optD (atI [PyData.str "slow", .str "slip", .str "late"] v1) q := fun {q} h =>
      at_all a1 (by exact z1) fun d hd => h d (by simpa using hd)
    refine words fun d hd => ?_
    refine ⟨rfl, sz3, rfl, rfl, nd1 0, m1, _, 3, rfl, b1, by omega, by decide, by decide, fun v2 m2 a2 z2 b2 => ?_⟩
    refine at_pick [4, 9, 64] 4 64 a2 (by exact z2) (by simp) fun w hw1 hw2 => ?_
    refine ⟨rfl, nd1 0, m2, _, w, rfl, b2, by omega, by omega, by omega, fun v3 m3 a3 z3 b3 => ?_⟩
    obtain ⟨v, rfl⟩ := Int.eq_ofNat_of_zero_le a3
    rcases hd with rfl | rfl | rfl
    · refine ⟨rfl, rfl, nd1 0, m3, _, 2, rfl, b3, by omega, by decide, by decide, fun v4 m4 a4 z4 b4 => ?_⟩
      refine ⟨MulOk.left (i := 0) (by decide), sz3, ?_⟩
      refine fin (.tuple [.str "slow", .int (1 + (v : Int) - 0 * v4), mD k]) (.slow (1 + v) k) m4 _ _ _ _ rfl ?_ ⟨by omega, by omega, ok⟩ (Nat.succ_le_succ hw) (fun h => ⟨⟨by have h' : (((1 + v) * k.round : Nat) : Int) ≤ most := h; omega, sm⟩, h, hin⟩) (b4.le (by omega))
      rw [show 1 + (v : Int) - 0 * v4 = ((1 + v : Nat) : Int) by omega]
      rfl
    · refine ⟨rfl, rfl, nd1 0, m3, _, 2, rfl, b3, by omega, by decide, by decide, fun v4 m4 a4 z4 b4 => ?_⟩
      refine ⟨MulOk.left (i := 0) (by decide), sz3, ?_⟩
      refine fin (.tuple [.str "slip", .int (1 + (v : Int) - 0 * v4), mD k]) (.slip (1 + v) k) m4 _ _ _ _ rfl ?_ ⟨by omega, by omega, ok⟩ (Nat.succ_le_succ hw) (fun h => ⟨⟨by have h' : (((1 + v) * (k.round / Nat.gcd k.round (1 + v + 1)) : Nat) : Int) ≤ most := h; omega, sm⟩, h, hin⟩) (b4.le (by omega))
      rw [show 1 + (v : Int) - 0 * v4 = ((1 + v : Nat) : Int) by omega]
      rfl
    · refine ⟨rfl, rfl, nd1 0, m3, _, 2, rfl, b3, by omega, by decide, by decide, fun v4 m4 a4 z4 b4 => ?_⟩
      refine ⟨MulOk.left (i := 1) (by decide), sz3, ?_⟩
      obtain ⟨u, hu⟩ := Int.eq_ofNat_of_zero_le (show 0 ≤ 1 + (v : Int) - 1 * v4 by omega)
      refine fin (.tuple [.str "late", .int (1 + (v : Int) - 1 * v4), mD k]) (.late u k) m4 _ _ _ _ rfl ?_ ⟨by omega, ok⟩ (Nat.succ_le_succ hw) (fun h => ⟨sm, hin⟩) (b4.le (by omega))
      rw [hu]
      rfl
  · rintro cs ⟨m, k, c3, c4, c5, c6, rfl, ok, sm, hw, hr, hin, bm⟩
    exact q k m ok sm (by omega) hr hin (bm.le (by omega))
theorem p_maker_a (cs post) (h : sp_maker_a cs post) : runD 7 (b_maker_a sp_plain_a (sp_round_a 4) sp_take) cs post := by
  obtain ⟨m, B, most, rfl, bm, hB, hm1, hm2, q⟩ := h
  exact p_maker_b _ _ ⟨m, B, most, rfl, bm, hB, hm1, hm2, fun k m' a b c d _ e => q k m' a b c d e⟩
end DL
end

section
set_option Elab.async false
set_option linter.all false
set_option maxRecDepth 100000
/-! ## a maker's round, top and numbers are right -/
namespace DL
open PySem PySem.Spec PyProof.Rows L2 MK
def b_right_a (sp_law_base : DSp) (sp_law_beat : DSp) (sp_law_inner : DSp) (sp_law_round : DSp) (sp_law_same : DSp) (sp_law_take : DSp) (sp_law_top : DSp) (sp_round_of : DSp) (sp_top_of : DSp) (sp_value_at : DSp) (sp_values_of : DSp) : DTS :=
  (sSeq (sAsg (eTup (aCons (eCallF 1 sp_law_round (cCons (eVar 1) cNil)) (aCons (eCallF 1 sp_law_base (cCons (eCallF 1 sp_law_inner (cCons (eVar 1) cNil)) cNil)) aNil))) (gTp' 2 (gsCons (gNm 2) (gsCons (gNm 3) gsNil))))
  (sSeq (sIf (tNt (tTru (eCallF 2 sp_law_same (cCons (eFrz (oLst (aCons (eCallF 1 sp_round_of (cCons (eVar 1) cNil)) (aCons (eCallF 1 sp_top_of (cCons (eVar 1) cNil)) aNil)))) (cCons (eFrz (oLst (aCons (eVar 2) (aCons (eCallF 1 sp_law_top (cCons (eVar 1) cNil)) aNil)))) cNil))))) (sRet (eC (.bool false))) sNext)
  (sSeq (sFor (iAny (eTup (aCons (eC (.int 1)) (aCons (eCall pMin2 (aCons (eVar 2) (aCons (eC (.int 400)) aNil))) (aCons (eCall pMin2 (aCons (eC (.int 4096)) (aCons (eOp2 pAdd (eOp2 pAdd (eVar 2) (eC (.int 1))) (eCallF 2 sp_law_take (cIo 0 (cCons (eC (.int 40)) cNil)))) aNil))) aNil))))) (gNm 4) (sSeq (sSetO 7 (oCallF 2 sp_values_of (cCons (eVar 1) (cCons (eVar 4) cNil))))
  (sSeq (sIf (tNt (tTru (eCallQ 2 sp_law_same (cIo 7 (cCons (eFrz (oComp true [6] (iR1 (aCons (eVar 4) aNil)) tYesD (eCallF 3 sp_law_beat (cCons (eVar 1) (cCons (eVar 3) (cCons (eVar 6) cNil)))))) cNil))))) (sRet (eC (.bool false))) sNext)
  (sDrop (eMutL 7 pApp (aCons (eC (.int 0)) aNil))))))
  (sSeq (sSet 5 (eOp2 pSub (eOp2 pPow (eC (.int 10)) (eC (.int 9))) (eCallF 2 sp_law_take (cIo 0 (cCons (eOp2 pSub (eOp2 pPow (eC (.int 10)) (eC (.int 9))) (eC (.int 5000))) cNil)))))
  (sSeq (sFor (iAny (eTup (aCons (eC (.int 0)) (aCons (eOp2 pSub (eVar 2) (eC (.int 1))) (aCons (eVar 2) (aCons (eOp2 pAdd (eVar 2) (eC (.int 1))) (aCons (eCallF 2 sp_law_take (cIo 0 (cCons (eC (.int 5000)) cNil))) (aCons (eVar 5) (aCons (eOp2 pPow (eC (.int 10)) (eC (.int 9))) aNil))))))))) (gNm 6) (sIf (tNt (tTru (eCallF 2 sp_law_same (cCons (eCallF 2 sp_value_at (cCons (eVar 1) (cCons (eVar 6) cNil))) (cCons (eCallF 3 sp_law_beat (cCons (eVar 1) (cCons (eVar 3) (cCons (eVar 6) cNil)))) cNil))))) (sRet (eC (.bool false))) sNext))
  (sRet (eC (.bool true))))))))
def sp_right_a : DSp := fun cs post => ∃ (b : M) (B : Int) (m : Mk), cs = [.io b, .sh (mD m)] ∧ Box B b ∧ B + 3 < farB ∧ m.Ok ∧ m.Sm ∧ m.wraps ≤ 3 ∧ m.round ≤ 4096 ∧ ∀ b', Box (B + 3) b' → post (.sh (.bool true)) [b']
theorem p_right_a (cs post) (h : sp_right_a cs post) : runD 8 (b_right_a sp_base_a (sp_beat_a 4) sp_inner_a (sp_round_a 4) (sp_same 3) sp_take sp_top_a (sp_round_of 4) (sp_top_of 4) (sp_value_at 4) sp_values_of) cs post := by
  obtain ⟨b, B, m, rfl, bb, hB, ok, sm, hw, hr, q⟩ := h
  have hf : farB = 1099511627776 := by decide
  have hbig := line_big
  have r0 := round_pos ok
  have e9 : (10 : Int) ^ (9 : Int).toNat = 1000000000 := by decide
  obtain ⟨ok2, hp2⟩ := inner_ok ok
  refine ⟨rfl, .nil, m, rfl, ok, hw, rfl, .nil, m, rfl, rfl, .nil, inner m, rfl, ok2, hp2, sz2, rfl, ?_⟩
  refine ⟨rfl, .nil, m, rfl, ok, hw, rfl, .nil, m, rfl, ok, hw, sz2, rfl, .nil, m, rfl, ok, sz2, rfl, .nil, _, rfl, ?_, ?_⟩
  · exact Pl.ints (k := 1) (ns := [((m.round : Nat) : Int), m.top]) (by show 2 < 2 ^ 24; decide)
  refine ⟨rfl, rfl, nd1 0, b, B, 40, rfl, bb, by omega, by decide, by decide, fun v1 b1 a1 z1 bb1 => ?_⟩
  refine ⟨sz3, ?_⟩
  have hds : ∀ d ∈ [PyData.int 1, .int (if (400 : Int) < ((m.round : Nat) : Int) then 400 else ((m.round : Nat) : Int)), .int (if ((m.round : Nat) : Int) + 1 + v1 < 4096 then ((m.round : Nat) : Int) + 1 + v1 else 4096)], ∃ n : Nat, d = .int (n : Nat) ∧ n ≤ 4096 := by
    intro d hd
    simp only [List.mem_cons, List.not_mem_nil, or_false] at hd
    rcases hd with rfl | rfl | rfl
    · exact ⟨1, rfl, by omega⟩
    · refine ⟨(if (400 : Int) < ((m.round : Nat) : Int) then 400 else ((m.round : Nat) : Int)).toNat, ?_, ?_⟩
      · congr 1; split <;> omega
      · split <;> omega
    · refine ⟨(if ((m.round : Nat) : Int) + 1 + v1 < 4096 then ((m.round : Nat) : Int) + 1 + v1 else 4096).toNat, ?_, ?_⟩
      · congr 1; split <;> omega
      · split <;> omega
  refine idx_on _ [4, 7] _ (fun i cs => ∃ c4 c7, cs = [c4, c7]) ?_ ?_ ⟨_, _, rfl⟩
  · rintro i hi cs N ⟨c4, c7, rfl⟩ hN
    obtain ⟨n, e, hn⟩ := hds _ (List.getElem_mem hi)
    have e' : ([PyData.int 1, .int (if (400 : Int) < ((m.round : Nat) : Int) then 400 else ((m.round : Nat) : Int)), .int (if ((m.round : Nat) : Int) + 1 + v1 < 4096 then ((m.round : Nat) : Int) + 1 + v1 else 4096)][i]'hi) = .int (n : Nat) := e
    rw [e']
    refine ⟨rfl, .nil, m, n, rfl, ok, sm, hw, by omega, ?_⟩
    refine ⟨rfl, by omega, by omega, by rw [rngD_len]; omega, ?_⟩
    rw [Int.toNat_natCast]
    refine comp_rng n _ (fun t => .int (m.val ((t : Nat) : Int))) (fun t ht q hq => ?_) ?_
    · exact ⟨rfl, .nil, m, _, rfl, ok, hw, hq _ rfl⟩
    · rw [vals_map]
      refine ⟨rfl, _, rfl, Pl.ints (by rw [vals_len]; omega), rfl, ?_⟩
      refine ⟨rfl, rfl, by rw [List.length_map, vals_len]; omega, ?_⟩
      exact hN [_, _] ⟨_, _, rfl⟩
  · rintro cs ⟨c4, c7, rfl⟩
    refine ⟨⟨by decide, by decide, by decide⟩, rfl, ⟨by decide, by decide, by decide⟩, rfl, nd1 0, b1, _, _, rfl, bb1, by omega, ?_, ?_, fun v2 b2 a2 z2 bb2 => ?_⟩
    · rw [e9]; decide
    · rw [e9]; decide
    refine ⟨rfl, rfl, nd1 0, b2, _, 5000, rfl, bb2, by omega, by decide, by decide, fun v3 b3 a3 z3 bb3 => ?_⟩
    refine ⟨⟨by decide, by decide, by decide⟩, sz7, ?_⟩
    have hds2 : ∀ d ∈ [PyData.int 0, .int (((m.round : Nat) : Int) - 1), .int ((m.round : Nat) : Int), .int (((m.round : Nat) : Int) + 1), .int v3, .int (10 ^ (9 : Int).toNat - v2), .int (10 ^ (9 : Int).toNat)], ∃ t : Int, d = .int t := by
      intro d hd
      simp only [List.mem_cons, List.not_mem_nil, or_false] at hd
      rcases hd with rfl | rfl | rfl | rfl | rfl | rfl | rfl <;> exact ⟨_, rfl⟩
    refine idx_on _ [6] _ (fun i cs => ∃ c6, cs = [c6]) ?_ ?_ ⟨_, rfl⟩
    · rintro i hi cs N ⟨c6, rfl⟩ hN
      obtain ⟨t, e⟩ := hds2 _ (List.getElem_mem hi)
      have e' : ([PyData.int 0, .int (((m.round : Nat) : Int) - 1), .int ((m.round : Nat) : Int), .int (((m.round : Nat) : Int) + 1), .int v3, .int (10 ^ (9 : Int).toNat - v2), .int (10 ^ (9 : Int).toNat)][i]'hi) = .int t := e
      rw [e']
      refine ⟨rfl, .nil, m, t, rfl, ok, hw, hw, rfl, .nil, m, t, rfl, ok, hw, rfl, .nil, _, rfl, Pl.int, ?_⟩
      exact hN [_] ⟨_, rfl⟩
    · rintro cs ⟨c6, rfl⟩
      exact q b3 (bb3.le (by omega))
end DL
end

section
set_option Elab.async false
set_option linter.all false
set_option maxRecDepth 100000
/-! ## rows of makers, as the laws reckon them -/
namespace DL
open PySem PySem.Spec PyProof.Rows L2 MK
def b_numbers_a (sp_law_base : DSp) (sp_law_beat : DSp) (sp_law_inner : DSp) : DTS :=
  (sSeq (sSet 2 (eCallF 1 sp_law_base (cCons (eCallF 1 sp_law_inner (cCons (eVar 0) cNil)) cNil)))
  (sRet (eFrz (oComp true [3] (iR1 (aCons (eVar 1) aNil)) tYesD (eCallF 3 sp_law_beat (cCons (eVar 0) (cCons (eVar 2) (cCons (eVar 3) cNil))))))))
def sp_numbers_a : DSp := fun cs post => ∃ (m : Mk) (n : Nat), cs = [.sh (mD m), .sh (.int (n : Nat))] ∧ m.Ok ∧ m.wraps ≤ 3 ∧ n < 2 ^ 22 ∧ post (.sh (.list ((vals m n).map PyData.int))) []
theorem p_numbers_a (cs post) (h : sp_numbers_a cs post) : runD 4 (b_numbers_a sp_base_a (sp_beat_a 4) sp_inner_a) cs post := by
  obtain ⟨m, n, rfl, ok, hw, hn, q⟩ := h
  have hbig := line_big
  obtain ⟨ok2, hp2⟩ := inner_ok ok
  refine ⟨rfl, .nil, m, rfl, rfl, .nil, inner m, rfl, ok2, hp2, by omega, by omega, by rw [rngD_len]; omega, ?_⟩
  rw [Int.toNat_natCast]
  rw [← vals_map] at q
  exact comp_rng n _ (fun t => .int (m.val ((t : Nat) : Int))) (fun t ht q hq => ⟨rfl, .nil, m, _, rfl, ok, hw, hq _ rfl⟩) q
theorem vals_take (m : Mk) {n k : Nat} (h : k ≤ n) : (vals m n).take k = vals m k := by
  apply List.ext_getElem
  · rw [List.length_take, vals_len, vals_len]; omega
  · intro i h1 h2
    rw [vals_len] at h2
    rw [List.getElem_take, vals_get m (by omega), vals_get m h2]
theorem rowI_take (m : Mk) (k : Int) {n j : Nat} (h : j ≤ n) : (rowI m k n).take j = rowI m k j := by
  unfold rowI
  rw [← List.map_take, vals_take m h]
theorem vals_add {m : Mk} (ok : m.Ok) (n : Nat) : vals m (m.round + n) = vals m m.round ++ vals m n := by
  apply List.ext_getElem
  · rw [List.length_append, vals_len, vals_len, vals_len]
  · intro i h1 h2
    rw [vals_len] at h1
    rcases Nat.lt_or_ge i m.round with h | h
    · rw [List.getElem_append_left (by rw [vals_len]; exact h), vals_get m h1, vals_get m h]
    · rw [List.getElem_append_right (by rw [vals_len]; exact h), vals_get m h1]
      have e : (vals m n)[i - (vals m m.round).length]'(by rw [vals_len, vals_len]; omega) = m.val ((i - m.round : Nat) : Int) := by
        simp only [vals_len]
        exact vals_get m (by omega)
      rw [e, ← val_add ok ((i - m.round : Nat) : Int)]
      congr 1
      omega
theorem rowI_add {m : Mk} (ok : m.Ok) (k : Int) (n : Nat) : rowI m k (m.round + n) = rowI m k m.round ++ rowI m k n := by
  unfold rowI
  rw [vals_add ok, List.map_append]
theorem rowI_sum_two {m : Mk} (ok : m.Ok) (k : Int) : (rowI m k (2 * m.round)).sum = 2 * (rowI m k m.round).sum := by
  rw [Nat.two_mul, rowI_add ok, List.sum_append_int]
  omega
theorem shaped_fD (x : Rat) : SeqAt.shaped (fD x) = true := shaped_tup [x.num, (x.den : Int)]
end DL
end

section
set_option Elab.async false
set_option linter.all false
set_option maxRecDepth 100000
set_option maxHeartbeats 2000000
/-! ## things, a step otherwise -/
namespace DL
open PySem PySem.Spec PyProof.Rows L2 MK
theorem wt_maker : ∀ {m : Mk}, m.Ok → wt (mD m) ≤ 3100 + 110 * m.wraps
  | .counter n s b, _ => by show wt (.tuple [_, _, _, _]) ≤ _; simp only [wt, wtAll, Mk.wraps]; decide
  | .turned w b, _ => by show wt (.tuple [_, _, _]) ≤ _; simp only [wt, wtAll, Mk.wraps]; decide
  | .register w t b, _ => by show wt (.tuple [_, _, _, _]) ≤ _; simp only [wt, wtAll, Mk.wraps]; decide
  | .table ns, ok => by
    show wt (.tuple [_, .tuple _]) ≤ _
    simp only [wt, wtAll, Mk.wraps]
    have : ∀ ns : List Int, wtAll (ns.map PyData.int) = 46 * ns.length := fun ns => by
      induction ns with
      | nil => rfl
      | cons n ns ih => rw [List.map_cons, wtAll, ih, wt, List.length_cons]; omega
    rw [this]
    have := ok.2.1
    have e : 10 * Str.length "table" + 2 = 52 := by decide
    omega
  | .slow k m, ok => by
    have ih := wt_maker (m := m) ok.2.2
    show wt (.tuple [_, _, mD m]) ≤ _
    simp only [wt, wtAll, Mk.wraps]
    have e : 10 * Str.length "slow" + 2 = 42 := by decide
    omega
  | .slip k m, ok => by
    have ih := wt_maker (m := m) ok.2.2
    show wt (.tuple [_, _, mD m]) ≤ _
    simp only [wt, wtAll, Mk.wraps]
    have e : 10 * Str.length "slip" + 2 = 42 := by decide
    omega
  | .late k m, ok => by
    have ih := wt_maker (m := m) ok.2
    show wt (.tuple [_, _, mD m]) ≤ _
    simp only [wt, wtAll, Mk.wraps]
    have e : 10 * Str.length "late" + 2 = 42 := by decide
    omega
theorem gd_maker : ∀ {m : Mk}, m.Ok → gd (10 ^ 20) 50 (mD m) = true := by
  have w0 : ∀ {z : Str}, (z.length ≤ 50) → PyData.strOk z = true → gd (10 ^ 20) 50 (.str z) = true := fun {z} h1 h2 => by rw [gd, h2, decide_eq_true h1]; rfl
  have i0 : ∀ {n : Nat}, n ≤ 64 → gd (10 ^ 20) 50 (.int (n : Nat)) = true := fun {n} h => by rw [gd, decide_eq_true_eq]; omega
  have t3 : ∀ {a b c : D}, gd (10 ^ 20) 50 a = true → gd (10 ^ 20) 50 b = true → gd (10 ^ 20) 50 c = true → gd (10 ^ 20) 50 (.tuple [a, b, c]) = true := fun {a b c} h1 h2 h3 => by rw [gd, gdAll, gdAll, gdAll, gdAll, h1, h2, h3]; rfl
  intro m
  induction m with
  | counter n s b => intro ok; have := ok.2.1; have := ok.2.2.2.1; have := ok.2.2.2.2.1; show gd _ _ (.tuple [_, _, _, _]) = true; rw [gd, gdAll, gdAll, gdAll, gdAll, gdAll, w0 (by decide) (by decide +kernel), i0 (by omega), i0 (by omega), i0 (by omega)]; rfl
  | turned w b => intro ok; have := ok.2.1; have := ok.2.2; have : 2 ^ w ≤ 64 := Nat.le_trans (Nat.pow_le_pow_right (by decide) ok.2.1) (by decide); exact t3 (w0 (by decide) (by decide +kernel)) (i0 (by omega)) (i0 (by omega))
  | register w t b => intro ok; have := ok.w2; have := ok.t2; have := ok.s2; have : 2 ^ w ≤ 64 := Nat.le_trans (Nat.pow_le_pow_right (by decide) ok.w2) (by decide); show gd _ _ (.tuple [_, _, _, _]) = true; rw [gd, gdAll, gdAll, gdAll, gdAll, gdAll, w0 (by decide) (by decide +kernel), i0 (by omega), i0 (by omega), i0 (by omega)]; rfl
  | table ns =>
    intro ok
    show gd _ _ (.tuple [_, .tuple _]) = true
    have h1 : gd (10 ^ 20) 50 (.tuple (ns.map PyData.int)) = true := by
      rw [gd]
      refine gd_all.2 fun x hx => ?_
      obtain ⟨i, hi, rfl⟩ := List.mem_map.1 hx
      have := ok.2.2 i hi
      rw [gd, decide_eq_true_eq]; omega
    rw [gd, gdAll, gdAll, gdAll, w0 (by decide) (by decide +kernel), h1]; rfl
  | slow k m ih => intro ok; have := ok.2.1; exact t3 (w0 (by decide) (by decide +kernel)) (i0 (by omega)) (ih ok.2.2)
  | slip k m ih => intro ok; have := ok.2.1; exact t3 (w0 (by decide) (by decide +kernel)) (i0 (by omega)) (ih ok.2.2)
  | late k m ih => intro ok; have := ok.1; exact t3 (w0 (by decide) (by decide +kernel)) (i0 (by omega)) (ih ok.2)
theorem depth_ints0 (ns : List Int) : PyData.depthAll (ns.map PyData.int) = 0 := by
  induction ns with
  | nil => rw [List.map_nil, PyData.depthAll]
  | cons n ns ih => rw [List.map_cons, PyData.depthAll, ih, PyData.depth]; rfl
theorem depth_maker : ∀ m : Mk, (mD m).depth ≤ 2 + m.wraps
  | .counter n s b => by show (PyData.tuple [_, _, _, _]).depth ≤ _; simp [PyData.depth, PyData.depthAll]; omega
  | .turned w b => by show (PyData.tuple [_, _, _]).depth ≤ _; simp [PyData.depth, PyData.depthAll]; omega
  | .register w t b => by show (PyData.tuple [_, _, _, _]).depth ≤ _; simp [PyData.depth, PyData.depthAll]; omega
  | .table ns => by show (PyData.tuple [_, .tuple _]).depth ≤ _; simp [PyData.depth, PyData.depthAll, depth_ints0]
  | .slow k m => by have := depth_maker m; show (PyData.tuple [_, _, mD m]).depth ≤ _; simp [PyData.depth, PyData.depthAll, Mk.wraps]; omega
  | .slip k m => by have := depth_maker m; show (PyData.tuple [_, _, mD m]).depth ≤ _; simp [PyData.depth, PyData.depthAll, Mk.wraps]; omega
  | .late k m => by have := depth_maker m; show (PyData.tuple [_, _, mD m]).depth ≤ _; simp [PyData.depth, PyData.depthAll, Mk.wraps]; omega
theorem thing_maker {m : Mk} (ok : m.Ok) (hw : m.wraps ≤ 3) : Thing (10 ^ 20) 50 3500 5 (mD m) := ⟨gd_maker ok, by have := wt_maker ok; omega, by have := depth_maker m; omega⟩

/-- what a step otherwise may come to -/
structure Oth (B S : Nat) (d d' : D) : Prop where
  good : gd (2 * B + 2) (S + 1) d' = true
  long : wt d' ≤ 2 * wt d + 500
  deep : d'.depth ≤ d.depth + 2
/-- the seven lists that come of a list, by a place, another thing and what comes of that place's thing -/
theorem oth_list {B S : Nat} {A T : List D} {c o c' : D} (hB : 10 ^ 20 ≤ B) (hS : 50 ≤ S) (hg : gdAll B S (A ++ c :: T) = true) (ho : Thing (10 ^ 20) 10 100 1 o) :
    (∀ row ∈ ([A ++ T, A ++ [c] ++ [c] ++ T, A ++ T.take 1 ++ [c] ++ T.drop 1, A ++ [o] ++ [c] ++ T] : List (List D)), gdAll (2 * B + 2) (S + 1) row = true ∧ wtAll row ≤ 2 * wtAll (A ++ c :: T) + 200 ∧ PyData.depthAll row ≤ PyData.depthAll (A ++ c :: T) + 1) ∧
    (Oth B S c c' → gdAll (2 * B + 2) (S + 1) (A ++ [c'] ++ T) = true ∧ wtAll (A ++ [c'] ++ T) ≤ 2 * wtAll (A ++ c :: T) + 500 ∧ PyData.depthAll (A ++ [c'] ++ T) ≤ PyData.depthAll (A ++ c :: T) + 2) := by
  have up : ∀ x ∈ A ++ c :: T, gd (2 * B + 2) (S + 1) x = true := fun x hx => gd_mono (by omega) (by omega) x (gd_all.1 hg x hx)
  have uo : gd (2 * B + 2) (S + 1) o = true := gd_mono (by omega) (by omega) o ho.good
  have hA : ∀ x ∈ A, x ∈ A ++ c :: T := fun x h => List.mem_append_left _ h
  have hT : ∀ x ∈ T, x ∈ A ++ c :: T := fun x h => List.mem_append_right _ (List.mem_cons_of_mem _ h)
  have hc : c ∈ A ++ c :: T := List.mem_append_right _ List.mem_cons_self
  have w : wtAll (A ++ c :: T) = wtAll A + (wt c + 2 + wtAll T) := by rw [wt_app, wtAll]
  have dd : PyData.depthAll (A ++ c :: T) = max (PyData.depthAll A) (max c.depth (PyData.depthAll T)) := by rw [depth_app, PyData.depthAll]
  have w1 : ∀ x : D, wtAll [x] = wt x + 2 := fun x => by rw [wtAll, wtAll]
  have d1 : ∀ x : D, PyData.depthAll [x] = x.depth := fun x => by rw [PyData.depthAll, PyData.depthAll]; omega
  have wT : wtAll (T.take 1) + wtAll (T.drop 1) = wtAll T := by rw [← wt_app, List.take_append_drop]
  have dT : max (PyData.depthAll (T.take 1)) (PyData.depthAll (T.drop 1)) = PyData.depthAll T := by rw [← depth_app, List.take_append_drop]
  have lo := ho.long
  have od := ho.deep
  refine ⟨fun row hr => ?_, fun h => ⟨gd_all.2 fun x hx => ?_, ?_, ?_⟩⟩
  · simp only [List.mem_cons, List.not_mem_nil, or_false] at hr
    rcases hr with rfl | rfl | rfl | rfl
    · refine ⟨gd_all.2 fun x hx => ?_, by rw [wt_app, w]; omega, by rw [depth_app, dd]; omega⟩
      rcases List.mem_append.1 hx with h | h
      · exact up x (hA x h)
      · exact up x (hT x h)
    · refine ⟨gd_all.2 fun x hx => ?_, by rw [wt_app, wt_app, wt_app, w1, w]; omega, by rw [depth_app, depth_app, depth_app, d1, dd]; omega⟩
      simp only [List.mem_append, List.mem_singleton] at hx
      rcases hx with ((h | h) | h) | h
      · exact up x (hA x h)
      · exact h ▸ up c hc
      · exact h ▸ up c hc
      · exact up x (hT x h)
    · refine ⟨gd_all.2 fun x hx => ?_, by rw [wt_app, wt_app, wt_app, w1, w]; omega, by rw [depth_app, depth_app, depth_app, d1, dd]; omega⟩
      simp only [List.mem_append, List.mem_singleton] at hx
      rcases hx with ((h | h) | h) | h
      · exact up x (hA x h)
      · exact up x (hT x (List.mem_of_mem_take h))
      · exact h ▸ up c hc
      · exact up x (hT x (List.mem_of_mem_drop h))
    · refine ⟨gd_all.2 fun x hx => ?_, by rw [wt_app, wt_app, wt_app, w1, w1, w]; omega, by rw [depth_app, depth_app, depth_app, d1, d1, dd]; omega⟩
      simp only [List.mem_append, List.mem_singleton] at hx
      rcases hx with ((h | h) | h) | h
      · exact up x (hA x h)
      · exact h ▸ uo
      · exact h ▸ up c hc
      · exact up x (hT x h)
  · simp only [List.mem_append, List.mem_singleton] at hx
    rcases hx with (h' | h') | h'
    · exact up x (hA x h')
    · exact h' ▸ h.good
    · exact up x (hT x h')
  · have := h.long
    rw [wt_app, wt_app, w1, w]; omega
  · have := h.deep
    rw [depth_app, depth_app, d1, dd]; omega

theorem strOk_app {a b : Str} (ha : PyData.strOk a = true) (hb : PyData.strOk b = true) : PyData.strOk (a ++ b) = true := by
  unfold PyData.strOk at *
  show (a.cps ++ b.cps).all _ = true
  rw [Array.all_append, ha, hb]; rfl
theorem strOk_cut {a : Str} (ha : PyData.strOk a = true) (lo hi : Option Int) : PyData.strOk (cutS a lo hi) = true ∧ (cutS a lo hi).length ≤ a.length := by
  unfold PyData.strOk at *
  unfold cutS
  constructor
  · rw [List.all_toArray, List.all_eq_true]
    intro c hc
    have h1 := List.mem_of_mem_drop (List.mem_of_mem_take hc)
    rw [← Array.all_toList, List.all_eq_true] at ha
    exact ha c h1
  · show ((a.cps.toList.drop _).take _).toArray.size ≤ a.cps.size
    rw [List.size_toArray, List.length_take, List.length_drop, Array.length_toList]
    omega
theorem strOk_of (s : String) : PyData.strOk (Str.ofString s) = true := by
  rw [Str.ofString_eq_toList]
  unfold PyData.strOk
  show ((s.toList.map Char.toNat).toArray).all _ = true
  rw [List.all_toArray, List.all_eq_true]
  intro c hc
  obtain ⟨x, _, rfl⟩ := List.mem_map.1 hc
  have := x.valid
  have h : x.toNat < 0x110000 := by
    rcases this with h | h
    · exact Nat.lt_trans h (by decide)
    · exact h.2
  simpa using h
theorem oth_str {B S : Nat} {d : D} {z : Str} (hS : 50 ≤ S) (h : z.length ≤ 50) (ok : PyData.strOk z = true) : Oth B S d (.str z) → Oth B S d (.str z) := id
theorem oth_word {B S : Nat} {d : D} {z : Str} (h0 : PyData.strOk z = true) (h1 : z.length ≤ S + 1) (h2 : 10 * z.length + 2 ≤ 2 * wt d + 500) : Oth B S d (.str z) := ⟨by rw [gd, h0, decide_eq_true h1]; rfl, by rw [wt]; exact h2, by rw [PyData.depth]; exact Nat.zero_le _⟩
theorem oth_int {B S : Nat} {d : D} {i : Int} (h : i.natAbs ≤ 2 * B + 2) : Oth B S d (.int i) := ⟨by rw [gd, decide_eq_true h], by rw [wt]; omega, by rw [PyData.depth]; exact Nat.zero_le _⟩
theorem oth_bool {B S : Nat} {d : D} {b : Bool} : Oth B S d (.bool b) := ⟨by rw [gd], by rw [wt]; omega, by rw [PyData.depth]; exact Nat.zero_le _⟩
theorem len_app (a b : Str) : (a ++ b).length = a.length + b.length := strLen_append a b
end DL
end

section
set_option Elab.async false
set_option linter.all false
set_option maxRecDepth 100000
set_option maxHeartbeats 2000000
/-! ## what is a formula: parts and depth -/
namespace DL
open PySem PySem.Spec PyProof.Rows L2 MK
def sidesK : List (Str × Int) := [("less", 1), ("both", 2), ("either", 2), ("oneof", 2), ("pick", 3)]
def inpM (xs : List D) : Option (Int × Int) := match xs with
  | [y] => if isIn y 0 5 = true then some (1, 1) else none
  | _ => none
mutual
/-- parts, depth -/
def ms : D → Option (Int × Int)
  | .tuple (.str z :: xs) => if z = "in" then inpM xs
      else if kdGet sidesK z = some ((xs.length : Nat) : Int) then (match msAll xs with | some p => some (1 + p.1, 1 + p.2) | none => none) else none
  | _ => none
def msAll : List D → Option (Int × Int)
  | [] => some (0, 0)
  | x :: xs => match ms x, msAll xs with
    | some p, some s => some (p.1 + s.1, max p.2 s.2)
    | _, _ => none
end
theorem ms_in (xs : List D) : ms (.tuple (.str "in" :: xs)) = inpM xs := by
  rw [ms, if_pos rfl]
theorem ms_side {z : Str} {xs : List D} (h : z ≠ "in") (hs : kdGet sidesK z = some ((xs.length : Nat) : Int)) : ms (.tuple (.str z :: xs)) = (match msAll xs with | some p => some (1 + p.1, 1 + p.2) | none => none) := by
  rw [ms, if_neg h, if_pos hs]
theorem ms_len {z : Str} {xs : List D} (h : z ≠ "in") (hs : kdGet sidesK z ≠ some ((xs.length : Nat) : Int)) : ms (.tuple (.str z :: xs)) = none := by
  rw [ms, if_neg h, if_neg hs]
theorem ms_no {d : D} (h : ∀ z xs, d ≠ .tuple (.str z :: xs)) : ms d = none := by
  cases d with
  | tuple ds =>
    cases ds with
    | nil => rw [ms]; intro z xs e; cases e
    | cons x t =>
      cases x with
      | str z => exact absurd rfl (h z t)
      | _ => rw [ms]; intro z xs e; cases e
  | _ => rw [ms]; intro z xs e; cases e
theorem side_pos {z : Str} {n : Int} (h : kdGet sidesK z = some n) : 1 ≤ n ∧ n ≤ 3 := by
  unfold sidesK at h
  simp only [kdGet] at h
  repeat' split at h
  all_goals (first | (cases h; decide) | cases h)
theorem msAll_pos : ∀ {xs : List D} {p : Int × Int}, msAll xs = some p → 0 ≤ p.2
  | [], p, h => by rw [msAll] at h; cases h; decide
  | x :: xs, p, h => by
    rw [msAll] at h
    revert h
    cases ms x with
    | none => intro h; cases h
    | some a =>
      cases h2 : msAll xs with
      | none => intro h; cases h
      | some b => intro h; cases h; have := msAll_pos h2; show 0 ≤ max a.2 b.2; omega
theorem ms_pos : ∀ {d : D} {p : Int × Int}, ms d = some p → 1 ≤ p.2 := by
  intro d p h
  by_cases hd : ∃ z xs, d = .tuple (.str z :: xs)
  · obtain ⟨z, xs, rfl⟩ := hd
    by_cases hz : z = "in"
    · subst hz
      rw [ms_in] at h
      unfold inpM at h
      split at h
      · split at h
        · cases h; decide
        · cases h
      · cases h
    · by_cases hs : kdGet sidesK z = some ((xs.length : Nat) : Int)
      · rw [ms_side hz hs] at h
        revert h
        cases h2 : msAll xs with
        | none => intro h; cases h
        | some a => intro h; cases h; have := msAll_pos h2; show 1 ≤ 1 + a.2; omega
      · rw [ms_len hz hs] at h; cases h
  · rw [ms_no fun z xs e => hd ⟨z, xs, e⟩] at h; cases h
theorem msAll_none : ∀ {xs : List D}, msAll xs = none → ∃ x ∈ xs, ms x = none
  | [], h => by rw [msAll] at h; cases h
  | x :: xs, h => by
    rw [msAll] at h
    revert h
    cases e : ms x with
    | none => intro _; exact ⟨x, List.mem_cons_self, e⟩
    | some a =>
      cases h2 : msAll xs with
      | none => intro _; obtain ⟨y, hy, e⟩ := msAll_none h2; exact ⟨y, List.mem_cons_of_mem _ hy, e⟩
      | some b => intro h; cases h
theorem msAll_some : ∀ {xs : List D} {s : Int × Int}, msAll xs = some s → ∃ ps : List (Int × Int), xs.map ms = ps.map some ∧ s.1 = (ps.map (·.1)).sum ∧ (∀ p ∈ ps, p.2 ≤ s.2) ∧ 0 ≤ s.2 ∧ (ps ≠ [] → s.2 ∈ ps.map (·.2))
  | [], s, h => by rw [msAll] at h; cases h; exact ⟨[], rfl, rfl, fun p h => (by cases h), by decide, fun h => absurd rfl h⟩
  | x :: xs, s, h => by
    rw [msAll] at h
    revert h
    cases e : ms x with
    | none => intro h; cases h
    | some a =>
      cases h2 : msAll xs with
      | none => intro h; cases h
      | some b =>
        intro h; cases h
        obtain ⟨ps, e1, e2, e3, e4, e5⟩ := msAll_some h2
        have ha := ms_pos e
        refine ⟨a :: ps, by rw [List.map_cons, List.map_cons, e, e1], by rw [List.map_cons, List.sum_cons, ← e2], ?_, by show 0 ≤ max a.2 b.2; omega, fun _ => ?_⟩
        · intro p hp
          show p.2 ≤ max a.2 b.2
          rcases List.mem_cons.1 hp with rfl | hp
          · omega
          · have := e3 p hp; omega
        · show max a.2 b.2 ∈ (a :: ps).map (·.2)
          rw [List.map_cons]
          by_cases h : a.2 < b.2
          · rw [Int.max_eq_right (by omega)]
            refine List.mem_cons_of_mem _ (e5 fun h0 => ?_)
            subst h0
            have : xs = [] := by cases xs with
              | nil => rfl
              | cons _ _ => cases e1
            subst this
            rw [msAll] at h2
            cases h2
            have h' : a.2 < 0 := h
            omega
          · rw [Int.max_eq_left (by omega)]
            exact List.mem_cons_self
def msO : Option (Int × Int) → D
  | none => .none
  | some p => .tuple [.int p.1, .int p.2]
theorem msO_shaped (xs : List D) : SeqAt.shaped (.list (xs.map fun x => msO (ms x))) = true := by
  have h1 : ∀ o : Option (Int × Int), (msO o).canLay0 = true ∧ (msO o).depth ≤ 1 := fun o => by
    cases o with
    | none => exact ⟨by simp [msO, PyData.canLay0], by simp [msO, PyData.depth]⟩
    | some p => exact ⟨by simp [msO, PyData.canLay0, PyData.canLayAll0], by simp [msO, PyData.depth, PyData.depthAll]⟩
  have h2 : PyData.canLayAll0 (xs.map fun x => msO (ms x)) = true ∧ PyData.depthAll (xs.map fun x => msO (ms x)) ≤ 1 := by
    induction xs with
    | nil => exact ⟨by simp [PyData.canLayAll0], by simp [PyData.depthAll]⟩
    | cons x xs ih => exact ⟨by simp [PyData.canLayAll0, (h1 _).1]; simpa using ih.1, by rw [List.map_cons, PyData.depthAll]; have := (h1 (ms x)).2; have := ih.2; omega⟩
  unfold SeqAt.shaped
  have h3 : (PyData.list (xs.map fun x => msO (ms x))).canLay0 = true := by simpa [PyData.canLay0] using h2.1
  have h4 : (PyData.list (xs.map fun x => msO (ms x))).depth ≤ 64 := by rw [PyData.depth]; have := h2.2; omega
  rw [h3, decide_eq_true h4]; rfl
theorem ms_anyN (xs : List D) : ((xs.map fun x => msO (ms x)).any fun z => PyData.eqv z .none) = decide (msAll xs = none) := by
  cases h : msAll xs with
  | none =>
    obtain ⟨x, hx, e⟩ := msAll_none h
    rw [decide_eq_true rfl, List.any_eq_true]
    exact ⟨.none, List.mem_map.2 ⟨x, hx, by rw [e]; rfl⟩, by simp [PyData.eqv]⟩
  | some s =>
    obtain ⟨ps, e, _⟩ := msAll_some h
    rw [decide_eq_false (by simp), List.any_eq_false]
    intro z hz
    obtain ⟨x, hx, rfl⟩ := List.mem_map.1 hz
    have : ms x ∈ ps.map some := by rw [← e]; exact List.mem_map.2 ⟨x, hx, rfl⟩
    obtain ⟨p, _, ep⟩ := List.mem_map.1 this
    rw [← ep]
    simp [msO, PyData.eqv]
theorem ms_found {xs : List D} {ps : List (Int × Int)} (e : xs.map ms = ps.map some) : (xs.map fun x => msO (ms x)) = ps.map fun p => PyData.tuple [.int p.1, .int p.2] := by
  have : (xs.map fun x => msO (ms x)) = (xs.map ms).map msO := by rw [List.map_map]; rfl
  rw [this, e, List.map_map]; rfl
/-! ### the program's own -/
def b_is_input : DTS :=
  (sRet (eAnd (eIsi .int (eVar 0)) (eAnd (eNot (eIsi .bool (eVar 0))) (eChain pLe pLe (eC (.int 0)) (eVar 0) (eC (.int 5))))))
def sp_is_input : DSp := fun cs post => ∃ d, cs = [.sh d] ∧ notDict d = true ∧ post (.sh (.bool (isIn d 0 5))) []
theorem p_is_input (cs post) (h : sp_is_input cs post) : runD 1 b_is_input cs post := by
  obtain ⟨d, rfl, h, q⟩ := h
  cases d with
  | int i =>
    have q' : post (.sh (.bool (decide (0 ≤ i) && decide (i ≤ 5)))) [] := q
    refine ⟨rfl, rfl, ?_⟩
    refine ifD (fun h => ?_) (fun h => ?_)
    · rw [decide_eq_true h, Bool.true_and] at q'
      exact q'
    · rw [decide_eq_false h, Bool.false_and] at q'
      exact q'
  | bool b => exact ⟨rfl, rfl, q⟩
  | dict _ => cases h
  | _ => exact ⟨rfl, q⟩
def b_measured (sp_is_input : DSp) (sp_measured : DSp) : DTS :=
  (sSeq (sIf (tOr' (tNt (tTru (eIsi .tuple (eVar 0)))) (tOr' (tBl (eOp2 pLt (eLenV 0) (eC (.int 2)))) (tNt (tTru (eIsi .str (eIxV 0 (eC (.int 0)))))))) (sRet (eC .none)) sNext)
  (sSeq (sIf (tBl (eOp2 pEq (eIxV 0 (eC (.int 0))) (eC (.str "in")))) (sRet (eIf (tAn (tBl (eOp2 pEq (eLenV 0) (eC (.int 2)))) (tTru (eCallF 1 sp_is_input (cCons (eIxV 0 (eC (.int 1))) cNil)))) (eTup (aCons (eC (.int 1)) (aCons (eC (.int 1)) aNil))) (eC .none))) sNext)
  (sSeq (sIf (tOr' (tBl (eInK true sidesK (eIxV 0 (eC (.int 0))))) (tBl (eOp2 pNe (eLenV 0) (eOp2 pAdd (eC (.int 1)) (eIxKD sidesK (eIxV 0 (eC (.int 0)))))))) (sRet (eC .none)) sNext)
  (sSeq (sSetO 1 (oComp true [2] (iAny (eSlV 0 (pSome (eC (.int 1))) pNo)) tYesD (eCallF 1 sp_measured (cCons (eVar 2) cNil))))
  (sSeq (sIf (tBl (eOp2 (pInD false) (eC .none) (eVar 1))) (sRet (eC .none)) sNext)
  (sRet (eTup (aCons (eOp2 pAdd (eC (.int 1)) (eCall pSum (aCons (eFrz (oComp false [3, 4] (iAny (eVar 1)) tYesD (eVar 3))) aNil))) (aCons (eOp2 pAdd (eC (.int 1)) (eCall pMaxA (aCons (eFrz (oComp false [3, 4] (iAny (eVar 1)) tYesD (eVar 4))) aNil))) aNil)))))))))
def sp_measured : Nat → DSp
  | 0 => fun _ _ => False
  | k + 1 => fun cs post => ∃ (B S : Nat) (d : D), cs = [.sh d] ∧ gd B S d = true ∧ wt d ≤ sizeLine ∧ (d.depth ≤ k ∧ d.depth ≤ 60) ∧ post (.sh (msO (ms d))) []
theorem sp_measured_none (cs post) (h : sp_measured 0 cs post) : False := h
theorem max_is {ps : List (Int × Int)} {a : Int} (h1 : ∀ p ∈ ps, p.2 ≤ a) (h2 : a ∈ ps.map (·.2)) {m : Int} (h3 : m ∈ ps.map (·.2)) (h4 : ∀ y ∈ ps.map (·.2), y ≤ m) : m = a := by
  obtain ⟨p, hp, rfl⟩ := List.mem_map.1 h3
  have := h1 p hp
  have := h4 _ h2
  omega
theorem wt_mem {x : D} : ∀ {xs : List D}, x ∈ xs → wt x ≤ wtAll xs
  | y :: ys, h => by
    rw [wtAll]
    rcases List.mem_cons.1 h with rfl | h
    · omega
    · have := wt_mem h; omega
theorem drop_one (x : D) (xs : List D) : cutD (x :: xs) (some 1) none = xs := by rw [cut_from _ _ (by decide)]; rfl
/-- the parts behind a word -/
theorem parts_of_tup {B S k : Nat} {z : Str} {xs : List D} (hg : gd B S (.tuple (.str z :: xs)) = true) (hw : wt (.tuple (.str z :: xs)) ≤ sizeLine) (hd : (PyData.tuple (.str z :: xs)).depth ≤ k ∧ (PyData.tuple (.str z :: xs)).depth ≤ 60) :
    xs.length + 1 ≤ sizeLine ∧ ∀ x ∈ xs, gd B S x = true ∧ wt x ≤ sizeLine ∧ ∃ j, k = j + 1 ∧ x.depth ≤ j ∧ x.depth ≤ 60 := by
  have ga : gdAll B S (.str z :: xs) = true := by rw [gd] at hg; exact hg
  have gx : gdAll B S xs = true := by rw [gdAll, Bool.and_eq_true] at ga; exact ga.2
  have hl := wt_len xs
  have hw' : 10 * z.length + 2 + 2 + wtAll xs + 3 ≤ sizeLine := by rw [wt, wtAll, wt] at hw; exact hw
  refine ⟨by omega, fun x hx => ⟨gd_all.1 gx x hx, ?_, ?_⟩⟩
  · have := wt_mem hx
    omega
  · have h1 := depth_mem (x := x) (xs := .str z :: xs) (List.mem_cons_of_mem _ hx)
    rw [PyData.depth] at hd
    exact ⟨k - 1, by omega, by omega, by omega⟩
theorem p_measured (k : Nat) (cs post) (h : sp_measured (k + 1) cs post) : runD 5 (b_measured sp_is_input (sp_measured k)) cs post := by
  obtain ⟨B, S, d, rfl, hg, hw, hd, q⟩ := h
  have nd := gd_nd hg
  have hbig := line_big
  cases d with
  | tuple ds =>
    refine nrm_in ?_
    show sSeq _ _ _ [_, _, _, _, _]
    match ds, hg, hw, hd, q with
    | [], _, _, _, q =>
      refine seq_on [] (fun _ => False) (fun N hN => ?_) (fun cs h => h.elim)
      rw [ms_no (by intro z xs e; cases e)] at q
      exact ⟨rfl, q⟩
    | [x], hg, _, _, q =>
      refine seq_on [] (fun _ => False) (fun N hN => ?_) (fun cs h => h.elim)
      have e : ms (.tuple [x]) = none := by
        cases x with
        | str z =>
          by_cases hz : z = "in"
          · subst hz; rw [ms_in]; rfl
          · exact ms_len hz fun h => by have h1 := (side_pos h).1; exact absurd h1 (by decide)
        | _ => exact ms_no (by intro z xs e; cases e)
      rw [e] at q
      exact ⟨rfl, q⟩
    | x :: y :: t, hg, hw, hd, q =>
      have ga : gdAll B S (x :: y :: t) = true := by rw [gd] at hg; exact hg
      have gx := gd_all.1 ga x (by simp)
      have gy := gd_all.1 ga y (by simp)
      by_cases hx : ∃ z, x = .str z
      case neg =>
        refine seq_on [] (fun _ => False) (fun N hN => ?_) (fun cs h => h.elim)
        rw [ms_no (by intro z xs e; cases e; exact hx ⟨_, rfl⟩)] at q
        refine ⟨rfl, ?_⟩
        refine ifD (p := (((x :: y :: t).length : Nat) : Int) < 2) (fun h => absurd h (by simp only [List.length_cons]; omega)) (fun _ => ?_)
        refine optD_of (at_hd _ _) ⟨gd_nd gx, ?_⟩
        cases x with
        | str z => exact absurd ⟨z, rfl⟩ hx
        | _ => exact q
      obtain ⟨z, rfl⟩ := hx
      refine seq_on [] (fun cs => cs = []) (fun N hN => ?_) ?_
      · refine ⟨rfl, ?_⟩
        refine ifD (p := (((PyData.str z :: y :: t).length : Nat) : Int) < 2) (fun h => absurd h (by simp only [List.length_cons]; omega)) (fun _ => ?_)
        exact optD_of (at_hd _ _) ⟨rfl, hN [] rfl⟩
      rintro cs rfl
      show sSeq _ _ _ [_, _, _, _, _]
      by_cases hz : z = "in"
      · subst hz
        refine seq_on [] (fun _ => False) (fun N hN => ?_) (fun cs h => h.elim)
        refine optD_of (at_hd _ _) ?_
        rw [ms_in] at q
        cases t with
        | cons y2 t =>
          exact q
        | nil =>
          refine ⟨rfl, .nil, y, rfl, gd_nd gy, ?_⟩
          refine ifB (fun e => ?_) (fun e => ?_)
          · rw [show inpM [y] = some (1, 1) from if_pos e] at q
            exact ⟨sz2, q⟩
          · rw [show inpM [y] = none from if_neg (by rw [e]; decide)] at q
            exact q
      refine seq_on [] (fun cs => cs = []) (fun N hN => optD_of (at_hd _ _) (ifD (fun h => absurd h hz) (fun _ => hN [] rfl))) ?_
      rintro cs rfl
      obtain ⟨hl, hp⟩ := parts_of_tup hg hw hd
      generalize hxs : y :: t = xs at *
      show sSeq _ _ _ [_, _, _, _, _]
      by_cases hs : kdGet sidesK z = some ((xs.length : Nat) : Int)
      case neg =>
        refine seq_on [] (fun _ => False) (fun N hN => ?_) (fun cs h => h.elim)
        rw [ms_len hz hs] at q
        refine optD_of (at_hd _ _) ?_
        show if (!(kdGet sidesK z).isSome) = true then _ else _
        cases hk : kdGet sidesK z with
        | none => exact q
        | some n =>
          rw [hk] at hs
          refine optD_of (at_hd _ _) ?_
          show optD (kdGet sidesK z) _
          rw [hk]
          refine ifN (fun _ => q) (fun h => absurd ?_ hs)
          rw [List.length_cons] at h
          have : n = (xs.length : Nat) := by omega
          rw [this]
      refine seq_on [] (fun cs => cs = []) (fun N hN => ?_) ?_
      · refine optD_of (at_hd _ _) ?_
        show if (!(kdGet sidesK z).isSome) = true then _ else _
        rw [hs]
        refine optD_of (at_hd _ _) ?_
        show optD (kdGet sidesK z) _
        rw [hs]
        refine ifN (fun h => absurd ?_ h) (fun _ => hN [] rfl)
        rw [List.length_cons]; omega
      rintro cs rfl
      show sSeq _ _ _ [_, _, _, _, _]
      rw [ms_side hz hs] at q
      have hx0 : xs ≠ [] := by rw [← hxs]; simp
      refine seq_on [1, 2] (fun cs => cs = [some (.own (.lst (xs.map fun x => msO (ms x)))), none]) (fun N hN => ?_) ?_
      · show (cutD (PyData.str z :: xs) (some 1) none).length ≤ sizeLine ∧ compD true [2] tYesD _ (cutD (PyData.str z :: xs) (some 1) none) [] [_, _, _, _, _] _
        rw [drop_one]
        refine ⟨by omega, ?_⟩
        refine comp_map xs _ (fun x => msO (ms x)) (fun x hx q hq => ?_) (nrm_in (hN [_, _] rfl))
        obtain ⟨g1, g2, j, rfl, g3⟩ := hp x hx
        exact ⟨rfl, .nil, B, S, x, rfl, g1, g2, g3, hq _ rfl⟩
      rintro cs rfl
      show sSeq _ _ _ [_, _, _, _, _]
      cases ha : msAll xs with
      | none =>
        refine seq_on [] (fun _ => False) (fun N hN => ?_) (fun cs h => h.elim)
        rw [ha] at q
        refine ⟨by decide, msO_shaped xs, ?_⟩
        refine bT (by show ((xs.map fun x => msO (ms x)).any fun z => PyData.eqv z .none) = true; rw [ms_anyN, ha]; rfl) q
      | some s =>
        rw [ha] at q
        obtain ⟨ps, e1, e2, e3, e4, e5⟩ := msAll_some ha
        have hps : ps ≠ [] := fun h => by subst h; cases xs with
          | nil => exact hx0 rfl
          | cons _ _ => cases e1
        have lps : ps.length = xs.length := by have := congrArg List.length e1; simpa using this.symm
        refine seq_on [1] (fun cs => cs = [some (.sh (.list (ps.map fun p => PyData.tuple [.int p.1, .int p.2])))]) (fun N hN => ?_) ?_
        · refine ⟨by decide, msO_shaped xs, ?_⟩
          refine bF (by show ((xs.map fun x => msO (ms x)).any fun z => PyData.eqv z .none) = false; rw [ms_anyN, ha]; rfl) ?_
          have := hN [_] rfl
          rw [← ms_found e1] at this
          exact this
        rintro cs rfl
        show sRet _ _ [_, _, _, _, _]
        refine ⟨by rw [List.length_map]; omega, ?_⟩
        refine comp_mapA ps (fun p => PyData.tuple [.int p.1, .int p.2]) _ (fun p => .int p.1) (fun p hp q hq => ⟨rfl, hq _ rfl⟩) ?_
        refine ⟨ps.map (·.1), by rw [List.map_map]; rfl, ?_⟩
        refine ⟨by rw [List.length_map]; omega, ?_⟩
        refine comp_mapA ps (fun p => PyData.tuple [.int p.1, .int p.2]) _ (fun p => .int p.2) (fun p hp q hq => ⟨rfl, hq _ rfl⟩) ?_
        refine ⟨ps.map (·.2), by rw [List.map_map]; rfl, by rw [List.length_map]; exact List.length_pos_iff.2 hps, fun m hm hy => ?_⟩
        rw [max_is e3 (e5 hps) hm hy, ← e2]
        exact ⟨sz2, q⟩
  | dict _ => cases nd
  | _ =>
    rw [ms_no (by intro z xs e; cases e)] at q
    exact ⟨rfl, q⟩

/-- is it a formula -/
def fmB (d : D) : Bool := match ms d with
  | some p => decide (p.1 ≤ 24) && decide (p.2 ≤ 8)
  | none => false
def b_is_formula (sp_measured : DSp) : DTS :=
  (sSeq (sSet 1 (eCallF 1 sp_measured (cCons (eVar 0) cNil)))
  (sRet (eAnd (eOp2 pIsN (eVar 1) (eC .none)) (eAnd (eOp2 pLe (eIxV 1 (eC (.int 0))) (eC (.int 24))) (eOp2 pLe (eIxV 1 (eC (.int 1))) (eC (.int 8)))))))
def sp_is_formula : DSp := fun cs post => ∃ (B S : Nat) (d : D), cs = [.sh d] ∧ gd B S d = true ∧ wt d ≤ sizeLine ∧ d.depth ≤ 15 ∧ post (.sh (.bool (fmB d))) []
theorem p_is_formula (cs post) (h : sp_is_formula cs post) : runD 2 (b_is_formula (sp_measured 16)) cs post := by
  obtain ⟨B, S, d, rfl, hg, hw, hd, q⟩ := h
  refine nrm_in ?_
  show sSeq _ _ _ [_, _]
  refine seq_on [1] (fun cs => cs = [some (.sh (msO (ms d)))]) (fun N hN => ⟨rfl, .nil, B, S, d, rfl, hg, hw, ⟨hd, by omega⟩, nrm_in (hN [_] rfl)⟩) ?_
  rintro cs rfl
  show sRet _ _ [_, _]
  unfold fmB at q
  cases h : ms d with
  | none => rw [h] at q; exact q
  | some p =>
    rw [h] at q
    refine ifD (p := p.1 ≤ 24) (fun h => ?_) (fun h => ?_)
    · have q' : post (.sh (.bool (decide (p.1 ≤ 24) && decide (p.2 ≤ 8)))) [] := q
      rw [decide_eq_true h, Bool.true_and] at q'; exact q'
    · have q' : post (.sh (.bool (decide (p.1 ≤ 24) && decide (p.2 ≤ 8)))) [] := q
      rw [decide_eq_false h, Bool.false_and] at q'; exact q'
/-! ### the laws' own -/
def b_measure_a (sp_law_measure : DSp) : DTS :=
  (sSeq (sSet 1 (eDict [((eC (.str "less")), (eC (.int 1))), ((eC (.str "both")), (eC (.int 2))), ((eC (.str "either")), (eC (.int 2))), ((eC (.str "oneof")), (eC (.int 2))), ((eC (.str "pick")), (eC (.int 3)))]))
  (sSeq (sIf (tOr' (tNt (tTru (eIsi .tuple (eVar 0)))) (tOr' (tBl (eOp2 pEq (eVar 0) (eTup aNil))) (tNt (tTru (eIsi .str (eIxV 0 (eC (.int 0)))))))) (sRet (eC .none)) sNext)
  (sSeq (sIf (tBl (eOp2 pEq (eIxV 0 (eC (.int 0))) (eC (.str "in")))) (sSeq (sSet 3 (eAnd (eOp2 pEq (eLenV 0) (eC (.int 2))) (eAnd (eIsi .int (eIxV 0 (eC (.int 1)))) (eNot (eIsi .bool (eIxV 0 (eC (.int 1))))))))
  (sRet (eIf (tAn (tTru (eVar 3)) (tBl (eChain pLe pLt (eC (.int 0)) (eIxV 0 (eC (.int 1))) (eC (.int 6))))) (eTup (aCons (eC (.int 1)) (aCons (eC (.int 1)) aNil))) (eC .none)))) sNext)
  (sSeq (sIf (tBl (eOp2 pNe (eOp2 pSub (eLenV 0) (eC (.int 1))) (eGetK (eVar 1) (eIxV 0 (eC (.int 0))) (eOp1 pNeg (eC (.int 1)))))) (sRet (eC .none)) sNext)
  (sSeq (sSetO 2 (oComp true [4] (iAny (eSlV 0 (pSome (eC (.int 1))) pNo)) tYesD (eCallF 1 sp_law_measure (cCons (eVar 4) cNil))))
  (sSeq (sIf (tBl (eOp2 (pInD false) (eC .none) (eVar 2))) (sRet (eC .none)) sNext)
  (sRet (eTup (aCons (eOp2 pAdd (eC (.int 1)) (eCall pSum (aCons (eFrz (oComp true [5] (iAny (eVar 2)) tYesD (eIxV 5 (eC (.int 0))))) aNil))) (aCons (eOp2 pAdd (eC (.int 1)) (eCall pMaxA (aCons (eFrz (oComp true [5] (iAny (eVar 2)) tYesD (eIxV 5 (eC (.int 1))))) aNil))) aNil))))))))))
def sidesD : List (D × D) := [(.str "less", .int 1), (.str "both", .int 2), (.str "either", .int 2), (.str "oneof", .int 2), (.str "pick", .int 3)]
theorem look_side (z : Str) : (dLook sidesD (.str z)).getD (.int (-1)) = .int ((kdGet sidesK z).getD (-1)) := by
  unfold dLook sidesD sidesK
  simp only [kdGet, List.find?_cons, keyEq]
  repeat' split
  all_goals simp_all
def sp_measure_a : Nat → DSp := sp_measured
theorem sp_measure_a_none (cs post) (h : sp_measure_a 0 cs post) : False := h
theorem msh_nil : SeqAt.shaped (.tuple []) = true := by decide
theorem p_measure_a (k : Nat) (cs post) (h : sp_measure_a (k + 1) cs post) : runD 6 (b_measure_a (sp_measure_a k)) cs post := by
  obtain ⟨B, S, d, rfl, hg, hw, hd, q⟩ := h
  have nd := gd_nd hg
  have hbig := line_big
  refine nrm_in ?_
  show sSeq _ _ _ [_, _, _, _, _, _]
  refine seq_on [1] (fun cs => cs = [some (.sh (.dict sidesD))]) (fun N hN => ⟨⟨[.inr "less", .inr "both", .inr "either", .inr "oneof", .inr "pick"], rfl, by decide, by decide⟩, nrm_in (hN [_] rfl)⟩) ?_
  rintro cs rfl
  show sSeq _ _ _ [_, _, _, _, _, _]
  cases d with
  | tuple ds =>
    have hsh : SeqAt.shaped (.tuple ds) = true := (Thing.mk hg (Nat.le_refl _) hd.2).shaped (by decide)
    match ds, hg, hw, hd, q, hsh with
    | [], _, _, _, q, _ =>
      refine seq_on [] (fun _ => False) (fun N hN => ?_) (fun cs h => h.elim)
      rw [ms_no (by intro z xs e; cases e)] at q
      exact ⟨rfl, sz0, msh_nil, msh_nil, q⟩
    | x :: xs, hg, hw, hd, q, hsh =>
      have ga : gdAll B S (x :: xs) = true := by rw [gd] at hg; exact hg
      have gx := gd_all.1 ga x (by simp)
      by_cases hx : ∃ z, x = .str z
      case neg =>
        refine seq_on [] (fun _ => False) (fun N hN => ?_) (fun cs h => h.elim)
        rw [ms_no (by intro z xs e; cases e; exact hx ⟨_, rfl⟩)] at q
        refine ⟨rfl, sz0, hsh, msh_nil, ?_⟩
        refine optD_of (at_hd _ _) ⟨gd_nd gx, ?_⟩
        cases x with
        | str z => exact absurd ⟨z, rfl⟩ hx
        | _ => exact q
      obtain ⟨z, rfl⟩ := hx
      refine seq_on [] (fun cs => cs = []) (fun N hN => ?_) ?_
      · refine ⟨rfl, sz0, hsh, msh_nil, ?_⟩
        exact optD_of (at_hd _ _) ⟨rfl, hN [] rfl⟩
      rintro cs rfl
      show sSeq _ _ _ [_, _, _, _, _, _]
      by_cases hz : z = "in"
      · subst hz
        refine seq_on [] (fun _ => False) (fun N hN => ?_) (fun cs h => h.elim)
        refine optD_of (at_hd _ _) ?_
        rw [ms_in] at q
        match xs, q, ga with
        | [], q, _ => exact q
        | y :: y2 :: t, q, _ => exact q
        | [y], q, ga =>
          have gy := gd_all.1 ga y (by simp)
          cases y with
          | int i =>
            have q' : post (.sh (msO (if (decide (0 ≤ i) && decide (i ≤ 5)) = true then some (1, 1) else none))) [] := q
            refine ⟨rfl, rfl, nrm_in ?_⟩
            refine ifD (p := (0 : Int) ≤ i) (fun h1 => ?_) (fun h1 => ?_)
            · rw [decide_eq_true h1, Bool.true_and] at q'
              refine ifD (p := i < 6) (fun h2 => ?_) (fun h2 => ?_)
              · rw [if_pos (decide_eq_true (by omega))] at q'
                exact ⟨sz2, q'⟩
              · rw [if_neg (by simp; omega)] at q'
                exact q'
            · rw [decide_eq_false h1, Bool.false_and] at q'
              exact q'
          | bool b => exact ⟨rfl, rfl, nrm_in q⟩
          | dict _ => have := gd_nd gy; cases this
          | _ => exact ⟨rfl, nrm_in q⟩
      refine seq_on [] (fun cs => cs = []) (fun N hN => optD_of (at_hd _ _) (ifD (fun h => absurd h hz) (fun _ => hN [] rfl))) ?_
      rintro cs rfl
      obtain ⟨hl, hp⟩ := parts_of_tup hg hw hd
      show sSeq _ _ _ [_, _, _, _, _, _]
      have hns : notScr sidesD := fun ⟨l, e⟩ => by cases e
      by_cases hs : kdGet sidesK z = some ((xs.length : Nat) : Int)
      case neg =>
        refine seq_on [] (fun _ => False) (fun N hN => ?_) (fun cs h => h.elim)
        rw [ms_len hz hs] at q
        refine ⟨hns, optD_of (at_hd _ _) ⟨⟨.inr z, rfl⟩, ?_⟩⟩
        rw [look_side]
        refine ifN (fun _ => q) (fun h => absurd ?_ hs)
        rw [List.length_cons] at h
        cases hk : kdGet sidesK z with
        | none => rw [hk] at h; have h' : ((xs.length + 1 : Nat) : Int) - 1 = -1 := h; omega
        | some n => rw [hk] at h; have h' : ((xs.length + 1 : Nat) : Int) - 1 = n := h; rw [show n = ((xs.length : Nat) : Int) by omega]
      refine seq_on [] (fun cs => cs = []) (fun N hN => ?_) ?_
      · refine ⟨hns, optD_of (at_hd _ _) ⟨⟨.inr z, rfl⟩, ?_⟩⟩
        rw [look_side, hs]
        refine ifN (fun h => absurd ?_ h) (fun _ => hN [] rfl)
        show (((PyData.str z :: xs).length : Nat) : Int) - 1 = ((xs.length : Nat) : Int)
        rw [List.length_cons]; omega
      rintro cs rfl
      show sSeq _ _ _ [_, _, _, _, _, _]
      rw [ms_side hz hs] at q
      have hx0 : xs ≠ [] := fun h => by
        subst h
        have h1 := (side_pos hs).1
        exact absurd h1 (by decide)
      refine seq_on [2, 4] (fun cs => cs = [some (.own (.lst (xs.map fun x => msO (ms x)))), none]) (fun N hN => ?_) ?_
      · show (cutD (PyData.str z :: xs) (some 1) none).length ≤ sizeLine ∧ compD true [4] tYesD _ (cutD (PyData.str z :: xs) (some 1) none) [] [_, _, _, _, _, _] _
        rw [drop_one]
        refine ⟨by omega, ?_⟩
        refine comp_map xs _ (fun x => msO (ms x)) (fun x hx q hq => ?_) (nrm_in (hN [_, _] rfl))
        obtain ⟨g1, g2, j, rfl, g3⟩ := hp x hx
        exact ⟨rfl, .nil, B, S, x, rfl, g1, g2, g3, hq _ rfl⟩
      rintro cs rfl
      show sSeq _ _ _ [_, _, _, _, _, _]
      cases ha : msAll xs with
      | none =>
        refine seq_on [] (fun _ => False) (fun N hN => ?_) (fun cs h => h.elim)
        rw [ha] at q
        refine ⟨by decide, msO_shaped xs, ?_⟩
        refine bT (by show ((xs.map fun x => msO (ms x)).any fun z => PyData.eqv z .none) = true; rw [ms_anyN, ha]; rfl) q
      | some s =>
        rw [ha] at q
        obtain ⟨ps, e1, e2, e3, e4, e5⟩ := msAll_some ha
        have hps : ps ≠ [] := fun h => by subst h; cases xs with
          | nil => exact hx0 rfl
          | cons _ _ => cases e1
        have lps : ps.length = xs.length := by have := congrArg List.length e1; simpa using this.symm
        refine seq_on [2] (fun cs => cs = [some (.sh (.list (ps.map fun p => PyData.tuple [.int p.1, .int p.2])))]) (fun N hN => ?_) ?_
        · refine ⟨by decide, msO_shaped xs, ?_⟩
          refine bF (by show ((xs.map fun x => msO (ms x)).any fun z => PyData.eqv z .none) = false; rw [ms_anyN, ha]; rfl) ?_
          have := hN [_] rfl
          rw [← ms_found e1] at this
          exact this
        rintro cs rfl
        show sRet _ _ [_, _, _, _, _, _]
        refine ⟨by rw [List.length_map]; omega, ?_⟩
        refine comp_mapA ps (fun p => PyData.tuple [.int p.1, .int p.2]) _ (fun p => .int p.1) (fun p hp q hq => hq _ rfl) ?_
        refine ⟨ps.map (·.1), by rw [List.map_map]; rfl, ?_⟩
        refine ⟨by rw [List.length_map]; omega, ?_⟩
        refine comp_mapA ps (fun p => PyData.tuple [.int p.1, .int p.2]) _ (fun p => .int p.2) (fun p hp q hq => hq _ rfl) ?_
        refine ⟨ps.map (·.2), by rw [List.map_map]; rfl, by rw [List.length_map]; exact List.length_pos_iff.2 hps, fun m hm hy => ?_⟩
        rw [max_is e3 (e5 hps) hm hy, ← e2]
        exact ⟨sz2, q⟩
  | dict _ => cases nd
  | _ =>
    rw [ms_no (by intro z xs e; cases e)] at q
    exact ⟨rfl, q⟩
def b_is_right_f (sp_law_measure : DSp) : DTS :=
  (sSeq (sSet 1 (eCallF 1 sp_law_measure (cCons (eVar 0) cNil)))
  (sRet (eAnd (eOp2 pIsN (eVar 1) (eC .none)) (eAnd (eOp2 pLt (eIxV 1 (eC (.int 0))) (eC (.int 25))) (eOp2 pLt (eIxV 1 (eC (.int 1))) (eC (.int 9)))))))
def sp_is_right_f : DSp := sp_is_formula
theorem p_is_right_f (cs post) (h : sp_is_right_f cs post) : runD 2 (b_is_right_f (sp_measure_a 16)) cs post := by
  obtain ⟨B, S, d, rfl, hg, hw, hd, q⟩ := h
  refine nrm_in ?_
  show sSeq _ _ _ [_, _]
  refine seq_on [1] (fun cs => cs = [some (.sh (msO (ms d)))]) (fun N hN => ⟨rfl, .nil, B, S, d, rfl, hg, hw, ⟨hd, by omega⟩, nrm_in (hN [_] rfl)⟩) ?_
  rintro cs rfl
  show sRet _ _ [_, _]
  unfold fmB at q
  cases h : ms d with
  | none => rw [h] at q; exact q
  | some p =>
    rw [h] at q
    have q' : post (.sh (.bool (decide (p.1 ≤ 24) && decide (p.2 ≤ 8)))) [] := q
    rw [show decide (p.1 ≤ 24) = decide (p.1 < 25) from decide_eq_decide.2 (by omega), show decide (p.2 ≤ 8) = decide (p.2 < 9) from decide_eq_decide.2 (by omega)] at q'
    refine ifD (p := p.1 < 25) (fun h => ?_) (fun h => ?_)
    · rw [decide_eq_true h, Bool.true_and] at q'; exact q'
    · rw [decide_eq_false h, Bool.false_and] at q'; exact q'
end DL
end

section
set_option Elab.async false
set_option linter.all false
set_option maxRecDepth 100000
set_option maxHeartbeats 1000000
/-! ## l.pop(i) -/
namespace DL
open PySem PySem.Spec PyProof.Rows L2
section
variable {X : Cx}
def pPopA (ds es : List D) (q : D → List D → Prop) : Prop := match es with
  | [.int i] => ∃ (k : Nat) (d : D), i = (k : Nat) ∧ k < 2 ^ 62 ∧ ds[k]? = some d ∧ q d (ds.eraseIdx k)
  | _ => False
theorem vm_popA : VMut rPopAt pPopA := by
  intro K F H a vs ds xs es q Q s ha fa p1 p2 t h
  match es, p2, t with
  | [.int i], .cons (.int _) .nil, ⟨k, d, e, hk, hd, t⟩ =>
    subst e
    obtain ⟨v, h1, h2⟩ := p1.getD (i := k) hd
    obtain ⟨hl, _⟩ := List.getElem?_eq_some_iff.mp h1
    refine ⟨a, vs, _, k, v, rfl, rfl, ha, by omega, by omega, ?_, h1, h d (ds.eraseIdx k) v (vs.eraseIdx k) t ?_ h2⟩
    · unfold seqIndex?
      simp
      omega
    · rw [List.eraseIdx_eq_take_drop_succ, List.eraseIdx_eq_take_drop_succ]
      exact (p1.take k).append (p1.drop (k + 1))
theorem d_popA (i : Nat) {x : Str} {e : Expr} {ta : DTA} {p apos cpos : Pos} (ha : DA X [e] ta) (hN : X.N[i]? = some x := by rfl) (hvis : Vis X.env.scope x := by first | exact Or.inl rfl | exact Or.inr (Or.inl rfl) | exact Or.inr (Or.inr rfl)) (hd : (x == ("__debug__" : Str)) = false := by decide) (hcd : (x == ("__classdict__" : Str)) = false := by decide)
    (hbase : attributeBase (.Name x p) "pop" X.env (eval (.Name x p) X.env) = eval (.Name x p) X.env := by rfl) (hline : (apos.endLine == cpos.line) = true := by rfl)
    (hfew : ((backTo cpos (starEach [e] X.env)).all (fun x => !x.1) && (backToKw cpos (keywordEach [] X.env)).all (fun x => x.1.isSome) && decide ([e].length + ([] : List Keyword).length + (if ([] : List Keyword).isEmpty then 0 else 1) < 30)) = true := by rfl)
    (hst : starEach [e] X.env = (false, eval e X.env) :: starEach [] X.env := by rfl) (hpl : (backTo cpos (starEach [] X.env)).any (·.1) = false := by rfl) :
    DE X (.Call (.Attribute (.Name x p) "pop" apos) [e] [] cpos) (eMutL i pPopA ta) :=
  d_mut i PySem.F.slot_list_pop PySem.F.type_list_pop mt_popAt vm_popA ha hN hvis hd hcd fun W => pe_bm PySem.F.plainAttrs_list PySem.F.slot_list_pop PySem.F.type_list_pop mt_popAt (pe_var hN hvis hd hcd) (ha.run W) hbase hfew hline hst hpl
end
end DL
end

section
set_option Elab.async false
set_option linter.all false
set_option maxRecDepth 100000
/-! ## fractions: order, how far off -/
namespace DL
open PySem PySem.Spec PyProof.Rows L2 MK
theorem den_pos (x : Rat) : (0 : Int) < (x.den : Int) := by have := x.den_nz; omega
theorem dv_lt {a c b : Int} (hb : 0 < b) : Rat.divInt a b < Rat.divInt c b ↔ a < c := by
  have h1 := dv_cross (a := a) (b := b) (by omega)
  have h2 := dv_cross (a := c) (b := b) (by omega)
  rw [Rat.lt_iff]
  have d1 := den_pos (Rat.divInt a b)
  have d2 := den_pos (Rat.divInt c b)
  generalize (Rat.divInt a b).num = xn at *
  generalize (Rat.divInt c b).num = yn at *
  generalize ((Rat.divInt a b).den : Int) = xd at *
  generalize ((Rat.divInt c b).den : Int) = yd at *
  have hp : 0 < xd * yd := Int.mul_pos d1 d2
  constructor
  · intro h
    have h3 : xn * yd * b < yn * xd * b := Int.mul_lt_mul_of_pos_right h hb
    have e1 : xn * yd * b = a * (xd * yd) := by
      rw [Int.mul_right_comm, h1, Int.mul_assoc]
    have e2 : yn * xd * b = c * (xd * yd) := by
      rw [Int.mul_right_comm, h2, Int.mul_assoc, Int.mul_comm yd]
    rw [e1, e2] at h3
    exact Int.lt_of_mul_lt_mul_right h3 (by omega)
  · intro h
    have h3 : a * (xd * yd) < c * (xd * yd) := Int.mul_lt_mul_of_pos_right h hp
    have e1 : xn * yd * b = a * (xd * yd) := by
      rw [Int.mul_right_comm, h1, Int.mul_assoc]
    have e2 : yn * xd * b = c * (xd * yd) := by
      rw [Int.mul_right_comm, h2, Int.mul_assoc, Int.mul_comm yd]
    rw [← e1, ← e2] at h3
    exact Int.lt_of_mul_lt_mul_right h3 (by omega)
theorem dv_neg {a b : Int} (hb : 0 < b) : (Rat.divInt a b).num < 0 ↔ a < 0 := by
  have h1 := dv_cross (a := a) (b := b) (by omega)
  have d1 := den_pos (Rat.divInt a b)
  generalize (Rat.divInt a b).num = xn at *
  generalize ((Rat.divInt a b).den : Int) = xd at *
  constructor
  · intro h
    have h3 : xn * b < 0 := Int.mul_neg_of_neg_of_pos h hb
    rw [h1] at h3
    rcases (by omega : a < 0 ∨ 0 ≤ a) with z | z
    · exact z
    · have := Int.mul_nonneg z (by omega : 0 ≤ xd); omega
  · intro h
    have h3 : a * xd < 0 := Int.mul_neg_of_neg_of_pos h d1
    rw [← h1] at h3
    rcases (by omega : xn < 0 ∨ 0 ≤ xn) with z | z
    · exact z
    · have := Int.mul_nonneg z (by omega : 0 ≤ b); omega
def absR (x : Rat) : Rat := if x.num < 0 then -x else x
theorem abs_dv {a b : Int} (hb : 0 < b) : absR (Rat.divInt a b) = Rat.divInt (absI a) b := by
  unfold absR absI
  by_cases h : a < 0
  · rw [if_pos ((dv_neg hb).2 h), if_pos h, Rat.neg_divInt]
  · rw [if_neg (fun z => h ((dv_neg hb).1 z)), if_neg h]
theorem fD_abs (x : Rat) : fD (absR x) = .tuple [.int (if x.num < 0 then -x.num else x.num), .int (x.den : Int)] := by
  unfold absR fD
  split
  · rw [Rat.neg_num, Rat.neg_den]
  · rfl
theorem Szr.abs {n : Nat} {x : Rat} (h : Szr n x) : Szr n (absR x) := by
  unfold absR
  split
  · exact ⟨by rw [Rat.neg_num]; exact h.1.neg, by rw [Rat.neg_den]; exact h.2⟩
  · exact h
theorem share_sz {bs : List Int} (hb : Bits bs) (h0 : 0 < bs.length) (hl : bs.length < 2 ^ 24) : Szr 24 (shareR bs) := by
  have s := bits_sum hb
  refine Szr.of ?_ (Szl hl) (by omega)
  show bs.sum.natAbs < 2 ^ 24
  omega
end DL
end

section
set_option Elab.async false
set_option linter.all false
set_option maxRecDepth 100000
set_option maxHeartbeats 1000000
/-! ## drawn makers (another way) -/
namespace DL
open PySem PySem.Spec PyProof.Rows L2 MK
def b_alone : DTS :=
  (sSeq (sWhile (tBl (eOp2 pGt (eVar 1) (eC (.int 0)))) (sPar 0 1 (aCons (eVar 1) (aCons (eOp2 pMod (eVar 0) (eVar 1)) aNil))))
  (sRet (eOp2 pEq (eVar 0) (eC (.int 1)))))
def b_maker_c (sp_law_alone : DSp) (sp_law_maker : DSp) (sp_law_take : DSp) : DTS :=
  (sSeq (sAsg (eTup (aCons (eCallF 2 sp_law_take (cIo 0 (cCons (eC (.int 9)) cNil))) (aCons (eOp2 pAdd (eC (.int 1)) (eCallF 2 sp_law_take (cIo 0 (cCons (eVar 2) cNil)))) aNil))) (gTp' 2 (gsCons (gNm 3) (gsCons (gNm 4) gsNil))))
  (sSeq (sIf (tAn (tBl (eOp2 pGt (eVar 3) (eC (.int 5)))) (tBl (eOp2 pGt (eVar 1) (eC (.int 0))))) (sSeq (sSet 9 (eOp2 pIx (eFrz (oLst (aCons (eC (.str "slow")) (aCons (eC (.str "slip")) (aCons (eC (.str "late")) aNil))))) (eOp2 pSub (eVar 3) (eC (.int 6)))))
  (sRet (eTup (aCons (eVar 9) (aCons (eOp2 pIx (eFrz (oLst (aCons (eOp2 pAdd (eC (.int 1)) (eCallF 2 sp_law_take (cIo 0 (cCons (eC (.int 4)) cNil)))) (aCons (eCallF 2 sp_law_take (cIo 0 (cCons (eC (.int 65)) cNil))) aNil)))) (eCall pInt (aCons (eOp2 pEq (eVar 9) (eC (.str "late"))) aNil))) (aCons (eCallF 3 sp_law_maker (cIo 0 (cCons (eOp2 pSub (eVar 1) (eC (.int 1))) (cCons (eVar 2) cNil)))) aNil)))))) sNext)
  (sSeq (sSet 5 (eFrz (oLst (aCons (eC (.int 1)) (aCons (eC (.int 2)) (aCons (eC (.int 4)) (aCons (eC (.int 8)) (aCons (eC (.int 16)) (aCons (eC (.int 32)) (aCons (eC (.int 64)) aNil))))))))))
  (sSeq (sSetO 6 (oComp true [7] (iR2 (aCons (eC (.int 1)) (aCons (eC (.int 7)) aNil))) (tBl (eOp2 pLe (eIxV 5 (eVar 7)) (eCall pMax2 (aCons (eVar 2) (aCons (eC (.int 4)) aNil))))) (eVar 7)))
  (sSeq (sSet 7 (eIxV 6 (eCallF 2 sp_law_take (cIo 0 (cCons (eLenV 6) cNil)))))
  (sSeq (sIf (tBl (eOp2 pEq (eVar 3) (eC (.int 3)))) (sRet (eTup (aCons (eC (.str "turned")) (aCons (eVar 7) (aCons (eCallF 2 sp_law_take (cIo 0 (cCons (eIxV 5 (eVar 7)) cNil))) aNil))))) sNext)
  (sSeq (sIf (tAn (tBl (eOp2 pEq (eVar 3) (eC (.int 4)))) (tBl (eOp2 pGt (eVar 7) (eC (.int 1))))) (sSeq (sSet 10 (eOp2 pAdd (eIxV 5 (eOp2 pSub (eVar 7) (eC (.int 1)))) (eCallF 2 sp_law_take (cIo 0 (cCons (eIxV 5 (eOp2 pSub (eVar 7) (eC (.int 1)))) cNil)))))
  (sRet (eTup (aCons (eC (.str "register")) (aCons (eVar 7) (aCons (eVar 10) (aCons (eOp2 pAdd (eC (.int 1)) (eCallF 2 sp_law_take (cIo 0 (cCons (eOp2 pSub (eIxV 5 (eVar 7)) (eC (.int 1))) cNil)))) aNil))))))) sNext)
  (sSeq (sIf (tBl (eOp2 pEq (eVar 3) (eC (.int 5)))) (sRet (eTup (aCons (eC (.str "table")) (aCons (eCall pTup (aCons (eFrz (oComp true [12] (iR1 (aCons (eVar 4) aNil)) tYesD (eCallF 2 sp_law_take (cIo 0 (cCons (eOp2 pIx (eFrz (oLst (aCons (eC (.int 4)) (aCons (eC (.int 64)) aNil)))) (eCallF 2 sp_law_take (cIo 0 (cCons (eC (.int 2)) cNil)))) cNil))))) aNil)) aNil)))) sNext)
  (sSeq (sSetO 8 (oComp true [11] (iR2 (aCons (eC (.int 1)) (aCons (eOp2 pAdd (eVar 4) (eC (.int 1))) aNil))) (tTru (eCallF 2 sp_law_alone (cCons (eVar 11) (cCons (eVar 4) cNil)))) (eVar 11)))
  (sRet (eTup (aCons (eC (.str "counter")) (aCons (eVar 4) (aCons (eIxV 8 (eCallF 2 sp_law_take (cIo 0 (cCons (eLenV 8) cNil)))) (aCons (eCallF 2 sp_law_take (cIo 0 (cCons (eVar 4) cNil))) aNil)))))))))))))))
def sp_alone : DSp := fun cs post => ∃ a b : Nat, cs = [.sh (.int (a : Nat)), .sh (.int (b : Nat))] ∧ post (.sh (.bool (decide (Nat.gcd a b = 1)))) []
theorem p_alone (cs post) (h : sp_alone cs post) : runD 2 b_alone cs post := by
  obtain ⟨a, b, rfl, q⟩ := h
  refine ⟨fun m r => ∃ c d : Nat, r = [some (.sh (.int (c : Nat))), some (.sh (.int (d : Nat)))] ∧ m = d ∧ Nat.gcd c d = Nat.gcd a b, ⟨b, a, b, rfl, rfl, rfl⟩, ?_⟩
  rintro m r ⟨c, d, rfl, hm, hg⟩
  refine ifD (fun h => ?_) (fun h => ?_)
  · have hd : 0 < d := by omega
    exact ⟨h, c % d, by rw [hm]; exact Nat.mod_lt _ hd, d, c % d, rfl, rfl, by rw [← hg, Nat.gcd_comm c d, Nat.gcd_rec d c, Nat.gcd_comm]⟩
  · have hd : d = 0 := by omega
    subst hd
    have e : c = Nat.gcd a b := by rw [← hg, Nat.gcd_zero_right]
    have e2 : decide ((c : Int) = 1) = decide (Nat.gcd a b = 1) := by
      exact decide_eq_decide.2 ⟨fun h => by omega, fun h => by omega⟩
    rw [← e2] at q
    exact q
/-- a bound of a maker's rounds: four for each wrapping -/
def bnd (deep most : Nat) : Nat := 4 ^ deep * max most 4
theorem In.mono : ∀ {m : Mk} {n k : Int}, m.In n → n ≤ k → m.In k
  | .slow _ m, _, _, h, l => ⟨Int.le_trans h.1 l, In.mono (m := m) h.2 l⟩
  | .slip _ m, _, _, h, l => ⟨Int.le_trans h.1 l, In.mono (m := m) h.2 l⟩
  | .late _ m, _, _, h, l => In.mono (m := m) h l
  | .counter _ _ _, _, _, h, l => Int.le_trans h l
  | .turned _ _, _, _, h, l => Int.le_trans h l
  | .register _ _ _, _, _, h, l => Int.le_trans h l
  | .table _, _, _, h, l => Int.le_trans h l
theorem In.sm : ∀ {m : Mk} {n : Int}, m.In n → n < 2 ^ 22 → m.Sm
  | .slow _ m, _, h, l => ⟨by have := h.1; omega, In.sm (m := m) h.2 l⟩
  | .slip _ m, _, h, l => ⟨by have := h.1; omega, In.sm (m := m) h.2 l⟩
  | .late _ m, _, h, l => In.sm (m := m) h l
  | .counter _ _ _, _, _, _ => trivial
  | .turned _ _, _, _, _ => trivial
  | .register _ _ _, _, _, _ => trivial
  | .table _, _, _, _ => trivial
theorem In.round : ∀ {m : Mk} {n : Int}, m.In n → (m.round : Int) ≤ n
  | .slow _ _, _, h => h.1
  | .slip _ _, _, h => h.1
  | .late _ m, _, h => In.round (m := m) h
  | .counter _ _ _, _, h => h
  | .turned _ _, _, h => h
  | .register _ _ _, _, h => h
  | .table _, _, h => h
theorem bnd_step {d w k r : Nat} (hk : k ≤ 4) (h : (r : Int) ≤ (bnd d w : Nat)) : ((k * r : Nat) : Int) ≤ (bnd (d + 1) w : Nat) := by
  have h1 : r ≤ bnd d w := by omega
  have h2 : k * r ≤ 4 * bnd d w := Nat.mul_le_mul hk h1
  have h3 : bnd (d + 1) w = 4 * bnd d w := by unfold bnd; rw [Nat.pow_succ, Nat.mul_comm (4 ^ d), Nat.mul_assoc]
  rw [h3]; omega
theorem bnd_up {d w : Nat} : ((bnd d w : Nat) : Int) ≤ (bnd (d + 1) w : Nat) := by
  have h3 : bnd (d + 1) w = 4 * bnd d w := by unfold bnd; rw [Nat.pow_succ, Nat.mul_comm (4 ^ d), Nat.mul_assoc]
  rw [h3]; omega
theorem bnd_base {d w n : Nat} (h : n ≤ max w 4) : ((n : Nat) : Int) ≤ (bnd d w : Nat) := by
  have h1 : 1 ≤ 4 ^ d := Nat.pow_pos (by decide)
  have h2 : 1 * max w 4 ≤ 4 ^ d * max w 4 := Nat.mul_le_mul_right _ h1
  unfold bnd
  omega
def sp_maker_c : Nat → DSp
  | 0 => fun _ _ => False
  | k + 1 => fun cs post => ∃ (b : M) (B : Int) (deep most : Nat), cs = [.io b, .sh (.int (deep : Nat)), .sh (.int (most : Nat))] ∧ Box B b ∧ B + 200 + 10 * (deep : Int) < farB ∧ deep ≤ k ∧ deep ≤ 3 ∧ 1 ≤ most ∧ most ≤ 64 ∧ ∀ (m : Mk) b', m.Ok → m.wraps ≤ deep → m.In (bnd deep most : Nat) → Box (B + 200 + 10 * (deep : Int)) b' → post (.sh (mD m)) [b']
theorem sp_maker_c_none (cs post) (h : sp_maker_c 0 cs post) : False := h
theorem p_maker_c (k : Nat) (cs post) (h : sp_maker_c (k + 1) cs post) : runD 13 (b_maker_c sp_alone (sp_maker_c k) sp_take) cs post := by
  obtain ⟨m, B, deep, most, rfl, bm, hB, hdk, hd3, hm1, hm2, q⟩ := h
  have hf : farB = 1099511627776 := by decide
  have hbig := line_big
  refine nrm_in ?_
  show sSeq _ _ _ [_, _, _, _, _, _, _, _, _, _, _, _, _]
  refine seq_on [0, 3, 4] (fun cs => ∃ (m : M) (way n : Nat), cs = [some (.io m), some (.sh (.int (way : Nat))), some (.sh (.int (n : Nat)))] ∧ way < 9 ∧ 1 ≤ n ∧ n ≤ most ∧ Box (B + 2) m) (fun N hN => ?_) ?_
  · refine ⟨rfl, rfl, nd1 0, m, B, 9, rfl, bm, by omega, by decide, by decide, fun v1 m1 a1 z1 b1 => ?_⟩
    refine ⟨rfl, rfl, nd1 0, m1, _, _, rfl, b1, by omega, by omega, by omega, fun v2 m2 a2 z2 b2 => ?_⟩
    obtain ⟨v1, rfl⟩ := Int.eq_ofNat_of_zero_le a1
    obtain ⟨v2, rfl⟩ := Int.eq_ofNat_of_zero_le a2
    refine ⟨sz2, rfl, hN [_, _, _] ⟨m2, v1, 1 + v2, ?_, by omega, by omega, by omega, b2.le (by omega)⟩⟩
    rw [show (((1 + v2 : Nat)) : Int) = 1 + (v2 : Int) by omega]
  rintro cs ⟨m1, way, n, rfl, hway, hn1, hn2, b1⟩
  show sSeq _ _ _ [_, _, _, _, _, _, _, _, _, _, _, _, _]
  refine seq_on [] (fun cs => cs = []) (fun N hN => ?_) ?_
  · refine ifD (fun h5 => ?_) (fun _ => hN [] rfl)
    refine ifD (fun hd0 => ?_) (fun _ => hN [] rfl)
    obtain ⟨d, rfl⟩ : ∃ d, deep = d + 1 := ⟨deep - 1, by omega⟩
    cases k with
    | zero => omega
    | succ k =>
    have ed : (((d + 1 : Nat)) : Int) - 1 = (d : Nat) := by omega
    have hw : ∀ {q : D → Prop}, ((way = 6 → q (.str "slow")) ∧ (way = 7 → q (.str "slip")) ∧ (way = 8 → q (.str "late"))) → optD (atI [PyData.str "slow", .str "slip", .str "late"] ((way : Int) - 6)) q := fun {q} h => by
      rcases (by omega : way = 6 ∨ way = 7 ∨ way = 8) with rfl | rfl | rfl
      · exact h.1 rfl
      · exact h.2.1 rfl
      · exact h.2.2 rfl
    refine ⟨sz3, hw ⟨fun _ => ?_, fun _ => ?_, fun _ => ?_⟩⟩
    all_goals
      refine ⟨rfl, rfl, nd1 0, m1, _, 4, rfl, b1, by omega, by decide, by decide, fun v3 m3 a3 z3 b3 => ?_⟩
      refine ⟨rfl, rfl, nd1 0, m3, _, 65, rfl, b3, by omega, by decide, by decide, fun v4 m4 a4 z4 b4 => ?_⟩
      obtain ⟨v3, rfl⟩ := Int.eq_ofNat_of_zero_le a3
      obtain ⟨v4, rfl⟩ := Int.eq_ofNat_of_zero_le a4
      refine ⟨sz2, rfl, rfl, nd1 0, m4, _, d, most, congrArg (fun x => [Cell.io m4, .sh (.int x), .sh (.int (most : Nat))]) ed, b4, by omega, by omega, by omega, hm1, hm2, fun mk m5 ok ww hin b5 => ⟨sz3, ?_⟩⟩
    · have q' := q (.slow (1 + v3) mk) m5 ⟨by omega, by omega, ok⟩ (Nat.succ_le_succ ww) ⟨bnd_step (by omega) (In.round hin), In.mono hin bnd_up⟩ (b5.le (by omega))
      unfold mD at q'
      rw [show (((1 + v3 : Nat)) : Int) = 1 + (v3 : Int) by omega] at q'
      exact q'
    · have q' := q (.slip (1 + v3) mk) m5 ⟨by omega, by omega, ok⟩ (Nat.succ_le_succ ww) ⟨bnd_step (by omega) (Int.le_trans (Int.ofNat_le.2 (Nat.div_le_self _ _)) (In.round hin)), In.mono hin bnd_up⟩ (b5.le (by omega))
      unfold mD at q'
      rw [show (((1 + v3 : Nat)) : Int) = 1 + (v3 : Int) by omega] at q'
      exact q'
    · exact q (.late v4 mk) m5 ⟨by omega, ok⟩ (Nat.succ_le_succ ww) (In.mono (m := mk) hin bnd_up) (b5.le (by omega))
  rintro cs rfl
  show sSeq _ _ _ [_, _, _, _, _, _, _, _, _, _, _, _, _]
  refine seq_on [5] (fun cs => cs = [some (.sh (.list (pows.map PyData.int)))]) (fun N hN => ⟨sz7, hN [_] rfl⟩) ?_
  rintro cs rfl
  show sSeq _ _ _ [_, _, _, _, _, _, _, _, _, _, _, _, _]
  have at_p : ∀ (i : Nat), i < 6 → atI (pows.map PyData.int) (1 + (i : Int)) = some (.int (2 ^ (1 + i) : Nat)) := fun i hi => by
    rw [show (1 + (i : Int)) = ((1 + i : Nat) : Int) by omega]
    exact at_pows (by omega)
  have emx : (if (4 : Int) > (most : Nat) then (4 : Int) else (most : Nat)) = ((max most 4 : Nat) : Int) := by
    split <;> omega
  refine seq_on [6, 7] (fun cs => ∃ c7, cs = [some (.own (.lst (((List.range 6).filter fun i : Nat => decide (2 ^ (1 + i) ≤ max most 4)).map fun i : Nat => PyData.int (1 + (i : Int))))), c7]) (fun N hN => ?_) ?_
  · refine ⟨by decide, by rw [rngD_len]; show 6 ≤ _; omega, ?_⟩
    refine comp_filterA (List.range 6) _ _ (fun i => decide (2 ^ (1 + i) ≤ max most 4)) (fun i => .int (1 + (i : Int))) (fun i hi q q' h1 h2 => ?_) (hN [_, _] ⟨_, rfl⟩)
    have hi6 := List.mem_range.1 hi
    refine optD_of (at_p i hi6) ?_
    have e : decide (((2 ^ (1 + i) : Nat) : Int) ≤ (if (4 : Int) > (most : Nat) then (4 : Int) else (most : Nat))) = decide (2 ^ (1 + i) ≤ max most 4) := by
      rw [emx]; exact decide_eq_decide.2 ⟨fun h => by omega, fun h => by omega⟩
    by_cases hp : 2 ^ (1 + i) ≤ max most 4
    · exact bT (by rw [e]; exact decide_eq_true hp) (h1 (decide_eq_true hp) _ rfl)
    · exact bF (by rw [e]; exact decide_eq_false hp) (h2 (decide_eq_false hp) _ rfl)
  rintro cs ⟨c7, rfl⟩
  show sSeq _ _ _ [_, _, _, _, _, _, _, _, _, _, _, _, _]
  refine seq_on [0, 7] (fun cs => ∃ (m : M) (w : Nat), cs = [some (.io m), some (.sh (.int (w : Nat)))] ∧ 1 ≤ w ∧ w ≤ 6 ∧ 2 ^ w ≤ max most 4 ∧ Box (B + 3) m) (fun N hN => ?_) ?_
  · have hpos : 0 < (((List.range 6).filter fun i : Nat => decide (2 ^ (1 + i) ≤ max most 4)).map fun i : Nat => PyData.int (1 + (i : Int))).length := by
      rw [List.length_map]
      refine List.length_pos_of_mem (a := 0) (List.mem_filter.2 ⟨List.mem_range.2 (by decide), decide_eq_true (by show 2 ≤ _; omega)⟩)
    have hle := List.length_filter_le (fun i : Nat => decide (2 ^ (1 + i) ≤ max most 4)) (List.range 6)
    rw [List.length_range] at hle
    refine ⟨rfl, rfl, nd1 0, m1, _, _, rfl, b1, by omega, by omega, by rw [List.length_map]; omega, fun v2 m2 a2 z2 b2 => ?_⟩
    obtain ⟨j, hj, hp, e⟩ := filter_at a2 z2
    refine optD_of e (hN [_, _] ⟨m2, 1 + j, ?_, by omega, by omega, of_decide_eq_true hp, b2.le (by omega)⟩)
    rw [show (((1 + j : Nat)) : Int) = 1 + (j : Int) by omega]
  rintro cs ⟨m2, w, rfl, w1, w6, hwm, b2⟩
  show sSeq _ _ _ [_, _, _, _, _, _, _, _, _, _, _, _, _]
  have p1 : 2 ≤ 2 ^ w := Nat.le_trans (by decide : 2 ≤ 2 ^ 1) (Nat.pow_le_pow_right (by decide) w1)
  have p64 : 2 ^ w ≤ 64 := Nat.le_trans (Nat.pow_le_pow_right (by decide) w6) (by decide)
  have hq : ∀ (mk : Mk) (b' : M) (j : Int), mk.Ok → mk.wraps = 0 → mk.plain = true → mk.round ≤ max most 4 → j ≤ 200 → Box (B + j) b' → post (.sh (mD mk)) [b'] := fun mk b' j ok ww hp hr hj hb => q mk b' ok (by omega) (by cases mk <;> first | exact bnd_base hr | cases hp) (hb.le (by omega))
  refine seq_on [] (fun cs => cs = []) (fun N hN => ?_) ?_
  · refine ifD (fun _ => ?_) (fun _ => hN [] rfl)
    refine ⟨rfl, optD_of (at_pows w6) ?_⟩
    refine ⟨rfl, nd1 0, m2, _, _, rfl, b2, by omega, by omega, by omega, fun v5 m5 a5 z5 b5 => ?_⟩
    obtain ⟨v, rfl⟩ := Int.eq_ofNat_of_zero_le a5
    exact ⟨sz3, hq (.turned w v) m5 4 ⟨by omega, by omega, by omega⟩ rfl rfl hwm (by decide) (b5.le (by omega))⟩
  rintro cs rfl
  show sSeq _ _ _ [_, _, _, _, _, _, _, _, _, _, _, _, _]
  refine seq_on [] (fun cs => cs = []) (fun N hN => ?_) ?_
  · refine ifD (fun _ => ?_) (fun _ => hN [] rfl)
    refine ifD (fun hw1 => ?_) (fun _ => hN [] rfl)
    have e2 : 2 ^ w = 2 * 2 ^ (w - 1) := by
      obtain ⟨u, rfl⟩ : ∃ u, w = u + 1 := ⟨w - 1, by omega⟩
      rw [Nat.pow_succ, Nat.add_sub_cancel, Nat.mul_comm]
    have at_w1 : atI (pows.map PyData.int) ((w : Int) - 1) = some (.int (2 ^ (w - 1) : Nat)) := by
      rw [show ((w : Int) - 1) = ((w - 1 : Nat) : Int) by omega]
      exact at_pows (by omega)
    refine optD_of at_w1 ⟨rfl, optD_of at_w1 ?_⟩
    refine ⟨rfl, nd1 0, m2, _, _, rfl, b2, by omega, by omega, by omega, fun v5 m5 a5 z5 b5 => ?_⟩
    refine ⟨rfl, optD_of (at_pows w6) ?_⟩
    refine ⟨rfl, nd1 0, m5, _, _, rfl, b5, by omega, by omega, by omega, fun v6 m6 a6 z6 b6 => ?_⟩
    obtain ⟨t, rfl⟩ := Int.eq_ofNat_of_zero_le a5
    obtain ⟨s, rfl⟩ := Int.eq_ofNat_of_zero_le a6
    have R : Reg w (2 ^ (w - 1) + t) (1 + s) := ⟨by omega, by omega, by omega, by omega, by omega, by omega⟩
    have q' := hq (.register w (2 ^ (w - 1) + t) (1 + s)) m6 5 R rfl rfl (by have := R.period.2.2.1; show period _ _ _ ≤ _; omega) (by decide) (b6.le (by omega))
    refine ⟨sz4, ?_⟩
    unfold mD at q'
    rw [show (((2 ^ (w - 1) + t : Nat) : Int)) = ((2 ^ (w - 1) : Nat) : Int) + (t : Int) by omega, show (((1 + s : Nat)) : Int) = 1 + (s : Int) by omega] at q'
    exact q'
  rintro cs rfl
  show sSeq _ _ _ [_, _, _, _, _, _, _, _, _, _, _, _, _]
  refine seq_on [] (fun cs => cs = []) (fun N hN => ?_) ?_
  · refine ifD (fun _ => ?_) (fun _ => hN [] rfl)
    refine ⟨by omega, by omega, by rw [rngD_len]; omega, ?_⟩
    rw [Int.toNat_natCast]
    refine comp_drawN 0 _ 2 (by decide) (fun d => ∃ x : Int, d = .int x ∧ 0 ≤ x ∧ x ≤ 63) m2 b2 (fun d hd k m q hk1 hk2 hb hq => ?_) (fun vs m' hl hP hb' => ?_)
    · obtain ⟨i, rfl, _⟩ := rng_mem _ _ _ hd
      rw [rngD_len] at hk2
      refine ⟨rfl, sz2, rfl, rfl, nd1 0, m, _, 2, rfl, hb, by omega, by decide, by decide, fun v3 m3 a3 z3 b3 => ?_⟩
      refine at_pick [4, 64] 4 64 a3 (by exact z3) (by simp) fun u hu1 hu2 => ?_
      exact ⟨rfl, nd1 0, m3, _, u, rfl, b3, by omega, by omega, by omega, fun v4 m4 a4 z4 b4 => hq _ m4 ⟨v4, rfl, a4, by omega⟩ (b4.le (by omega)) _ rfl⟩
    · rw [rngD_len] at hl hb'
      obtain ⟨xs, rfl, ok2⟩ := mk_table hn1 (by omega) hl hP
      rw [List.length_map] at hl
      exact ⟨sz2, hq (.table xs) m' 140 ok2 rfl rfl (by show xs.length ≤ _; omega) (by decide) (hb'.le (by omega))⟩
  rintro cs rfl
  show sSeq _ _ _ [_, _, _, _, _, _, _, _, _, _, _, _, _]
  have en : ((n : Int) + 1 - 1).toNat = n := by omega
  refine seq_on [8, 11] (fun cs => cs = [some (.own (.lst (((List.range n).filter fun i : Nat => decide (Nat.gcd (1 + i) n = 1)).map fun i : Nat => PyData.int (1 + (i : Int))))), none]) (fun N hN => ?_) ?_
  · refine ⟨by omega, by rw [rngD_len]; omega, ?_⟩
    rw [en]
    refine comp_filterA (List.range n) _ _ (fun i : Nat => decide (Nat.gcd (1 + i) n = 1)) (fun i : Nat => .int (1 + (i : Int))) (fun i hi q q' h1 h2 => ?_) (hN [_, _] rfl)
    refine ⟨rfl, .nil, 1 + i, n, ?_, ?_⟩
    · rw [show (((1 + i : Nat)) : Int) = 1 + (i : Int) by omega]
    · by_cases hp : Nat.gcd (1 + i) n = 1
      · exact bT (decide_eq_true hp) (h1 (decide_eq_true hp) _ rfl)
      · exact bF (decide_eq_false hp) (h2 (decide_eq_false hp) _ rfl)
  rintro cs rfl
  show sRet _ _ [_, _, _, _, _, _, _, _, _, _, _, _, _]
  have hpos : 0 < (((List.range n).filter fun i : Nat => decide (Nat.gcd (1 + i) n = 1)).map fun i : Nat => PyData.int (1 + (i : Int))).length := by
    rw [List.length_map]
    exact List.length_pos_of_mem (a := 0) (List.mem_filter.2 ⟨List.mem_range.2 (by omega), decide_eq_true (Nat.gcd_one_left n)⟩)
  have hle := List.length_filter_le (fun i : Nat => decide (Nat.gcd (1 + i) n = 1)) (List.range n)
  rw [List.length_range] at hle
  refine ⟨rfl, rfl, nd1 0, m2, _, _, rfl, b2, by omega, by omega, by rw [List.length_map]; omega, fun v5 m5 a5 z5 b5 => ?_⟩
  obtain ⟨j, hj, hp, e⟩ := filter_at a5 z5
  refine optD_of e ?_
  refine ⟨rfl, rfl, nd1 0, m5, _, _, rfl, b5, by omega, by omega, by omega, fun v6 m6 a6 z6 b6 => ?_⟩
  obtain ⟨b, rfl⟩ := Int.eq_ofNat_of_zero_le a6
  have q' := hq (.counter n (1 + j) b) m6 5 ⟨by omega, by omega, by omega, by omega, by omega, by rw [Nat.gcd_comm]; exact of_decide_eq_true hp⟩ rfl rfl (by show n ≤ _; omega) (by decide) (b6.le (by omega))
  unfold mD at q'
  rw [show (((1 + j : Nat)) : Int) = 1 + (j : Int) by omega] at q'
  exact ⟨sz4, q'⟩
end DL
end

section
set_option Elab.async false
set_option linter.all false
set_option maxRecDepth 100000
set_option maxHeartbeats 1000000
/-! ## how far the first bits are off at most, as a number; of a maker's rows -/
namespace DL
open PySem PySem.Spec PyProof.Rows L2 MK
def wpM (bs : List Int) : Int := maxI (aoffs bs)
def wpN (bs : List Int) : Nat := (aoffs bs).idxOf (wpM bs)
theorem absI_nn (i : Int) : 0 ≤ absI i := by unfold absI; split <;> omega
theorem aoffs_get (bs : List Int) {j : Nat} (h : j ≤ bs.length) : (aoffs bs)[j]'(by rw [aoffs_len]; omega) = absI (off bs j) := by simp [aoffs, offs]
theorem wpM_mem (bs : List Int) : wpM bs ∈ aoffs bs := by
  refine maxI_in (fun z => ?_) fun x hx => ?_
  · have := aoffs_len bs
    rw [z] at this
    simp at this
  · obtain ⟨y, _, rfl⟩ := List.mem_map.1 hx
    exact absI_nn y
theorem wpM_le (bs : List Int) : ∀ y ∈ aoffs bs, y ≤ wpM bs := fun y h => maxI_le h
theorem idxOf_of {l : List Int} {x : Int} {k : Nat} (hk : k < l.length) (e : l[k] = x) (hne : ∀ (j : Nat) (h : j < k), l[j] ≠ x) : l.idxOf x = k := by
  have hm : x ∈ l := e ▸ List.getElem_mem hk
  have hl : l.idxOf x < l.length := List.idxOf_lt_length_iff.2 hm
  rcases Nat.lt_trichotomy (l.idxOf x) k with h | h | h
  · exact absurd (List.getElem_idxOf hl) (hne _ h)
  · exact h
  · have := List.not_of_lt_findIdx (p := (· == x)) (xs := l) (i := k) h
    simp [e] at this
/-- the greatest, and the least place that has it -/
structure IsWp (bs : List Int) (M : Int) (n : Nat) : Prop where
  le : n ≤ bs.length
  eq : absI (off bs n) = M
  all : ∀ j, j ≤ bs.length → absI (off bs j) ≤ M
  fst : ∀ j, j < n → absI (off bs j) < M
theorem isWp (bs : List Int) : IsWp bs (wpM bs) (wpN bs) := by
  have hm := wpM_mem bs
  have hl : wpN bs < (aoffs bs).length := List.idxOf_lt_length_iff.2 hm
  have hl2 : wpN bs ≤ bs.length := by rw [aoffs_len] at hl; omega
  have all : ∀ j, j ≤ bs.length → absI (off bs j) ≤ wpM bs := fun j hj => by
    rw [← aoffs_get bs hj]; exact wpM_le bs _ (List.getElem_mem _)
  refine ⟨hl2, ?_, all, fun j hj => ?_⟩
  · rw [← aoffs_get bs hl2]; exact List.getElem_idxOf hl
  · have h1 := all j (by omega)
    rcases Int.lt_or_eq_of_le h1 with h | h
    · exact h
    · exfalso
      rw [← aoffs_get bs (by omega : j ≤ bs.length)] at h
      have := List.not_of_lt_findIdx (p := (· == wpM bs)) (xs := aoffs bs) (i := j) hj
      simp [h] at this
theorem IsWp.uniq {bs : List Int} {M M' : Int} {n n' : Nat} (h : IsWp bs M n) (h' : IsWp bs M' n') : M = M' ∧ n = n' := by
  have e : M = M' := by
    have a := h.all n' h'.le
    have b := h'.all n h.le
    have c := h.eq
    have d := h'.eq
    omega
  subst e
  refine ⟨rfl, ?_⟩
  rcases Nat.lt_trichotomy n n' with k | k | k
  · have := h'.fst n k; have := h.eq; omega
  · exact k
  · have := h.fst n' k; have := h'.eq; omega
theorem wpM_nn (bs : List Int) : 0 ≤ wpM bs := by rw [← (isWp bs).eq]; exact absI_nn _
theorem wpM_sz {bs : List Int} (hb : Bits bs) (hl : bs.length < 2 ^ 20) : wpM bs < 2 ^ 42 := by
  rw [← (isWp bs).eq]
  have := off_sz hb hl (isWp bs).le
  unfold absI
  split <;> omega
/-- what worst_part tells -/
def wpD (bs : List Int) : D := .tuple [fD (Rat.divInt (wpM bs) bs.length), .int (wpN bs : Nat)]
def sp_wp : DSp := fun cs post => ∃ bs : List Int, cs = [.sh (bD bs)] ∧ Bits bs ∧ 0 < bs.length ∧ bs.length < 2 ^ 22 ∧ post (.sh (wpD bs)) []
theorem p_wp (cs post) (h : sp_wp cs post) : runD 3 (b_worst_part sp_fraction sp_offs_of) cs post := by
  obtain ⟨bs, rfl, hb, h0, hl, q⟩ := h
  refine p_worst_part _ _ ⟨bs, rfl, hb, h0, hl, fun m hm hy => ?_⟩
  have e : m = wpM bs := by
    have a := hy _ (wpM_mem bs)
    have b := wpM_le bs m hm
    omega
  subst e
  exact q
/-! ### of a maker -/
def mw (m : Mk) (k : Int) : Int := wpM (rowI m k m.round)
def mn (m : Mk) (k : Int) : Nat := wpN (rowI m k m.round)
structure IsMax (m : Mk) (t k : Nat) : Prop where
  le : k ≤ t
  all : ∀ j : Nat, j ≤ t → mw m (j : Int) ≤ mw m (k : Int)
  fst : ∀ j : Nat, j < k → mw m (j : Int) < mw m (k : Int)
def woD (m : Mk) (k : Nat) : D := .tuple [fD (Rat.divInt (mw m (k : Int)) (m.round : Nat)), .int (k : Nat), .int (mn m (k : Int) : Nat)]
def b_worst_of (sp_round_of : DSp) (sp_row_of : DSp) (sp_top_of : DSp) (sp_worst_part : DSp) : DTS :=
  (sSeq (sSet 1 (eCallF 1 sp_round_of (cCons (eVar 0) cNil)))
  (sSeq (sSet 2 (eC .none))
  (sSeq (sFor (iR1 (aCons (eOp2 pAdd (eCallF 1 sp_top_of (cCons (eVar 0) cNil)) (eC (.int 1))) aNil)) (gNm 3) (sSeq (sAsg (eCallF 1 sp_worst_part (cCons (eCallF 3 sp_row_of (cCons (eVar 0) (cCons (eVar 3) (cCons (eVar 1) cNil)))) cNil)) (gTp' 2 (gsCons (gNm 4) (gsCons (gNm 5) gsNil))))
  (sIf (tOr' (tBl (eOp2 pIs (eVar 2) (eC .none))) (tBl (eOp2 pGt (eOp2 pMul (eIxV 4 (eC (.int 0))) (eOp2 pIx (eIxV 2 (eC (.int 0))) (eC (.int 1)))) (eOp2 pMul (eOp2 pIx (eIxV 2 (eC (.int 0))) (eC (.int 0))) (eIxV 4 (eC (.int 1))))))) (sSet 2 (eTup (aCons (eVar 4) (aCons (eVar 3) (aCons (eVar 5) aNil))))) sNext)))
  (sRet (eVar 2)))))
def sp_worst_of : DSp := fun cs post => ∃ m : Mk, cs = [.sh (mD m)] ∧ m.Ok ∧ m.Sm ∧ m.wraps ≤ 3 ∧ m.round < 2 ^ 20 ∧ ∀ k : Nat, IsMax m m.top.toNat k → post (.sh (woD m k)) []
theorem p_worst_of (cs post) (h : sp_worst_of cs post) : runD 6 (b_worst_of (sp_round_of 4) sp_row_of (sp_top_of 4) sp_wp) cs post := by
  obtain ⟨m, rfl, ok, sm, ww, rd, q⟩ := h
  have r0 := round_pos ok
  have tp := top_range ok
  have hsz : ∀ k : Int, Sz 50 (mw m k) := fun k => by
    have a := wpM_nn (rowI m k m.round)
    have b := wpM_sz (rowI_bits m k m.round) (by rw [rowI_len]; exact rd)
    show (wpM _).natAbs < 2 ^ 50
    omega
  have hR : Sz 50 ((m.round : Nat) : Int) := by show (((m.round : Nat) : Int)).natAbs < 2 ^ 50; omega
  have hS : ∀ k : Int, Szr 50 (Rat.divInt (mw m k) ((m.round : Nat) : Int)) := fun k => Szr.of (hsz k) hR (by omega)
  refine ⟨rfl, .nil, m, rfl, ok, ww, rfl, .nil, m, rfl, ok, ww, by omega, by omega, ?_⟩
  refine rng_on 0 (m.top + 1).toNat [2, 3, 4, 5] _ (fun i cs => ∃ c2 c3 c4 c5 : Option Cell, cs = [c2, c3, c4, c5] ∧ ((i = 0 ∧ c2 = some (.sh .none)) ∨ (1 ≤ i ∧ ∃ k : Nat, c2 = some (.sh (woD m k)) ∧ IsMax m (i - 1) k))) ?_ ?_ ⟨_, _, _, _, rfl, .inl ⟨rfl, rfl⟩⟩
  · rintro i hi cs N ⟨c2, c3, c4, c5, rfl, hc⟩ hN
    refine nrm_in ?_
    show sSeq _ _ _ [_, _, _, _, _, _]
    have ei : (0 + (i : Int)) = (i : Int) := Int.zero_add _
    rw [ei]
    refine seq_on [4, 5] (fun cs => cs = [some (.sh (fD (Rat.divInt (mw m (i : Int)) (m.round : Nat)))), some (.sh (.int (mn m (i : Int) : Nat)))]) (fun N hN => ?_) ?_
    · refine ⟨rfl, .nil, m, _, m.round, rfl, ok, sm, ww, by omega, rfl, .nil, _, rfl, rowI_bits _ _ _, by rw [rowI_len]; exact r0, by rw [rowI_len]; omega, rfl, ?_⟩
      have hN' := hN [_, _] rfl
      unfold mw mn at hN'
      rw [rowI_len]
      exact hN'
    rintro cs rfl
    show sIf _ _ _ _ [_, _, _, _, _, _]
    rcases hc with ⟨rfl, rfl⟩ | ⟨h1, k, rfl, hk⟩
    · refine ⟨sz3, hN [_, _, _, _] ⟨_, _, _, _, rfl, .inr ⟨Nat.le_refl 1, 0, rfl, ⟨Nat.le_refl _, fun j hj => ?_, fun j hj => absurd hj (Nat.not_lt_zero _)⟩⟩⟩⟩
      rw [Nat.le_zero.1 hj]; exact Int.le_refl _
    · have hlt : decide ((Rat.divInt (mw m (k : Int)) (m.round : Nat)).num * ((Rat.divInt (mw m (i : Int)) (m.round : Nat)).den : Int) < (Rat.divInt (mw m (i : Int)) (m.round : Nat)).num * ((Rat.divInt (mw m (k : Int)) (m.round : Nat)).den : Int)) = decide (mw m (k : Int) < mw m (i : Int)) := decide_eq_decide.2 ((Rat.lt_iff _ _).symm.trans (dv_lt (by omega)))
      refine ⟨(hS _).1.mulOk (hS _).2 (by decide), (hS _).1.mulOk (hS _).2 (by decide), ?_⟩
      show if decide ((Rat.divInt (mw m (k : Int)) (m.round : Nat)).num * ((Rat.divInt (mw m (i : Int)) (m.round : Nat)).den : Int) < (Rat.divInt (mw m (i : Int)) (m.round : Nat)).num * ((Rat.divInt (mw m (k : Int)) (m.round : Nat)).den : Int)) = true then _ else _
      rw [hlt]
      refine ifD (fun h => ?_) (fun h => ?_)
      · refine ⟨sz3, hN [_, _, _, _] ⟨_, _, _, _, rfl, .inr ⟨by omega, i, ?_, ⟨by omega, fun j hj => ?_, fun j hj => ?_⟩⟩⟩⟩
        · rfl
        · rcases (by omega : j = i ∨ j ≤ i - 1) with rfl | hj
          · exact Int.le_refl _
          · have := hk.all j hj; omega
        · have := hk.all j (by omega); omega
      · refine hN [_, _, _, _] ⟨_, _, _, _, rfl, .inr ⟨by omega, k, rfl, ⟨by have := hk.le; omega, fun j hj => ?_, hk.fst⟩⟩⟩
        rcases (by omega : j = i ∨ j ≤ i - 1) with rfl | hj
        · omega
        · exact hk.all j hj
  · rintro cs ⟨c2, c3, c4, c5, rfl, hc⟩
    rcases hc with ⟨h0, _⟩ | ⟨h1, k, rfl, hk⟩
    · omega
    · have e : (m.top + 1).toNat - 1 = m.top.toNat := by omega
      rw [e] at hk
      exact q k hk
end DL
end

section
set_option Elab.async false
set_option linter.all false
set_option maxRecDepth 100000
set_option maxHeartbeats 1000000
/-! ## the worst stretch -/
namespace DL
open PySem PySem.Spec PyProof.Rows L2 MK
def b_other_end : DTS :=
  (sRet (eIf (tBl (eOp2 pEq (eVar 0) (eVar 1))) (eVar 2) (eVar 1)))
def b_worst_stretch (sp_fraction : DSp) (sp_offs_of : DSp) (sp_other_end : DSp) : DTS :=
  (sSeq (sSet 1 (eCallF 1 sp_offs_of (cCons (eVar 0) cNil)))
  (sSeq (sPar 2 3 (aCons (eCall pMinA (aCons (eVar 1) aNil)) (aCons (eCall pMaxA (aCons (eVar 1) aNil)) aNil)))
  (sSeq (sSet 4 (eC (.int 0)))
  (sSeq (sWhile (tOr' (tBl (eOp2 (pIn true) (eIxV 1 (eVar 4)) (eTup (aCons (eVar 2) (aCons (eVar 3) aNil))))) (tBl (eOp2 (pIn true) (eCallF 3 sp_other_end (cCons (eIxV 1 (eVar 4)) (cCons (eVar 2) (cCons (eVar 3) cNil)))) (eSlV 1 (pSome (eVar 4)) pNo)))) (sAug 4 (pI2 fun i j => .int (i + j)) (eC (.int 1))))
  (sSeq (sSet 5 (eMeth .list pIdxF (eVar 1) (aCons (eCallF 3 sp_other_end (cCons (eIxV 1 (eVar 4)) (cCons (eVar 2) (cCons (eVar 3) cNil)))) (aCons (eVar 4) aNil))))
  (sRet (eTup (aCons (eCallF 2 sp_fraction (cCons (eOp2 pSub (eVar 3) (eVar 2)) (cCons (eLenV 0) cNil))) (aCons (eVar 4) (aCons (eVar 5) aNil))))))))))
theorem least {P : Nat → Prop} : ∀ n, P n → ∃ k, k ≤ n ∧ P k ∧ ∀ j, j < k → ¬ P j := by
  intro n
  induction n using Nat.strongRecOn with
  | ind n ih =>
    intro h
    rcases Classical.em (∃ j, j < n ∧ P j) with ⟨j, hj, pj⟩ | h2
    · obtain ⟨k, a, b, c⟩ := ih j hj pj
      exact ⟨k, by omega, b, c⟩
    · exact ⟨n, Nat.le_refl _, h, fun j hj pj => h2 ⟨j, hj, pj⟩⟩
/-- of all stretches within a row one of the worst: the least begin, then the least end -/
structure IsWs (bs : List Int) (D : Int) (b e : Nat) : Prop where
  be : b ≤ e
  el : e ≤ bs.length
  eq : absI (off bs e - off bs b) = D
  e1 : ∀ e', b ≤ e' → e' < e → absI (off bs e' - off bs b) ≠ D
  b1 : ∀ b', b' < b → ∀ e', b' ≤ e' → e' ≤ bs.length → absI (off bs e' - off bs b') ≠ D
  top : ∀ b' e', b' ≤ bs.length → e' ≤ bs.length → absI (off bs e' - off bs b') ≤ D
theorem IsWs.uniq {bs : List Int} {D D' : Int} {b b' e e' : Nat} (h : IsWs bs D b e) (h' : IsWs bs D' b' e') : D = D' ∧ b = b' ∧ e = e' := by
  have hD : D = D' := by
    have a := h.top b' e' (by have := h'.be; have := h'.el; omega) h'.el
    have c := h'.top b e (by have := h.be; have := h.el; omega) h.el
    have := h.eq
    have := h'.eq
    omega
  subst hD
  have hb : b = b' := by
    rcases Nat.lt_trichotomy b b' with c | c | c
    · exact absurd h.eq (h'.b1 b c e h.be h.el)
    · exact c
    · exact absurd h'.eq (h.b1 b' c e' h'.be h'.el)
  subst hb
  refine ⟨rfl, rfl, ?_⟩
  rcases Nat.lt_trichotomy e e' with c | c | c
  · exact absurd h.eq (h'.e1 e h.be c)
  · exact c
  · exact absurd h'.eq (h.e1 e' h'.be c)
theorem off_get (bs : List Int) {j : Nat} (h : j ≤ bs.length) : (offs bs)[j]? = some (off bs j) := by
  rw [List.getElem?_eq_getElem (by unfold offs; rw [List.length_map, List.length_range]; omega)]
  simp [offs]
theorem offs_len (bs : List Int) : (offs bs).length = bs.length + 1 := by unfold offs; rw [List.length_map, List.length_range]
theorem off_mem {bs : List Int} {x : Int} (h : x ∈ offs bs) : ∃ j, j ≤ bs.length ∧ off bs j = x := by
  obtain ⟨j, hj, e⟩ := List.mem_map.1 h
  exact ⟨j, by have := List.mem_range.1 hj; omega, e⟩
theorem mem_off (bs : List Int) {j : Nat} (h : j ≤ bs.length) : off bs j ∈ offs bs := List.mem_map.2 ⟨j, List.mem_range.2 (by omega), rfl⟩
theorem absI_two {x y lo hi : Int} (hx : lo ≤ x ∧ x ≤ hi) (hy : lo ≤ y ∧ y ≤ hi) : absI (y - x) = hi - lo ↔ (x = lo ∧ y = hi) ∨ (x = hi ∧ y = lo) := by unfold absI; split <;> omega
theorem exists_ws {bs : List Int} {lo hi : Int} (hl : lo ∈ offs bs) (hh : hi ∈ offs bs) (all : ∀ y ∈ offs bs, lo ≤ y ∧ y ≤ hi) : ∃ b e, IsWs bs (hi - lo) b e := by
  obtain ⟨p, hp, ep⟩ := off_mem hl
  obtain ⟨s, hs, es⟩ := off_mem hh
  have A : ∀ j, j ≤ bs.length → lo ≤ off bs j ∧ off bs j ≤ hi := fun j hj => all _ (mem_off bs hj)
  have h0 : ∃ e, min p s ≤ e ∧ e ≤ bs.length ∧ absI (off bs e - off bs (min p s)) = hi - lo := by
    rcases Nat.le_total p s with h | h
    · rw [Nat.min_eq_left h]
      exact ⟨s, h, hs, (absI_two (A p hp) (A s hs)).2 (.inl ⟨ep, es⟩)⟩
    · rw [Nat.min_eq_right h]
      exact ⟨p, h, hp, (absI_two (A s hs) (A p hp)).2 (.inr ⟨es, ep⟩)⟩
  obtain ⟨b, hb, ⟨e0, h1, h2, h3⟩, hb1⟩ := least (P := fun b => ∃ e, b ≤ e ∧ e ≤ bs.length ∧ absI (off bs e - off bs b) = hi - lo) _ h0
  obtain ⟨e, he, ⟨h4, h5⟩, he1⟩ := least (P := fun e => b ≤ e ∧ absI (off bs e - off bs b) = hi - lo) e0 ⟨h1, h3⟩
  refine ⟨b, e, h4, by omega, h5, fun e' a1 a2 a3 => he1 e' a2 ⟨a1, a3⟩, fun b' a1 e' a2 a3 a4 => hb1 b' a1 ⟨e', a2, a3, a4⟩, fun b' e' a1 a2 => ?_⟩
  have := A b' a1
  have := A e' a2
  unfold absI
  split <;> omega
def oth (x lo hi : Int) : Int := if x = lo then hi else lo
theorem oth_iff {x y lo hi : Int} (hx : x = lo ∨ x = hi) (hy : lo ≤ y ∧ y ≤ hi) (hlh : lo ≤ hi) : y = oth x lo hi ↔ absI (y - x) = hi - lo := by
  unfold oth absI
  split <;> split <;> omega
def sp_other_end : DSp := fun cs post => ∃ x lo hi : Int, cs = [.sh (.int x), .sh (.int lo), .sh (.int hi)] ∧ post (.sh (.int (oth x lo hi))) []
theorem p_other_end (cs post) (h : sp_other_end cs post) : runD 3 b_other_end cs post := by
  obtain ⟨x, lo, hi, rfl, q⟩ := h
  unfold oth at q
  refine ifD (fun h => ?_) (fun h => ?_)
  · rw [if_pos h] at q; exact q
  · rw [if_neg h] at q; exact q
theorem has_ints (xs : List Int) (x : Int) : ((xs.map PyData.int).any fun z => PyData.eqv z (.int x)) = decide (x ∈ xs) := by
  induction xs with
  | nil => rfl
  | cons y ys ih =>
    rw [List.map_cons, List.any_cons, ih]
    show (y == x || _) = _
    by_cases h1 : y = x
    · subst h1; simp
    · by_cases h2 : x ∈ ys
      · simp [h2]
      · have h3 : x ≠ y := fun e => h1 e.symm
        simp [h1, h2, h3]
theorem flat_dints (xs : List Int) : (xs.map PyData.int).all flatD = true := List.all_eq_true.2 fun x hx => by obtain ⟨i, _, rfl⟩ := List.mem_map.1 hx; rfl
def wsDt (bs : List Int) (D : Int) (b e : Nat) : PyData := .tuple [fD (Rat.divInt D bs.length), .int (b : Nat), .int (e : Nat)]
def sp_worst_stretch : DSp := fun cs post => ∃ bs : List Int, cs = [.sh (bD bs)] ∧ Bits bs ∧ 0 < bs.length ∧ bs.length < 2 ^ 20 ∧ ∀ D b e, IsWs bs D b e → post (.sh (wsDt bs D b e)) []
theorem p_worst_stretch (cs post) (h : sp_worst_stretch cs post) : runD 6 (b_worst_stretch sp_fraction sp_offs_of sp_other_end) cs post := by
  obtain ⟨bs, rfl, hb, h0, hl, q⟩ := h
  have hbig := line_big
  refine nrm_in ?_
  show sSeq _ _ _ [_, _, _, _, _, _]
  refine seq_on [1] (fun cs => cs = [some (.sh (.list ((offs bs).map PyData.int)))]) (fun N hN => ⟨rfl, .nil, bs, rfl, hb, by omega, hN [_] rfl⟩) ?_
  rintro cs rfl
  show sSeq _ _ _ [_, _, _, _, _, _]
  have lp : 0 < (offs bs).length := by rw [offs_len]; omega
  refine seq_on [2, 3] (fun cs => ∃ lo hi : Int, cs = [some (.sh (.int lo)), some (.sh (.int hi))] ∧ lo ∈ offs bs ∧ hi ∈ offs bs ∧ ∀ y ∈ offs bs, lo ≤ y ∧ y ≤ hi) (fun N hN => ?_) ?_
  · exact ⟨offs bs, rfl, lp, fun lo h1 h2 => ⟨offs bs, rfl, lp, fun hi h3 h4 => hN [_, _] ⟨lo, hi, rfl, h1, h3, fun y hy => ⟨h2 y hy, h4 y hy⟩⟩⟩⟩
  rintro cs ⟨lo, hi, rfl, h1, h2, h3⟩
  show sSeq _ _ _ [_, _, _, _, _, _]
  obtain ⟨b, e, W⟩ := exists_ws h1 h2 h3
  have A : ∀ j, j ≤ bs.length → lo ≤ off bs j ∧ off bs j ≤ hi := fun j hj => h3 _ (mem_off bs hj)
  have hbl : b ≤ bs.length := Nat.le_trans W.be W.el
  have hlh : lo ≤ hi := (h3 _ h2).1
  have hat : ∀ j, j ≤ bs.length → atI ((offs bs).map PyData.int) ((j : Nat) : Int) = some (.int (off bs j)) := fun j hj => by
    rw [at_in (by omega) (by rw [List.length_map, offs_len]; omega), List.getElem_map]
    simp [offs]
  have hin : ∀ i x, i ≤ bs.length → (x ∈ (offs bs).drop i ↔ ∃ e, i ≤ e ∧ e ≤ bs.length ∧ off bs e = x) := fun i x hi => by
    rw [List.mem_iff_getElem]
    constructor
    · rintro ⟨n, hn, e⟩
      rw [List.length_drop, offs_len] at hn
      refine ⟨i + n, by omega, by omega, ?_⟩
      rw [← e]
      simp [offs]
    · rintro ⟨e, h4, h5, h6⟩
      refine ⟨e - i, by rw [List.length_drop, offs_len]; omega, ?_⟩
      rw [← h6]
      simp [offs, h4]
  have two : ∀ j, j ≤ bs.length → (∃ e, j ≤ e ∧ e ≤ bs.length ∧ absI (off bs e - off bs j) = hi - lo) → off bs j = lo ∨ off bs j = hi := fun j hj ⟨e, _, he, h⟩ => by
    rcases (absI_two (A j hj) (A e he)).1 h with h | h
    · exact .inl h.1
    · exact .inr h.1
  refine seq_on [4] (fun cs => cs = [some (.sh (.int ((0 : Nat) : Int)))]) (fun N hN => hN [_] rfl) ?_
  rintro cs rfl
  show sSeq _ _ _ [_, _, _, _, _, _]
  refine seq_on [4] (fun cs => cs = [some (.sh (.int (b : Nat)))]) (fun N hN => ?_) ?_
  · refine while_on [4] (fun μ cs => ∃ i : Nat, cs = [some (.sh (.int (i : Nat)))] ∧ μ = b - i ∧ i ≤ b) ⟨_, 0, rfl, rfl, Nat.zero_le _⟩ ?_
    rintro μ cs ⟨i, rfl, rfl, hi2⟩ N2 hN2
    have hil : i ≤ bs.length := by omega
    have e1 : ([PyData.int lo, PyData.int hi].any fun z => PyData.eqv z (.int (off bs i))) = decide (off bs i ∈ [lo, hi]) := has_ints [lo, hi] (off bs i)
    have go : i < b → N2 (putsC [4] [some (.sh (.int (((i + 1 : Nat)) : Int)))] [some (.sh (bD bs)), some (.sh (.list ((offs bs).map PyData.int))), some (.sh (.int lo)), some (.sh (.int hi)), some (.sh (.int ((0 : Nat) : Int))), none]) := fun h => hN2 _ [_] (show b - (i + 1) < b - i by omega) ⟨i + 1, rfl, rfl, h⟩
    have no : i < b → ¬ ∃ e, i ≤ e ∧ e ≤ bs.length ∧ absI (off bs e - off bs i) = hi - lo := fun h ⟨e, a1, a2, a3⟩ => W.b1 i h e a1 a2 a3
    have yes : i = b → ∃ e, i ≤ e ∧ e ≤ bs.length ∧ absI (off bs e - off bs i) = hi - lo := fun h => by subst h; exact ⟨e, W.be, W.el, W.eq⟩
    refine optD_of (hat i hil) ⟨sz2, rfl, rfl, ?_⟩
    by_cases hm : off bs i ∈ [lo, hi]
    · refine bF (by show (!([PyData.int lo, PyData.int hi].any fun z => PyData.eqv z (.int (off bs i)))) = false; rw [e1, decide_eq_true hm]; rfl) ?_
      have hm2 : off bs i = lo ∨ off bs i = hi := by simpa using hm
      refine optD_of (hat i hil) ⟨rfl, .nil, off bs i, lo, hi, rfl, ?_⟩
      have ec : cutD ((offs bs).map PyData.int) (some ((i : Nat) : Int)) none = ((offs bs).drop i).map PyData.int := by
        rw [cut_from _ _ (by omega), List.map_drop]; rfl
      have e2 : ((((offs bs).drop i).map PyData.int).any fun z => PyData.eqv z (.int (oth (off bs i) lo hi))) = decide (oth (off bs i) lo hi ∈ (offs bs).drop i) := has_ints _ _
      have e3 : oth (off bs i) lo hi ∈ (offs bs).drop i ↔ ∃ e, i ≤ e ∧ e ≤ bs.length ∧ absI (off bs e - off bs i) = hi - lo := by
        rw [hin i _ hil]
        constructor
        · rintro ⟨e, a1, a2, a3⟩
          exact ⟨e, a1, a2, (oth_iff hm2 (A e a2) hlh).1 a3⟩
        · rintro ⟨e, a1, a2, a3⟩
          exact ⟨e, a1, a2, (oth_iff hm2 (A e a2) hlh).2 a3⟩
      refine ⟨rfl, ?_⟩
      rw [ec]
      refine ⟨flat_dints _, ?_⟩
      by_cases hc : oth (off bs i) lo hi ∈ (offs bs).drop i
      · refine bF (by show (!((((offs bs).drop i).map PyData.int).any fun z => PyData.eqv z (.int (oth (off bs i) lo hi)))) = false; rw [e2, decide_eq_true hc]; rfl) ?_
        have ib : i = b := by
          rcases (by omega : i = b ∨ i < b) with h | h
          · exact h
          · exact absurd (e3.1 hc) (no h)
        subst ib
        exact hN [_] rfl
      · refine bT (by show (!((((offs bs).drop i).map PyData.int).any fun z => PyData.eqv z (.int (oth (off bs i) lo hi)))) = true; rw [e2, decide_eq_false hc]; rfl) ?_
        refine go ?_
        rcases (by omega : i = b ∨ i < b) with h | h
        · exact absurd (e3.2 (yes h)) hc
        · exact h
    · refine bT (by show (!([PyData.int lo, PyData.int hi].any fun z => PyData.eqv z (.int (off bs i)))) = true; rw [e1, decide_eq_false hm]; rfl) ?_
      refine go ?_
      rcases (by omega : i = b ∨ i < b) with h | h
      · exact absurd (by simpa using two i hil (yes h)) hm
      · exact h
  rintro cs rfl
  show sSeq _ _ _ [_, _, _, _, _, _]
  have hm2 : off bs b = lo ∨ off bs b = hi := two b hbl ⟨e, W.be, W.el, W.eq⟩
  refine seq_on [5] (fun cs => cs = [some (.sh (.int (e : Nat)))]) (fun N hN => ?_) ?_
  · refine ⟨rfl, optD_of (hat b hbl) ⟨rfl, .nil, off bs b, lo, hi, rfl, offs bs, b, e, rfl, rfl, W.be, ?_, fun m a1 a2 a3 => ?_, hN [_] rfl⟩⟩
    · rw [off_get bs W.el]
      exact congrArg some ((oth_iff hm2 (A e W.el) hlh).2 W.eq)
    · have hm3 : m ≤ bs.length := by have := W.el; omega
      rw [off_get bs hm3] at a3
      exact W.e1 m a1 a2 ((oth_iff hm2 (A m hm3) hlh).1 (Option.some.inj a3))
  rintro cs rfl
  show sRet _ _ [_, _, _, _, _, _]
  have el : (bs.map PyData.int).length = bs.length := List.length_map _
  refine ⟨rfl, .nil, hi - lo, (((bs.map PyData.int).length : Nat) : Int), rfl, by omega, ?_, sz3, ?_⟩
  · rw [el]; show (((bs.length : Nat) : Int)).natAbs < 2 ^ 8900
    exact Nat.lt_of_lt_of_le (show (((bs.length : Nat) : Int)).natAbs < 2 ^ 20 by omega) (Nat.pow_le_pow_right (by decide) (by decide))
  · rw [el]
    exact q (hi - lo) b e W
end DL
end

section
set_option Elab.async false
set_option linter.all false
namespace SU
/-! ## sums over the first n numbers; functions that go round -/
def sumN : Nat → (Nat → Int) → Int
  | 0, _ => 0
  | n + 1, f => sumN n f + f n
theorem sumN_congr {f g : Nat → Int} : ∀ {n : Nat}, (∀ i, i < n → f i = g i) → sumN n f = sumN n g
  | 0, _ => rfl
  | n + 1, h => by
    show sumN n f + f n = sumN n g + g n
    rw [sumN_congr (fun i hi => h i (by omega)), h n (by omega)]
theorem sumN_add (f g : Nat → Int) : ∀ n, sumN n (fun i => f i + g i) = sumN n f + sumN n g
  | 0 => rfl
  | n + 1 => by
    show sumN n (fun i => f i + g i) + (f n + g n) = (sumN n f + f n) + (sumN n g + g n)
    rw [sumN_add f g n]; omega
theorem sumN_zero : ∀ n, sumN n (fun _ => 0) = 0
  | 0 => rfl
  | n + 1 => by show sumN n (fun _ => 0) + 0 = 0; rw [sumN_zero n]; rfl
theorem sumN_mul (c : Int) (f : Nat → Int) : ∀ n, sumN n (fun i => c * f i) = c * sumN n f
  | 0 => by show (0 : Int) = c * 0; rw [Int.mul_zero]
  | n + 1 => by
    show sumN n (fun i => c * f i) + c * f n = c * (sumN n f + f n)
    rw [sumN_mul c f n, Int.mul_add]
theorem sumN_const (c : Int) : ∀ n : Nat, sumN n (fun _ => c) = n * c
  | 0 => by show (0 : Int) = ((0 : Nat) : Int) * c; simp
  | n + 1 => by
    show sumN n (fun _ => c) + c = ((n + 1 : Nat) : Int) * c
    rw [sumN_const c n, Int.natCast_add, Int.add_mul]; simp
theorem sumN_app (f : Nat → Int) (a : Nat) : ∀ b, sumN (a + b) f = sumN a f + sumN b (fun i => f (a + i))
  | 0 => by show sumN a f = sumN a f + 0; omega
  | b + 1 => by
    show sumN (a + b) f + f (a + b) = sumN a f + (sumN b (fun i => f (a + i)) + f (a + b))
    rw [sumN_app f a b]; omega
theorem sumN_block (f : Nat → Int) (a : Nat) : ∀ n, sumN (n * a) f = sumN n (fun j => sumN a (fun r => f (j * a + r)))
  | 0 => by rw [Nat.zero_mul]; rfl
  | n + 1 => by
    rw [Nat.add_mul, Nat.one_mul, sumN_app, sumN_block f a n]
    rfl
theorem sumN_swap (g : Nat → Nat → Int) (a : Nat) : ∀ n, sumN n (fun j => sumN a (fun r => g j r)) = sumN a (fun r => sumN n (fun j => g j r))
  | 0 => by
    show (0 : Int) = sumN a (fun r => 0)
    rw [sumN_zero]
  | n + 1 => by
    show sumN n (fun j => sumN a (fun r => g j r)) + sumN a (fun r => g n r) = sumN a (fun r => sumN n (fun j => g j r) + g n r)
    rw [sumN_swap g a n, sumN_add]
theorem sumN_first (f : Nat → Int) (n : Nat) : sumN (n + 1) f = f 0 + sumN n (fun i => f (i + 1)) := by
  rw [Nat.add_comm, sumN_app]
  have e : sumN 1 f = f 0 := by show 0 + f 0 = f 0; omega
  rw [e]
  congr 1
  exact sumN_congr fun i _ => by rw [Nat.add_comm]
theorem sumN_shift (f : Nat → Int) (n : Nat) (h : f n = f 0) : sumN n (fun i => f (i + 1)) = sumN n f := by
  have a := sumN_first f n
  have b : sumN (n + 1) f = sumN n f + f n := rfl
  omega
theorem sumN_list (f : Nat → Int) : ∀ n, ((List.range n).map f).sum = sumN n f
  | 0 => rfl
  | n + 1 => by
    rw [List.range_succ, List.map_append, List.sum_append_int, sumN_list f n]
    show sumN n f + (f n + 0) = sumN n f + f n
    omega
theorem sumN_nn {f : Nat → Int} : ∀ {n : Nat}, (∀ i, i < n → 0 ≤ f i) → 0 ≤ sumN n f
  | 0, _ => Int.le_refl _
  | n + 1, h => by
    have := sumN_nn (n := n) fun i hi => h i (by omega)
    have := h n (by omega)
    show 0 ≤ sumN n f + f n
    omega
theorem sumN_le {f g : Nat → Int} : ∀ {n : Nat}, (∀ i, i < n → f i ≤ g i) → sumN n f ≤ sumN n g
  | 0, _ => Int.le_refl _
  | n + 1, h => by
    have := sumN_le (n := n) fun i hi => h i (by omega)
    have := h n (by omega)
    show sumN n f + f n ≤ sumN n g + g n
    omega
/-! ### going round -/
def Per (T : Nat → Int) (d : Nat) : Prop := ∀ r, T (r + d) = T r
theorem Per.mul {T : Nat → Int} {d : Nat} (h : Per T d) : ∀ k, Per T (k * d)
  | 0, r => by rw [Nat.zero_mul]; rfl
  | k + 1, r => by rw [Nat.add_mul, Nat.one_mul, ← Nat.add_assoc, h, Per.mul h k]
theorem Per.mod {T : Nat → Int} {d : Nat} (h : Per T d) (r : Nat) : T (r % d) = T r := by
  have e := Nat.mod_add_div r d
  have q := h.mul (r / d) (r % d)
  rw [Nat.mul_comm, e] at q
  exact q.symm
theorem Per.gcd {T : Nat → Int} : ∀ (a b : Nat), Per T a → Per T b → Per T (Nat.gcd a b) := by
  intro a b
  induction a, b using Nat.gcd.induction with
  | H0 n => intro _ h; rw [Nat.gcd_zero_left]; exact h
  | H1 m n hm ih =>
    intro ha hb
    rw [Nat.gcd_rec]
    refine ih (fun r => ?_) ha
    have e : r + n % m + n / m * m = r + n := by have := Nat.mod_add_div n m; rw [Nat.mul_comm] at this; omega
    rw [← ha.mul (n / m) (r + n % m), e, hb]
theorem Per.const {T : Nat → Int} (h : Per T 1) : ∀ r, T r = T 0
  | 0 => rfl
  | r + 1 => by rw [h r, Per.const h r]
theorem sumN_per {F : Nat → Int} {n : Nat} (h : Per F n) (k : Nat) : sumN (k * n) F = k * sumN n F := by
  rw [sumN_block]
  have e : sumN k (fun j => sumN n (fun r => F (j * n + r))) = sumN k (fun _ => sumN n F) := sumN_congr fun j _ => sumN_congr fun r _ => by rw [Nat.add_comm, h.mul j]
  rw [e, sumN_const]
theorem sumN_off {F : Nat → Int} {n : Nat} (h : Per F n) (c : Nat) : sumN n (fun i => F (i + c)) = sumN n F := by
  induction c with
  | zero => rfl
  | succ c ih =>
    have q := sumN_shift (fun i => F (i + c)) n (by show F (n + c) = F (0 + c); rw [Nat.add_comm, h, Nat.zero_add])
    rw [← ih, ← q]
    exact sumN_congr fun i _ => by rw [Nat.add_right_comm, Nat.add_assoc]
/-- every a-th of a round of n, a and n without a divisor in common -/
theorem cop_sum {F : Nat → Int} {a n : Nat} (h : Per F n) (ha : 0 < a) (hn : 0 < n) (hg : Nat.gcd a n = 1) (r : Nat) : sumN n (fun j => F (j * a + r)) = sumN n F := by
  have h1 : Per (fun r => sumN n (fun j => F (j * a + r))) a := fun r => by
    show sumN n (fun j => F (j * a + (r + a))) = sumN n (fun j => F (j * a + r))
    have q := sumN_shift (fun j => F (j * a + r)) n (by
      show F (n * a + r) = F (0 * a + r)
      rw [Nat.zero_mul, Nat.zero_add, Nat.mul_comm, Nat.add_comm, h.mul a])
    rw [← q]
    exact sumN_congr fun j _ => by rw [Nat.add_mul, Nat.one_mul]; congr 1; omega
  have h2 : Per (fun r => sumN n (fun j => F (j * a + r))) n := fun r => by
    show sumN n (fun j => F (j * a + (r + n))) = sumN n (fun j => F (j * a + r))
    exact sumN_congr fun j _ => by rw [← Nat.add_assoc, h]
  have h3 := Per.gcd a n h1 h2
  rw [hg] at h3
  have hc := h3.const
  have e1 : sumN (n * a) F = sumN a (fun r => sumN n (fun j => F (j * a + r))) := by rw [sumN_block, sumN_swap]
  have e2 : sumN (n * a) F = a * sumN n F := by rw [Nat.mul_comm]; exact sumN_per h a
  have e3 : sumN a (fun r => sumN n (fun j => F (j * a + r))) = a * sumN n (fun j => F (j * a + r)) := by
    have q : sumN a (fun r => sumN n (fun j => F (j * a + r))) = sumN a (fun _ => sumN n (fun j => F (j * a + r))) := sumN_congr fun i _ => (hc i).trans (hc r).symm
    rw [q, sumN_const]
  have e4 : (a : Int) * sumN n (fun j => F (j * a + r)) = a * sumN n F := by rw [← e3, ← e1, e2]
  exact Int.eq_of_mul_eq_mul_left (by omega) e4
end SU
end

section
set_option Elab.async false
set_option linter.all false
set_option maxRecDepth 100000
set_option maxHeartbeats 1000000
/-! ## how far off: of slow makers, of counters -/
namespace DL
open PySem PySem.Spec PyProof.Rows L2 MK SU
def ind (m : Mk) (b : Int) (t : Nat) : Int := if decide (m.val ((t : Nat) : Int) < b) = true then 1 else 0
theorem rowI_sumN (m : Mk) (b : Int) (n : Nat) : (rowI m b n).sum = sumN n (ind m b) := by
  rw [← sumN_list]
  unfold rowI vals
  rw [List.map_map]
  rfl
theorem pre_rowI (m : Mk) (b : Int) {n j : Nat} (h : j ≤ n) : pre (rowI m b n) j = sumN j (ind m b) := by
  unfold pre; rw [rowI_take m b h, rowI_sumN]
theorem off_rowI (m : Mk) (b : Int) {n j : Nat} (h : j ≤ n) : off (rowI m b n) j = sumN j (ind m b) * n - j * sumN n (ind m b) := by
  unfold off; rw [pre_rowI m b h, rowI_len, rowI_sumN]
theorem ind_slow {m : Mk} {c q r : Nat} (h : r < c) (b : Int) : ind (.slow c m) b (c * q + r) = ind m b q := by
  unfold ind
  have e2 : Mk.val (.slow c m) ((c * q + r : Nat) : Int) = m.val ((q : Nat) : Int) := by
    show m.val (((c * q + r : Nat) : Int) / (c : Int)) = _
    rw [← Int.natCast_ediv, Nat.add_comm, Nat.add_mul_div_left _ _ (by omega), Nat.div_eq_of_lt h, Nat.zero_add]
  rw [e2]
theorem slow_pre_r {m : Mk} {c q : Nat} (b : Int) : ∀ r : Nat, r ≤ c → sumN (c * q + r) (ind (.slow c m) b) = sumN (c * q) (ind (.slow c m) b) + r * ind m b q
  | 0, _ => by simp
  | r + 1, h => by
    show sumN (c * q + r) _ + ind _ b (c * q + r) = _
    rw [slow_pre_r b r (by omega), ind_slow (by omega), Int.natCast_add, Int.add_mul]
    omega
theorem slow_pre_q {m : Mk} {c : Nat} (b : Int) : ∀ q : Nat, sumN (c * q) (ind (.slow c m) b) = c * sumN q (ind m b)
  | 0 => by simp [sumN]
  | q + 1 => by
    rw [Nat.mul_succ, slow_pre_r b c (Nat.le_refl _), slow_pre_q b q]
    show _ = (c : Int) * (sumN q _ + ind m b q)
    rw [Int.mul_add]
theorem ring_a (c r P x R q S : Int) : (c * P + r * x) * (c * R) - (c * q + r) * (c * S) = c * ((c - r) * (P * R - q * S) + r * ((P + x) * R - (q + 1) * S)) := by grind
theorem ring_b (c P R q S : Int) : (c * P) * (c * R) - (c * q) * (c * S) = c * c * (P * R - q * S) := by grind
theorem slow_off {m : Mk} {c q r R : Nat} (b : Int) (hr : r < c) (hq : q < R) : off (rowI (.slow c m) b (c * R)) (c * q + r) = (c : Int) * (((c : Int) - (r : Int)) * off (rowI m b R) q + (r : Int) * off (rowI m b R) (q + 1)) := by
  have h1 : c * q + r ≤ c * R := by
    have : c * (q + 1) ≤ c * R := Nat.mul_le_mul_left c hq
    rw [Nat.mul_succ] at this
    omega
  rw [off_rowI _ _ h1, off_rowI _ _ (by omega), off_rowI _ _ (by omega), slow_pre_r b r (by omega), slow_pre_q, slow_pre_q, Int.natCast_add, Int.natCast_mul, Int.natCast_mul, ring_a]
  rfl
theorem slow_off0 {m : Mk} {c q R : Nat} (b : Int) (hq : q ≤ R) : off (rowI (.slow c m) b (c * R)) (c * q) = (c : Int) * (c : Int) * off (rowI m b R) q := by
  rw [off_rowI _ _ (Nat.mul_le_mul_left c hq), off_rowI _ _ hq, slow_pre_q, slow_pre_q, Int.natCast_mul, Int.natCast_mul, ring_b]
theorem absI_iff {x M : Int} : absI x ≤ M ↔ -M ≤ x ∧ x ≤ M := by unfold absI; split <;> omega
theorem absI_lt {x M : Int} : absI x < M ↔ -M < x ∧ x < M := by unfold absI; split <;> omega
theorem absI_sq (c x : Int) (hc : 0 ≤ c) : absI (c * c * x) = c * c * absI x := by
  have h : 0 ≤ c * c := Int.mul_nonneg hc hc
  unfold absI
  by_cases hx : x < 0
  · rw [if_pos hx]
    have := Int.mul_nonneg h (show 0 ≤ -x by omega)
    rw [Int.mul_neg] at *
    split <;> omega
  · rw [if_neg hx]
    have := Int.mul_nonneg h (show 0 ≤ x by omega)
    split <;> omega
theorem mix_le {c r A B M : Int} (h0 : 0 ≤ r) (h1 : r ≤ c) (hA : absI A ≤ M) (hB : absI B ≤ M) : absI (c * ((c - r) * A + r * B)) ≤ c * c * M := by
  have a := absI_iff.1 hA
  have b := absI_iff.1 hB
  have a1 := Int.mul_le_mul_of_nonneg_left a.1 (show 0 ≤ c - r by omega)
  have a2 := Int.mul_le_mul_of_nonneg_left a.2 (show 0 ≤ c - r by omega)
  have b1 := Int.mul_le_mul_of_nonneg_left b.1 h0
  have b2 := Int.mul_le_mul_of_nonneg_left b.2 h0
  have e : (c - r) * M + r * M = c * M := by rw [← Int.add_mul]; congr 1; omega
  rw [Int.mul_neg] at a1 b1
  have l1 := Int.mul_le_mul_of_nonneg_left (show -(c * M) ≤ (c - r) * A + r * B by omega) (show 0 ≤ c by omega)
  have l2 := Int.mul_le_mul_of_nonneg_left (show (c - r) * A + r * B ≤ c * M by omega) (show 0 ≤ c by omega)
  rw [Int.mul_neg, ← Int.mul_assoc] at l1
  rw [← Int.mul_assoc c c M] at l2
  exact absI_iff.2 ⟨l1, l2⟩
theorem mix_lt {c r A B M : Int} (h0 : 0 ≤ r) (h1 : r < c) (hA : absI A < M) (hB : absI B ≤ M) : absI (c * ((c - r) * A + r * B)) < c * c * M := by
  have a := absI_lt.1 hA
  have b := absI_iff.1 hB
  have a1 := Int.mul_lt_mul_of_pos_left a.1 (show 0 < c - r by omega)
  have a2 := Int.mul_lt_mul_of_pos_left a.2 (show 0 < c - r by omega)
  have b1 := Int.mul_le_mul_of_nonneg_left b.1 h0
  have b2 := Int.mul_le_mul_of_nonneg_left b.2 h0
  have e : (c - r) * M + r * M = c * M := by rw [← Int.add_mul]; congr 1; omega
  rw [Int.mul_neg] at a1 b1
  have l1 := Int.mul_lt_mul_of_pos_left (show -(c * M) < (c - r) * A + r * B by omega) (show 0 < c by omega)
  have l2 := Int.mul_lt_mul_of_pos_left (show (c - r) * A + r * B < c * M by omega) (show 0 < c by omega)
  rw [Int.mul_neg, ← Int.mul_assoc] at l1
  rw [← Int.mul_assoc c c M] at l2
  exact absI_lt.2 ⟨l1, l2⟩
theorem wp_slow {m : Mk} {c R : Nat} (b : Int) (hc : 0 < c) : wpM (rowI (.slow c m) b (c * R)) = (c : Int) * (c : Int) * wpM (rowI m b R) ∧ wpN (rowI (.slow c m) b (c * R)) = c * wpN (rowI m b R) := by
  have w := isWp (rowI m b R)
  have hn : wpN (rowI m b R) ≤ R := by have := w.le; rwa [rowI_len] at this
  have cc : (0 : Int) < (c : Int) * (c : Int) := Int.mul_pos (by omega) (by omega)
  refine (isWp _).uniq ⟨?_, ?_, fun j hj => ?_, fun j hj => ?_⟩
  · rw [rowI_len]; exact Nat.mul_le_mul_left c hn
  · rw [slow_off0 b hn, absI_sq _ _ (by omega), w.eq]
  · rw [rowI_len] at hj
    have hd := Nat.div_add_mod j c
    have hm := Nat.mod_lt j hc
    have hq : j / c ≤ R := Nat.div_le_of_le_mul hj
    rcases Nat.eq_zero_or_pos (j % c) with h | h
    · rw [h, Nat.add_zero] at hd
      rw [← hd, slow_off0 b hq, absI_sq _ _ (by omega)]
      exact Int.mul_le_mul_of_nonneg_left (w.all _ (by rw [rowI_len]; exact hq)) (by omega)
    · have hq2 : j / c < R := by
        rcases Nat.lt_or_ge (j / c) R with h2 | h2
        · exact h2
        · have := Nat.mul_le_mul_left c h2; omega
      rw [← hd, slow_off b hm hq2]
      exact mix_le (by omega) (by omega) (w.all _ (by rw [rowI_len]; exact hq)) (w.all _ (by rw [rowI_len]; exact hq2))
  · have hd := Nat.div_add_mod j c
    have hm := Nat.mod_lt j hc
    have hq : j / c < wpN (rowI m b R) := Nat.div_lt_of_lt_mul hj
    rcases Nat.eq_zero_or_pos (j % c) with h | h
    · rw [h, Nat.add_zero] at hd
      rw [← hd, slow_off0 b (by omega), absI_sq _ _ (by omega)]
      exact Int.mul_lt_mul_of_pos_left (w.fst _ hq) cc
    · rw [← hd, slow_off b hm (by omega)]
      exact mix_lt (by omega) (by omega) (w.fst _ hq) (w.all _ (by rw [rowI_len]; omega))
theorem row_low {m : Mk} (ok : m.Ok) (n : Nat) : rowI m 0 n = List.replicate n 0 := by
  apply List.ext_getElem
  · rw [rowI_len, List.length_replicate]
  · intro i h1 h2
    rw [rowI_len] at h1
    have := val_range ok ((i : Nat) : Int)
    simp [rowI, vals]
    omega
theorem wp_zero (n : Nat) : wpM (List.replicate n 0) = 0 ∧ wpN (List.replicate n 0) = 0 := by
  have e : ∀ j, off (List.replicate n 0) j = 0 := fun j => by
    unfold off pre
    rw [List.take_replicate, List.sum_replicate_int, List.sum_replicate_int]
    simp
  refine (isWp _).uniq ⟨Nat.zero_le _, by rw [e]; rfl, fun j _ => by rw [e]; exact Int.le_refl _, fun j h => absurd h (Nat.not_lt_zero _)⟩
theorem ind_ctr {n k t : Nat} (ht : t < n) : ind (.counter n 1 0) ((k : Nat) : Int) t = if t < k then 1 else 0 := by
  unfold ind
  have e : Mk.val (.counter n 1 0) ((t : Nat) : Int) = (t : Int) := by
    show (Mk.base (.counter n 1 0)).getD (((t : Nat) : Int) % (Mk.base (.counter n 1 0)).length).toNat 0 = _
    have hl : (Mk.base (.counter n 1 0)).length = n := by simp [Mk.base]
    rw [hl, ← Int.natCast_emod, Nat.mod_eq_of_lt ht]
    simp [Mk.base, ht]
    rw [← Int.natCast_emod, Nat.mod_eq_of_lt ht]
  rw [e]
  by_cases h : t < k
  · rw [if_pos h, if_pos (decide_eq_true (by omega))]
  · rw [if_neg h, if_neg (by simpa using h)]
theorem ctr_pre {n k : Nat} : ∀ j : Nat, j ≤ n → sumN j (ind (.counter n 1 0) ((k : Nat) : Int)) = (min j k : Nat)
  | 0, _ => by simp [sumN]
  | j + 1, h => by
    show sumN j _ + ind _ _ j = _
    rw [ctr_pre j (by omega), ind_ctr (by omega)]
    split <;> omega
theorem ctr_off {n k j : Nat} (hj : j ≤ n) (hk : k ≤ n) : off (rowI (.counter n 1 0) ((k : Nat) : Int) n) j = (min j k : Nat) * (n : Int) - j * (k : Int) := by
  rw [off_rowI _ _ hj, ctr_pre _ hj, ctr_pre _ (Nat.le_refl _), Nat.min_eq_right hk]
theorem wp_ctr {n k : Nat} (h1 : 1 ≤ k) (h2 : k < n) : wpM (rowI (.counter n 1 0) ((k : Nat) : Int) n) = (k : Int) * ((n : Int) - k) ∧ wpN (rowI (.counter n 1 0) ((k : Nat) : Int) n) = k := by
  have lo : ∀ j : Nat, j ≤ k → off (rowI (.counter n 1 0) ((k : Nat) : Int) n) j = (j : Int) * ((n : Int) - k) := fun j hj => by
    rw [ctr_off (by omega) (by omega), Nat.min_eq_left hj, Int.mul_sub]
  have hi : ∀ j : Nat, k ≤ j → j ≤ n → off (rowI (.counter n 1 0) ((k : Nat) : Int) n) j = (k : Int) * ((n : Int) - j) := fun j hj hn => by
    rw [ctr_off (by omega) (by omega), Nat.min_eq_right hj, Int.mul_sub, Int.mul_comm (j : Int)]
  have nn : ∀ {x y : Int}, 0 ≤ x → 0 ≤ y → absI (x * y) = x * y := fun {x y} a b => by
    have := Int.mul_nonneg a b
    unfold absI; rw [if_neg (by omega)]
  refine (isWp _).uniq ⟨by rw [rowI_len]; omega, ?_, fun j hj => ?_, fun j hj => ?_⟩
  · rw [lo k (Nat.le_refl _), nn (by omega) (by omega)]
  · rw [rowI_len] at hj
    rcases Nat.le_total j k with h | h
    · rw [lo j h, nn (by omega) (by omega)]
      exact Int.mul_le_mul_of_nonneg_right (by omega) (by omega)
    · rw [hi j h hj, nn (by omega) (by omega)]
      exact Int.mul_le_mul_of_nonneg_left (by omega) (by omega)
  · rw [lo j (by omega), nn (by omega) (by omega)]
    exact Int.mul_lt_mul_of_pos_right (by omega) (by omega)
end DL
end

section
set_option Elab.async false
set_option linter.all false
set_option maxRecDepth 100000
set_option maxHeartbeats 1000000
/-! ## beats enough -/
namespace DL
open PySem PySem.Spec PyProof.Rows L2
def b_last_off : DTS :=
  (sSeq (sIf (tBl (eOp2 pLe (eOp2 pMul (eVar 0) (eVar 4)) (eOp2 pMul (eOp2 pMul (eVar 3) (eVar 1)) (eVar 2)))) (sRet (eC (.int 0))) sNext)
  (sSeq (sSet 5 (eOp2 pDiv (eOp2 pSub (eOp2 pSub (eOp2 pMul (eVar 0) (eVar 4)) (eC (.int 1))) (eOp2 pMul (eOp2 pMul (eVar 3) (eVar 1)) (eVar 2))) (eOp2 pMul (eOp2 pMul (eVar 3) (eVar 2)) (eVar 2))))
  (sRet (eOp2 pAdd (eVar 1) (eOp2 pMul (eVar 5) (eVar 2))))))
def b_beats_for (sp_last_off : DSp) (sp_offs_of : DSp) : DTS :=
  (sSeq (sSet 2 (eCallF 1 sp_offs_of (cCons (eVar 0) cNil)))
  (sSeq (sSet 3 (eLenV 0))
  (sRet (eOp2 pAdd (eC (.int 1)) (eCall pMaxA (aCons (eFrz (oComp true [4] (iR1 (aCons (eVar 3) aNil)) tYesD (eCallF 5 sp_last_off (cCons (eCall pAbs (aCons (eIxV 2 (eVar 4)) aNil)) (cCons (eVar 4) (cCons (eVar 3) (cCons (eIxV 1 (eC (.int 0))) (cCons (eIxV 1 (eC (.int 1))) cNil)))))))) aNil))))))
/-- n beats are too few -/
def Few (bs : List Int) (t b : Int) (n : Nat) : Prop := t * n * bs.length < absI (off bs (n % bs.length)) * b
def IsLast (bs : List Int) (t b : Int) (l : Nat) : Prop := (∀ n, 1 ≤ n → Few bs t b n → n ≤ l) ∧ (l = 0 ∨ Few bs t b l)
theorem few_zero {bs : List Int} {t b : Int} : ¬ Few bs t b 0 := by
  unfold Few
  rw [Nat.zero_mod, off_zero]
  simp [absI]
theorem last_one {bs : List Int} {t b : Int} {l l' : Nat} (h : IsLast bs t b l) (h' : IsLast bs t b l') : l = l' := by
  have key : ∀ {l l' : Nat}, IsLast bs t b l → IsLast bs t b l' → l ≤ l' := fun {l l'} h h' => by
    rcases h.2 with e | e
    · omega
    · rcases Nat.eq_zero_or_pos l with z | z
      · omega
      · exact h'.1 l z e
  have := key h h'
  have := key h' h
  omega
/-- what last_off tells -/
def LastOff (o p L t b : Int) (v : Int) : Prop := (v = 0 ∧ o * b ≤ t * p * L) ∨ ∃ r : Int, 0 ≤ r ∧ v = p + r * L ∧ t * (p + r * L) * L < o * b ∧ o * b ≤ t * (p + (r + 1) * L) * L
def sp_last_off : DSp := fun cs post => ∃ o p L t b : Int, cs = [.sh (.int o), .sh (.int p), .sh (.int L), .sh (.int t), .sh (.int b)] ∧ Sz 60 o ∧ Sz 60 p ∧ Sz 60 L ∧ Sz 60 t ∧ Sz 60 b ∧ 0 < L ∧ 0 < t ∧ ∀ v, LastOff o p L t b v → post (.sh (.int v)) []
theorem p_last_off (cs post) (h : sp_last_off cs post) : runD 6 b_last_off cs post := by
  obtain ⟨o, p, L, t, b, rfl, so, sp, sL, st, sb, hL, ht, q⟩ := h
  have m1 : MulOk o b := so.mulOk sb (by decide)
  have m2 : MulOk t p := st.mulOk sp (by decide)
  have m3 : MulOk (t * p) L := (st.mul sp).mulOk sL (by decide)
  refine ⟨m1, m2, m3, ?_⟩
  refine ifD (fun h => ?_) (fun h => ?_)
  · exact q 0 (.inl ⟨rfl, h⟩)
  · have hD : 0 < t * L * L := Int.mul_pos (Int.mul_pos ht hL) hL
    refine ⟨m1, m2, m3, st.mulOk sL (by decide), (st.mul sL).mulOk sL (by decide), ((st.mul sL).mul sL).divOk hD (by decide), ?_⟩
    refine ⟨((((so.mul sb).sub (show Sz (60 + 60) 1 by show 1 < 2 ^ 120; decide)).mono (show 60 + 60 + 1 ≤ 180 by decide)).sub ((st.mul sp).mul sL)).le ?_ |>.mulOk sL (by decide), ?_⟩
    · exact Int.natAbs_ediv_le_natAbs _ _
    · have e1 := Int.mul_ediv_add_emod (o * b - 1 - t * p * L) (t * L * L)
      have e2 := Int.emod_nonneg (o * b - 1 - t * p * L) (show t * L * L ≠ 0 by omega)
      have e3 := Int.emod_lt_of_pos (o * b - 1 - t * p * L) hD
      have e4 : 0 ≤ (o * b - 1 - t * p * L) / (t * L * L) := Int.ediv_nonneg (by omega) (by omega)
      refine q _ (.inr ⟨_, e4, rfl, ?_, ?_⟩)
      · generalize (o * b - 1 - t * p * L) / (t * L * L) = r at *
        have : t * (p + r * L) * L = t * p * L + t * L * L * r := by grind
        omega
      · generalize (o * b - 1 - t * p * L) / (t * L * L) = r at *
        have : t * (p + (r + 1) * L) * L = t * p * L + t * L * L * r + t * L * L := by grind
        omega
def eD (t b : Int) : D := .tuple [.int t, .int b]
def sp_beats_for : DSp := fun cs post => ∃ (bs : List Int) (t b : Int), cs = [.sh (bD bs), .sh (eD t b)] ∧ Bits bs ∧ 0 < bs.length ∧ bs.length < 2 ^ 20 ∧ Sz 40 t ∧ Sz 40 b ∧ 0 < t ∧ 0 < b ∧ ∀ l : Nat, IsLast bs t b l → post (.sh (.int (l + 1))) []
theorem few_round {bs : List Int} {t b : Int} (h : 0 < bs.length) {k r : Nat} (hk : k < bs.length) : Few bs t b (k + r * bs.length) ↔ t * (k + r * bs.length) * bs.length < absI (off bs k) * b := by
  unfold Few
  have e : (k + r * bs.length) % bs.length = k := by rw [Nat.add_mul_mod_self_right, Nat.mod_eq_of_lt hk]
  rw [e, Int.natCast_add, Int.natCast_mul]
theorem p_beats_for (cs post) (h : sp_beats_for cs post) : runD 5 (b_beats_for sp_last_off sp_offs_of) cs post := by
  obtain ⟨bs, t, b, rfl, hb, hl0, hl, st, sb, ht, hb0, q⟩ := h
  have hbig : (2 : Nat) ^ 24 ≤ sizeLine := line_big
  have el : ((bs.map PyData.int).length : Nat) = bs.length := List.length_map _
  have eoff : (offs bs).length = bs.length + 1 := by unfold offs; rw [List.length_map, List.length_range]
  refine ⟨rfl, .nil, bs, rfl, hb, by omega, ?_⟩
  refine ⟨by omega, by omega, by rw [rngD_len]; omega, ?_⟩
  have en : ((bs.map PyData.int).length : Int).toNat = bs.length := by omega
  rw [en]
  refine rng_comp 0 bs.length (fun i acc r => ∃ vs : List Int, acc = vs.map PyData.int ∧ vs.length = i ∧ (∀ (k : Nat) (h : k < vs.length), LastOff (absI (off bs k)) k bs.length t b vs[k]) ∧ r = [some (.sh (bD bs)), some (.sh (eD t b)), some (.sh (.list ((offs bs).map PyData.int))), some (.sh (.int (bs.map PyData.int).length)), none]) ?_ ?_ _ ⟨[], rfl, rfl, fun k h => by simp at h, rfl⟩
  · rintro i hi acc r N ⟨vs, rfl, hvl, hv, rfl⟩ hN
    have e : atI ((offs bs).map PyData.int) (0 + (i : Int)) = some (.int (off bs i)) := by
      rw [at_ints (by omega) (by omega)]
      have : (0 + (i : Int)).toNat = i := by omega
      rw [this]
      unfold offs
      simp [List.getElem?_map, List.getElem?_range (show i < bs.length + 1 by omega)]
    refine optD_of e ⟨rfl, .nil, absI (off bs i), (0 + (i : Int)), _, t, b, rfl, ?_, ?_, ?_, st.mono (by decide), sb.mono (by decide), by omega, ht, fun v hv2 => ?_⟩
    · have := off_sz hb hl (show i ≤ bs.length by omega)
      refine Sz.mono (n := 42) ?_ (by decide)
      show (absI (off bs i)).natAbs < 2 ^ 42
      unfold absI; split <;> omega
    · show (0 + (i : Int)).natAbs < 2 ^ 60
      omega
    · rw [el]; exact (Szl hl).mono (by decide)
    · refine hN _ _ ⟨vs ++ [v], by rw [List.map_append]; rfl, by rw [List.length_append, List.length_singleton, hvl], fun k hk => ?_, rfl⟩
      rw [List.length_append, List.length_singleton] at hk
      rcases Nat.lt_or_ge k vs.length with h | h
      · rw [List.getElem_append_left h]; exact hv k h
      · have : k = vs.length := by omega
        subst this
        rw [List.getElem_append_right (by omega)]
        simp only [Nat.sub_self, List.getElem_singleton]
        rw [el, Int.zero_add, ← hvl] at hv2
        exact hv2
  · rintro acc r ⟨vs, rfl, hvl, hv, rfl⟩
    refine ⟨vs, rfl, by omega, fun m hm hy => ?_⟩
    have hL : 0 < (bs.length : Int) := by omega
    -- m is the last
    obtain ⟨k, hk, ek⟩ := List.getElem_of_mem hm
    have hm0 : 0 ≤ m := by
      rw [← ek]
      rcases hv k hk with ⟨e, _⟩ | ⟨r, hr, e, _⟩
      · omega
      · rw [e]
        have := Int.mul_nonneg hr (by omega : (0 : Int) ≤ bs.length)
        omega
    have hlast : IsLast bs t b m.toNat := by
      constructor
      · intro n hn hf
        have hmod := Nat.mod_lt n hl0
        have hdm := Nat.div_add_mod n bs.length
        have hk2 : n % bs.length < vs.length := by omega
        have hle := hy _ (List.getElem_mem hk2)
        have e1 : (n : Int) = (n % bs.length : Nat) + (n / bs.length : Nat) * bs.length := by
          rw [← Int.natCast_mul, Nat.mul_comm]; omega
        unfold Few at hf
        generalize (n % bs.length) = k' at *
        generalize (n / bs.length) = r' at *
        rcases hv k' hk2 with ⟨e, hnot⟩ | ⟨r, hr, e, hgt, hle2⟩
        · exfalso
          have : t * k' * bs.length ≤ t * n * bs.length := Int.mul_le_mul_of_nonneg_right (Int.mul_le_mul_of_nonneg_left (by rw [e1]; have := Int.mul_nonneg (by omega : (0 : Int) ≤ r') (by omega : (0 : Int) ≤ bs.length); omega) (by omega)) (by omega)
          omega
        · have h1 : t * n * bs.length < t * (k' + (r + 1) * bs.length) * bs.length := by omega
          have h2 : (n : Int) < k' + (r + 1) * bs.length := by
            have h3 := Int.lt_of_mul_lt_mul_right h1 (by omega)
            exact Int.lt_of_mul_lt_mul_left h3 (by omega)
          have h3 : (r' : Int) < r + 1 := by
            rw [e1] at h2
            exact Int.lt_of_mul_lt_mul_right (show (r' : Int) * bs.length < (r + 1) * bs.length by omega) (by omega)
          have h4 : (r' : Int) * bs.length ≤ r * bs.length := Int.mul_le_mul_of_nonneg_right (by omega) (by omega)
          omega
      · rcases hv k hk with ⟨e, _⟩ | ⟨r, hr, e, hgt, _⟩
        · left; omega
        · right
          obtain ⟨r', rfl⟩ := Int.eq_ofNat_of_zero_le hr
          have e5 : m.toNat = k + r' * bs.length := by
            have : m = ((k + r' * bs.length : Nat) : Int) := by rw [← ek, e, Int.natCast_add, Int.natCast_mul]
            omega
          rw [e5]
          exact (few_round hl0 (by omega)).2 hgt
    have q' := q _ hlast
    have e6 : ((m.toNat : Nat) : Int) + 1 = 1 + m := by omega
    rw [e6] at q'
    exact q'
end DL
end

section
set_option Elab.async false
set_option linter.all false
set_option maxRecDepth 100000
set_option maxHeartbeats 1000000
/-! ## t[::-1] of a tuple -/
namespace HT
open PySem PySem.Spec PyProof.Rows PySem.W
section
variable {prog : Program} {w : World} {A : Around} {E : Value → Shared → Prop} {s : Shared}
theorem sliceApplied_back {sl : Addr} {vs : Value} {n : Nat} {Q : Int × Int × Nat → Shared → Prop} (hs : s.heap.IsSliceOf sl .none .none vs) (ps : IsPart vs (some (-1)))
    (h : Q ((n : Int) - 1, -1, n) s) : wpAny (model prog w) A (Builtin.Slice.sliceApplied (.ref sl) (pure (n : Int))) Q E s := by
  obtain ⟨os, hos, hcs, hds⟩ := id hs
  unfold Builtin.Slice.sliceApplied Builtin.Slice.sliceFields
  refine wpAny_bind (wpAny_bind (wpAny_field hos hds (x := .none) rfl (wpAny_bind (wpAny_field hos hds (x := .none) rfl (wpAny_bind (wpAny_field hos hds (x := vs) rfl (wpAny_pure ?_)))))))
  refine wpAny_bind (slicePart_ ps ?_)
  show wpAny _ _ (if ((-1 : Int) == 0) = true then _ else _) _ _ s
  rw [if_neg (by decide)]
  refine wpAny_bind (slicePart_none (wpAny_bind (slicePart_none (wpAny_bind (wpAny_pure ?_)))))
  show wpAny _ _ (pure ((n : Int) - 1, (-1 : Int), Builtin.Slice.slicePlaces ((n : Int) - 1) (-1) (-1))) _ _ s
  have e : Builtin.Slice.slicePlaces ((n : Int) - 1) (-1) (-1) = n := by
    unfold Builtin.Slice.slicePlaces
    have h1 : ¬ ((-1 : Int) > 0) := by decide
    simp only [h1, if_false]
    by_cases h : (n : Int) - 1 > -1
    · rw [if_pos h, show (-(-1) : Int) = 1 by decide, Int.ediv_one]; omega
    · rw [if_neg h]; omega
  rw [e]
  exact wpAny_pure h
theorem pick_back (xs : Array Value) : ((List.range xs.size).filterMap fun (m : Nat) => xs[((xs.size : Int) - 1 + (m : Int) * (-1)).toNat]?).toArray = xs.toList.reverse.toArray := by
  have e : (fun (m : Nat) => xs[((xs.size : Int) - 1 + (m : Int) * (-1)).toNat]?) = fun m => xs[xs.size - 1 - m]? := by
    funext m
    rw [show ((xs.size : Int) - 1 + (m : Int) * (-1)).toNat = xs.size - 1 - m by omega]
  rw [e]
  have h : (List.range xs.size).filterMap (fun m => xs[xs.size - 1 - m]?) = ((List.range xs.size).map fun k => xs.size - 1 - k).filterMap (xs[·]?) := by rw [List.filterMap_map]; rfl
  rw [h, krv_range, List.filterMap_reverse, krv_all]
theorem getItem_tuple_back {t sl : Addr} {items : Array Value} {vs : Value} {Q : Value → Shared → Prop} (ht : IsTup s.heap t items) (hs : s.heap.IsSliceOf sl .none .none vs) (ps : IsPart vs (some (-1)))
    (h : Q (.ref s.heap.objs.size) { s with heap := s.heap.push { cls := .type "tuple", data := .seq items.toList.reverse.toArray } })
    (hsz : items.size ≤ sizeLine) : wpAny (model prog w) A (getItem (.ref t) (.ref sl)) Q E s := by
  have htake : sizeOk (.seq items.toList.reverse.toArray) := by
    show items.toList.reverse.toArray.size ≤ sizeLine
    rw [List.size_toArray, List.length_reverse, Array.length_toList]
    omega
  obtain ⟨os, hos, hcs, hds⟩ := id hs
  have hTs : s.TypeIs (.ref sl) "slice" := ⟨os, hos, hcs⟩
  unfold getItem
  try with_reducible refine wpAny_holding ?_
  first | refine wpAny_bind (wpAny_pure ?_) | skip
  refine wpAny_bind (wpAny_sequenceKey ht.typeIs (by decide) ?_)
  refine wpAny_bind (wpAny_callSpecial?_slot (name := Str.ofString "__getitem__") ht.typeIs PyProof.Rows.slot_tuple_getitem
    (wpAny_call_entry PyProof.Rows.slot_tuple_getitem ht.typeIs entry_tuple_getitem ?_ (args_tuple_getitem _ _)))
  show wpAny _ _ (Builtin.Tuple.tupleItemsOf (.ref t) >>= _) _ _ s
  refine wpAny_bind (tupleItemsOf_ ht ?_)
  refine wpAny_bind (wpAny_typeOf hTs ?_)
  rw [if_pos (by decide)]
  refine wpAny_bind (sliceApplied_back hs ps ?_)
  have hno : ¬ ((((items.size : Int) - 1) == 0 && (-1 : Int) == 1 && items.size == items.size) = true) := by
    intro q
    rw [Bool.and_eq_true, Bool.and_eq_true] at q
    exact absurd q.1.2 (by decide)
  show wpAny _ _ (if (((items.size : Int) - 1) == 0 && (-1 : Int) == 1 && items.size == items.size) = true then _ else _) _ _ s
  rw [if_neg hno, pick_back]
  first
    | exact wpAny_bind (m := Builtin.Tuple.tupleExact _) (wpAny_newObj_type (wpAny_pure ⟨_, rfl, wpAny_pure h⟩) htake)
    | exact wpAny_bind (m := Builtin.Tuple.tupleExact _) (wpAny_newObj_type (wpAny_bind (wpAny_pure (wpAny_pure ⟨_, rfl, wpAny_pure h⟩))) htake)
    | exact wpAny_bind (wpAny_bind (m := Builtin.Tuple.tupleExact _) (wpAny_newObj_type (wpAny_pure (wpAny_pure ⟨_, rfl, wpAny_pure h⟩)) htake))
    | exact wpAny_bind (wpAny_bind (m := Builtin.Tuple.tupleExact _) (wpAny_newObj_type (wpAny_pure ⟨_, rfl, wpAny_pure h⟩) htake))
end
end HT
namespace L2
open PySem PySem.Spec PyProof.Rows
section
variable {X : Cx}
def tRevT (K : PySem.W.Frag) (te : TE) : TE := fun σ H Q => te σ H fun x H1 => ∃ a xs, x = .ref a ∧ SqT K H1 a xs ∧ ∀ p, H1 p = none → Q (.ref p) (upd H1 p (.tup xs.reverse))
theorem pe_revT {e : Expr} {te : TE} {k : Nat} {p1 p2 p3 pos : Pos} (he : PE X e te) : PE X (.Subscript e (.Slice none none (some (.UnaryOp .USub (.Constant (.int 1) k p1) p2)) p3) pos) (tRevT X.K te) := by
  refine ⟨fun pins s σ H Q I h => ?_⟩
  refine Subscript_ (thn (he.run pins s σ H _ I h) fun v s1 ⟨x, H1, I1, r1, q1⟩ => ?_)
  obtain ⟨a, xs, ex, hx, q⟩ := q1
  subst ex
  cases r1
  have hst : PO X (some (.UnaryOp .USub (.Constant (.int 1) k p1) p2)) (tPart (tUn (rU fun i => .int (-i)) (tC (.int 1)))) := po_some (pe_un un_neg pe_int)
  refine wpAny_Slice (thn (po_none.run pins s1 σ H1 (fun o H2 => o = none ∧ H2 = H1) I1 ⟨rfl, rfl⟩) fun vl s2 ⟨l, H2, I2, pl, el, e2⟩ => ?_)
  subst el e2
  refine thn (po_none.run pins s2 σ H2 (fun o H3 => o = none ∧ H3 = H2) I2 ⟨rfl, rfl⟩) fun vu s3 ⟨u, H3, I3, pu, eu, e3⟩ => ?_
  subst eu e3
  refine thn (hst.run pins s3 σ H3 (fun o H4 => o = some (-1) ∧ H4 = H3) I3 ⟨1, rfl, -1, rfl, rfl, rfl⟩) fun vs s4 ⟨o, H4, I4, ps, eo, e4⟩ => ?_
  subst eo e4
  cases pl
  cases pu
  have I5 : Inv X pins σ H4 { s4 with heap := s4.heap.push { cls := .type "slice", data := .fields #[.none, .none, vs] } } := I4.kept (t' := s4.toks) fun b ob q => Heap.get?_push_of_some _ q
  obtain ⟨its, r, ht, hz⟩ := I5.tuple hx
  have hlen := r.length
  show wpAny (model X.prog X.w) X.A (subscriptTail e (.Slice none none (some (.UnaryOp .USub (.Constant (.int 1) k p1) p2)) p3) (.ref a) (.ref s4.heap.objs.size)) (EP X pins σ Q) X.xe { s4 with heap := s4.heap.push { cls := .type "slice", data := .fields #[.none, .none, vs] } }
  refine tail_any (ops := [.ref a, .ref s4.heap.objs.size]) ht.typeIs (PyProof.Rows.slot_tuple_getitem.lookup) ?_ (by with_unfolding_all rfl)
  refine HT.getItem_tuple_back ht (Heap.IsSliceOf.new _ .none .none vs) ps ?_ (by rw [List.size_toArray]; omega)
  refine ⟨.ref _, _, I5.laid (t' := s4.toks) (o := .tup xs.reverse) (fun b ob q => Heap.get?_push_of_some _ q) (Nat.le_refl _) ?_, rfl, q _ (I5.hok.fresh (Nat.le_refl _))⟩
  exact ⟨by rw [List.length_reverse]; exact hz, _, r.reverse, IsTup.new _ _⟩
end
end L2
namespace DL
open PySem PySem.Spec PyProof.Rows L2
section
variable {X : Cx}
def eRevT (te : DTE) : DTE := fun r q => te r fun d r1 => match d with
  | .tuple ds => q (.tuple ds.reverse) r1
  | _ => False
theorem d_revT {te : DTE} {k : Nat} {p1 p2 p3 : Pos} (he : DE X e te) : DE X (.Subscript e (.Slice none none (some (.UnaryOp .USub (.Constant (.int 1) k p1) p2)) p3) pos) (eRevT te) := by
  refine ⟨fun W => pe_weak (pe_revT (he.run W)) fun σ H Q h => ?_⟩
  obtain ⟨r, F1, q, R, t, w⟩ := h
  refine ⟨r, F1, _, R, t, fun d r1 v F2 H2 t1 R1 s1 p1 => ?_⟩
  cases p1 with
  | tup h1 h2 =>
    refine ⟨_, _, rfl, same_tup R1.sub h1, fun p hp => ?_⟩
    rename_i vs ds
    have ex := ext_new (o := .tup vs.reverse) R1.sub hp
    exact w _ r1 _ _ _ t1 (R1.ext ex) (s1.trans ex.f) (.tup (SqT.of upd_same) ((h2.up ex.f).reverse))
  | _ => exact t1.elim
end
end DL
end

section
set_option Elab.async false
set_option linter.all false
set_option maxRecDepth 100000
set_option maxHeartbeats 1000000
/-! ## sorted of whole numbers; len(set(..)) of numbers that come once -/
namespace DL
open PySem PySem.Spec PyProof.Rows L2
section
variable {X : Cx} {K : PySem.W.Frag}
def pSrt : PN := fun xs q => match xs with
  | [.list ds] => ∃ ns : List Int, ds = ns.map PyData.int ∧ ∀ ms : List Int, ms.Perm ns → ms.Pairwise (· ≤ ·) → q (.list (ms.map PyData.int))
  | _ => False
theorem v_srt : VCall K (rSortedI K) pSrt := by
  intro F H xs ds q Q s p t h
  match ds, p, t with
  | [.list es], .cons (@Rp.lst _ _ a vs _ h1 h2) .nil, ⟨ns, e, t⟩ =>
    subst e
    refine ⟨a, ns, rfl, by rw [← RpAll.ofInts h2]; exact SqL.of (s _ _ h1), fun ms l h3 h4 hl => ?_⟩
    have e := ext_new (o := .lst (ms.map V.int)) s hl
    exact h _ _ _ _ (t ms h3 h4) e (.lst upd_same (RpAll.ints ms))
/-- two rising lists of the same numbers are one -/
theorem srt_uniq : ∀ {xs ys : List Int}, xs.Perm ys → xs.Pairwise (· ≤ ·) → ys.Pairwise (· ≤ ·) → xs = ys := fun {xs ys} h hx hy => List.Perm.eq_of_pairwise (fun a b _ _ h1 h2 => Int.le_antisymm h1 h2) hx hy h
def eLenSet (te : DTE) : DTE := fun r q => te r fun d r1 => match d with
  | .list ds => ∃ ns : List Int, ds = ns.map PyData.int ∧ ns.Nodup ∧ ns.length ≤ 4000 ∧ q (.int (ns.length : Nat)) r1
  | _ => False
theorem d_lenSet {e : Expr} {te : DTE} {p p2 q pos : Pos} (he : DE X e te) (hg : Gl X "len") (hm : X.mg "len" = none) (hg2 : Gl X "set") (hm2 : X.mg "set" = none) (hc : X.calm = true := by rfl)
    (na : starEach [e] X.env = (false, eval e X.env) :: starEach [] X.env := by rfl) : DE X (.Call (.Name "len" p) [.Call (.Name "set" p2) [e] [] q] [] pos) (eLenSet te) := by
  refine ⟨fun W => pe_weak (RZ.pe_lenSetI hg hm hg2 hm2 (he.run W) hc na) fun σ H Q h => ?_⟩
  obtain ⟨r, F, q, R, t, w⟩ := h
  refine ⟨r, F, _, R, t, fun d r' v F' H' a b c p => ?_⟩
  cases p with
  | lst h1 h2 =>
    obtain ⟨ns, e, nd, hl, a⟩ := a
    subst e
    exact ⟨_, ns, rfl, by rw [← RpAll.ofInts h2]; exact SqL.of (b.sub _ _ h1), nd, hl, w _ r' _ F' H' a b c (.int _)⟩
  | _ => exact a.elim
end
end DL
namespace DL
open PySem PySem.Spec PyProof.Rows L2
section
variable {X : Cx} {K : PySem.W.Frag}
/-! ## list(range(a, b)) -/
def oRg2 (ta tb : DTE) : DTO := fun r q => ta r fun x r1 => tb r1 fun y r2 => match x, y with
  | .int i, .int j => RgOk i j ∧ q (.lst (rngD i (j - i).toNat)) r2
  | _, _ => False
theorem o_rg2 {e f : Expr} {ta tb : DTE} {p pos p2 pos2 : Pos} (he : DE X e ta) (hf : DE X f tb) (hc : X.calm = true) (hg : Gl X "list") (hm : X.mg "list" = none) (hg2 : Gl X "range") (hm2 : X.mg "range" = none)
    (na : starEach [.Call (.Name "range" p2) [e, f] [] pos2] X.env = (false, eval (.Call (.Name "range" p2) [e, f] [] pos2) X.env) :: starEach [] X.env := by rfl)
    (nb : starEach [e, f] X.env = (false, eval e X.env) :: starEach [f] X.env := by rfl) (nc : starEach [f] X.env = (false, eval f X.env) :: starEach [] X.env := by rfl) (np : (backTo pos2 (starEach [f] X.env)).any (·.1) = false := by rfl) :
    DO X (.Call (.Name "list" p) [.Call (.Name "range" p2) [e, f] [] pos2] [] pos) (oRg2 ta tb) := by
  refine ⟨fun W => pe_weak (pe_listRg hc hg hm (prg_2 hg2 hm2 (he.run W) (hf.run W) nb nc np) na) fun σ H Q h => ?_⟩
  obtain ⟨r, F, q, R, t, w⟩ := h
  refine ⟨r, F, _, R, t, fun dx r1 v1 F1 H1 t1 R1 s1 p1 => ⟨r1, F1, _, R1, t1, fun dy r2 v2 F2 H2 t2 R2 s2 p2 => ?_⟩⟩
  cases p1 with
  | int i =>
    cases p2 with
    | int j =>
      refine ⟨i, j, rfl, rfl, t2.1, fun l hl => ?_⟩
      obtain ⟨R4, f4, h4, ap⟩ := rel_newH (o := .lst (rgV i j)) R2 hl
      exact w _ r2 l _ F2 _ t2.2 R4 (s1.trans s2) upd_same f4 ⟨_, rfl, rgV_rp (K := X.K) (F := F2) i j⟩ h4 ap
    | _ => exact t2.elim
  | _ => exact t2.elim
end
end DL
end

section
set_option Elab.async false
set_option linter.all false
set_option maxRecDepth 100000
set_option maxHeartbeats 1000000
/-! ## xs.count(k), xs.insert(i, x), len(set(xs)) -/
namespace DL
open PySem PySem.Spec PyProof.Rows L2
section
variable {X : Cx} {K : PySem.W.Frag}
def pCnt (x : D) (es : List D) (q : D → Prop) : Prop := match x, es with
  | .list ds, [.int k] => ∃ ns : List Int, ds = ns.map PyData.int ∧ q (.int (ns.count k : Nat))
  | _, _ => False
theorem vm_cnt : VMeth K (rCntI K) pCnt := by
  intro F H x xs dx ds q Q s px ps t h
  match dx, ds, px, ps, t with
  | .list es, [.int k], .lst h1 h2, .cons (.int _) .nil, ⟨ns, e, t⟩ =>
    subst e
    exact ⟨_, ns, k, rfl, rfl, by rw [← RpAll.ofInts h2]; exact SqL.of (s _ _ h1), fin_flat s h (.int _) t⟩
theorem d_count {o e : Expr} {te : DTE} {ta : DTA} {apos cpos : Pos} (ho : DE X o te) (ha : DA X [e] ta)
    (hbase : attributeBase o "count" X.env (eval o X.env) = eval o X.env := by rfl)
    (hfew : ((backTo cpos (starEach [e] X.env)).all (fun x => !x.1) && (backToKw cpos (keywordEach [] X.env)).all (fun x => x.1.isSome)
      && decide ([e].length + ([] : List Keyword).length + (if ([] : List Keyword).isEmpty then 0 else 1) < 30)) = true := by rfl)
    (hline : (apos.endLine == cpos.line) = true := by rfl) (hs : starEach [e] X.env = (false, eval e X.env) :: starEach [] X.env := by rfl) (hplain : (backTo cpos (starEach [] X.env)).any (·.1) = false := by rfl) :
    DE X (.Call (.Attribute o "count" apos) [e] [] cpos) (eMeth .list pCnt te ta) :=
  d_meth (T := .list) PySem.F.plainAttrs_list PySem.F.slot_list_count PySem.F.type_list_count mt_lcount vm_cnt tyv_list ho ha hbase hfew hline hs hplain
def pIns (ds es : List D) (q : D → List D → Prop) : Prop := match es with
  | [.int i, d] => ds.length < sizeLine ∧ 0 ≤ i ∧ i < 2 ^ 63 ∧ q .none (ds.take i.toNat ++ [d] ++ ds.drop i.toNat)
  | _ => False
def rIns : V → List V → Hp → VK → Prop := fun x vs H Q => ∃ (l : Addr) (xs : List V) (i : Int) (y : V), x = .ref l ∧ vs = [.int i, y] ∧ H l = some (.lst xs) ∧ xs.length < sizeLine ∧ 0 ≤ i ∧ i < 2 ^ 63 ∧
  Q .non (upd H l (.lst (xs.take i.toNat ++ [y] ++ xs.drop i.toNat)))
theorem vm_ins : VMut rIns pIns := by
  intro K F H a vs ds xs es q Q s ha fa p1 p2 t h
  match es, p2, t with
  | [.int i, d], .cons (.int _) (.cons k1 .nil), ⟨t1, t2, t3, t⟩ =>
    exact ⟨a, vs, i, _, rfl, rfl, ha, by rw [p1.length]; exact t1, t2, t3, h _ _ _ _ t (((p1.take _).append (.cons k1 .nil)).append (p1.drop _)) .non⟩
theorem d_insert (i : Nat) {x : Str} {e f : Expr} {ta : DTA} {p apos cpos : Pos} (ha : DA X [e, f] ta) (hN : X.N[i]? = some x := by rfl) (hvis : Vis X.env.scope x := by first | exact Or.inl rfl | exact Or.inr (Or.inl rfl) | exact Or.inr (Or.inr rfl)) (hd : (x == ("__debug__" : Str)) = false := by decide) (hcd : (x == ("__classdict__" : Str)) = false := by decide)
    (hbase : attributeBase (.Name x p) "insert" X.env (eval (.Name x p) X.env) = eval (.Name x p) X.env := by rfl) (hline : (apos.endLine == cpos.line) = true := by rfl)
    (hfew : ((backTo cpos (starEach [e, f] X.env)).all (fun x => !x.1) && (backToKw cpos (keywordEach [] X.env)).all (fun x => x.1.isSome) && decide ([e, f].length + ([] : List Keyword).length + (if ([] : List Keyword).isEmpty then 0 else 1) < 30)) = true := by rfl)
    (hst : starEach [e, f] X.env = (false, eval e X.env) :: starEach [f] X.env := by rfl) (hpl : (backTo cpos (starEach [f] X.env)).any (·.1) = false := by rfl) :
    DE X (.Call (.Attribute (.Name x p) "insert" apos) [e, f] [] cpos) (eMutL i pIns ta) :=
  d_mut i PySem.F.slot_list_insert PySem.F.type_list_insert (rr := rIns) mt_insert vm_ins ha hN hvis hd hcd fun W => pe_bm PySem.F.plainAttrs_list PySem.F.slot_list_insert PySem.F.type_list_insert mt_insert (pe_var hN hvis hd hcd) (ha.run W) hbase hfew hline hst hpl
/-! ### how many different ones -/
theorem met_nodup (f : Nat → Int) : ∀ i, (firstMet f i).Nodup
  | 0 => by rw [firstMet_zero]; exact List.nodup_nil
  | i + 1 => by
    rw [firstMet_succ]
    unfold step_dedup
    split
    · exact met_nodup f i
    · rename_i h
      refine List.nodup_append.2 ⟨met_nodup f i, by simp, fun a ha b hb e => ?_⟩
      rw [List.mem_singleton.1 hb] at e
      subst e
      exact h (List.any_eq_true.2 ⟨_, ha, by simp⟩)
theorem met_mem (ns : List Int) (k : Int) : k ∈ firstMet (fun i => ns.getD i 0) ns.length ↔ k ∈ ns := by
  have h := firstMet_any (fun i => ns.getD i 0) ns.length k
  have e : (List.range ns.length).map (fun i => ns.getD i 0) = ns := by
    apply List.ext_getElem
    · simp
    · intro i h1 h2
      simp [List.getD_eq_getElem?_getD, h2]
  rw [e] at h
  have a : ∀ l : List Int, (l.any (· == k)) = true ↔ k ∈ l := fun l => by simp
  rw [← a, h, a]
def tLenSetG (K : PySem.W.Frag) (ta : TE) : TE := fun σ H Q => ta σ H fun x H1 => ∃ (l : Addr) (ns : List Int), x = .ref l ∧ SqL K H1 l (ns.map V.int) ∧ ns.length ≤ 4000 ∧ ∀ out : List Int, out.Nodup → (∀ k, k ∈ out ↔ k ∈ ns) → Q (.int (out.length : Nat)) H1
theorem pe_lenSetG {a : Expr} {ta : TE} {p p2 q pos : Pos} (hg : Gl X "len") (hm : X.mg "len" = none) (hg2 : Gl X "set") (hm2 : X.mg "set" = none) (ha : PE X a ta) (hc : X.calm = true := by rfl)
    (na : starEach [a] X.env = (false, eval a X.env) :: starEach [] X.env := by rfl) : PE X (.Call (.Name "len" p) [.Call (.Name "set" p2) [a] [] q] [] pos) (tLenSetG X.K ta) := by
  refine ⟨fun pins s σ H Q I h => ?_⟩
  refine Call_ (ld_blt I hg hm boot_len ?_)
  refine PyProof.Rows.callWith_builtin1 (PyProof.Rows.args_cons ?_ rfl) rfl rfl
  refine Call_ (ld_blt I hg2 hm2 boot_set ?_)
  refine PyProof.Rows.callWith_type1 (PyProof.Rows.args_cons (thn (ha.run pins s σ H _ I h) fun v s1 ⟨x, H1, I1, r1, q1⟩ => PyProof.Rows.args_nil ?_) na) na rfl
  obtain ⟨l, ns, rfl, hq, hl, q1⟩ := q1
  cases r1
  obtain ⟨its, r, pl, hz⟩ := I1.list hq
  have hlen : its.toArray.size = ns.length := by rw [List.size_toArray, ← r.length, List.length_map]
  have hle := firstMet_length_le (fun i => ns.getD i 0) ns.length
  refine call_set_list (I1.ok.hd hc) pl.isList (by simpa using RZ.intsAre_vals r) (by rw [hlen]; unfold scanBound; omega) fun h' tk hS hk => ?_
  refine PyProof.Rows.args_nil ?_
  rw [hlen] at hS
  have qq := q1 _ (met_nodup (fun i => ns.getD i 0) ns.length) (met_mem ns)
  obtain ⟨o, es, ep, t, ho, hex, hd, _, _, _, hf, hn⟩ := hS
  have I2 : Inv X pins σ H1 { s1 with heap := h', toks := tk } := I1.kept fun b o e => hk b o (Heap.lt_size e) e
  exact call_len_set ho hex hd hf (by rw [hn] <;> omega) ⟨.int _, H1, I2.tok _, ⟨_, by rw [hn]⟩, qq⟩
def eLenSetG (te : DTE) : DTE := fun r q => te r fun d r1 => match d with
  | .list ds => ∃ ns : List Int, ds = ns.map PyData.int ∧ ns.length ≤ 4000 ∧ ∀ out : List Int, out.Nodup → (∀ k, k ∈ out ↔ k ∈ ns) → q (.int (out.length : Nat)) r1
  | _ => False
theorem d_lenSetG {e : Expr} {te : DTE} {p p2 q pos : Pos} (he : DE X e te) (hg : Gl X "len") (hm : X.mg "len" = none) (hg2 : Gl X "set") (hm2 : X.mg "set" = none) (hc : X.calm = true := by rfl)
    (na : starEach [e] X.env = (false, eval e X.env) :: starEach [] X.env := by rfl) : DE X (.Call (.Name "len" p) [.Call (.Name "set" p2) [e] [] q] [] pos) (eLenSetG te) := by
  refine ⟨fun W => pe_weak (pe_lenSetG hg hm hg2 hm2 (he.run W) hc na) fun σ H Q h => ?_⟩
  obtain ⟨r, F, q, R, t, w⟩ := h
  refine ⟨r, F, _, R, t, fun d r' v F' H' a b c p => ?_⟩
  cases p with
  | lst h1 h2 =>
    obtain ⟨ns, e, hl, a⟩ := a
    subst e
    exact ⟨_, ns, rfl, by rw [← RpAll.ofInts h2]; exact SqL.of (b.sub _ _ h1), hl, fun out h3 h4 => w _ r' _ F' H' (a out h3 h4) b c (.int _)⟩
  | _ => exact a.elim
end
end DL
end

section
set_option Elab.async false
set_option linter.all false
set_option maxRecDepth 100000
namespace K47
open PySem DL

def c_MOST_BELOW : D := .int 64

def c_MOST_KEPT : D := .int 64

def c_MOST_LATE : D := .int 16

def c_MOST_NUMBER : D := .int 64

def c_MOST_PIECES : D := .int 24

def c_MOST_ROUND : D := .int 4096

def c_MOST_WIDE : D := .int 6

def c_MOST_WRAPPED : D := .int 3

def c_WRAPPERS : D := .tuple [.str "slow", .str "slip", .str "late"]

def dd_PARTS : List (Str × Int) := [("less", 1), ("both", 2), ("either", 2), ("oneof", 2), ("pick", 3)]

/-- common_divisor(one, other): slots 0 one, 1 other; calls  -/
def b_common_divisor : DTS :=
  (sSeq (sPar 0 1 (aCons (eCall pAbs (aCons (eVar 0) aNil)) (aCons (eCall pAbs (aCons (eVar 1) aNil)) aNil)))
  (sSeq (sWhile (tBl (eOp2 pGt (eVar 1) (eC (.int 0)))) (sPar 0 1 (aCons (eVar 1) (aCons (eOp2 pMod (eVar 0) (eVar 1)) aNil))))
  (sRet (eVar 0))))

/-- is_number(thing): slots 0 thing; calls  -/
def b_is_number : DTS :=
  (sRet (eAnd (eIsi .int (eVar 0)) (eNot (eIsi .bool (eVar 0)))))

/-- is_between(thing, least, most): slots 0 thing, 1 least, 2 most; calls is_number -/
def b_is_between (sp_is_number : DSp) : DTS :=
  (sRet (eAnd (eCallF 1 sp_is_number (cCons (eVar 0) cNil)) (eChain pLe pLe (eVar 1) (eVar 0) (eVar 2))))

/-- power_of_two(wide): slots 0 wide, 1 found, 2 turn; calls  -/
def b_power_of_two : DTS :=
  (sSeq (sSet 1 (eC (.int 1)))
  (sSeq (sFor (iR1 (aCons (eVar 0) aNil)) (gNm 2) (sAug 1 pMulI (eC (.int 2))))
  (sRet (eVar 1))))

/-- is_counter(maker): slots 0 maker; calls common_divisor, is_between -/
def b_is_counter (sp_common_divisor : DSp) (sp_is_between : DSp) : DTS :=
  (sSeq (sIf (tOr' (tBl (eOp2 pNe (eLenV 0) (eC (.int 4)))) (tOr' (tNt (tTru (eCallF 3 sp_is_between (cCons (eIxV 0 (eC (.int 1))) (cCons (eC (.int 1)) (cCons (eC c_MOST_NUMBER) cNil)))))) (tNt (tTru (eCallF 3 sp_is_between (cCons (eIxV 0 (eC (.int 2))) (cCons (eC (.int 1)) (cCons (eIxV 0 (eC (.int 1))) cNil)))))))) (sRet (eC (.bool false))) sNext)
  (sRet (eAnd (eOp2 pEq (eCallF 2 sp_common_divisor (cCons (eIxV 0 (eC (.int 1))) (cCons (eIxV 0 (eC (.int 2))) cNil))) (eC (.int 1))) (eCallF 3 sp_is_between (cCons (eIxV 0 (eC (.int 3))) (cCons (eC (.int 0)) (cCons (eOp2 pSub (eIxV 0 (eC (.int 1))) (eC (.int 1))) cNil)))))))

/-- is_turned(maker): slots 0 maker; calls is_between, power_of_two -/
def b_is_turned (sp_is_between : DSp) (sp_power_of_two : DSp) : DTS :=
  (sSeq (sIf (tOr' (tBl (eOp2 pNe (eLenV 0) (eC (.int 3)))) (tNt (tTru (eCallF 3 sp_is_between (cCons (eIxV 0 (eC (.int 1))) (cCons (eC (.int 1)) (cCons (eC c_MOST_WIDE) cNil))))))) (sRet (eC (.bool false))) sNext)
  (sRet (eCallF 3 sp_is_between (cCons (eIxV 0 (eC (.int 2))) (cCons (eC (.int 0)) (cCons (eOp2 pSub (eCallF 1 sp_power_of_two (cCons (eIxV 0 (eC (.int 1))) cNil)) (eC (.int 1))) cNil))))))

/-- is_register(maker): slots 0 maker, 1 most; calls is_between, power_of_two -/
def b_is_register (sp_is_between : DSp) (sp_power_of_two : DSp) : DTS :=
  (sSeq (sIf (tOr' (tBl (eOp2 pNe (eLenV 0) (eC (.int 4)))) (tNt (tTru (eCallF 3 sp_is_between (cCons (eIxV 0 (eC (.int 1))) (cCons (eC (.int 2)) (cCons (eC c_MOST_WIDE) cNil))))))) (sRet (eC (.bool false))) sNext)
  (sSeq (sSet 1 (eCallF 1 sp_power_of_two (cCons (eIxV 0 (eC (.int 1))) cNil)))
  (sRet (eAnd (eCallF 3 sp_is_between (cCons (eIxV 0 (eC (.int 2))) (cCons (eOp2 pDiv (eVar 1) (eC (.int 2))) (cCons (eOp2 pSub (eVar 1) (eC (.int 1))) cNil)))) (eCallF 3 sp_is_between (cCons (eIxV 0 (eC (.int 3))) (cCons (eC (.int 1)) (cCons (eOp2 pSub (eVar 1) (eC (.int 1))) cNil))))))))

/-- is_table(maker): slots 0 maker, 1 number; calls is_between -/
def b_is_table (sp_is_between : DSp) : DTS :=
  (sSeq (sIf (tOr' (tBl (eOp2 pNe (eLenV 0) (eC (.int 2)))) (tOr' (tNt (tTru (eIsi .tuple (eIxV 0 (eC (.int 1)))))) (tNt (tBl (eChain pLe pLe (eC (.int 1)) (eCall pLen (aCons (eIxV 0 (eC (.int 1))) aNil)) (eC c_MOST_NUMBER)))))) (sRet (eC (.bool false))) sNext)
  (sRet (eCall pAll (aCons (eFrz (oComp true [1] (iAny (eIxV 0 (eC (.int 1)))) tYesD (eCallF 3 sp_is_between (cCons (eVar 1) (cCons (eC (.int 0)) (cCons (eOp2 pSub (eC c_MOST_NUMBER) (eC (.int 1))) cNil)))))) aNil))))

/-- is_wrapped(maker, left): slots 0 maker, 1 left, 2 word, 3 least; calls is_between, is_counter, is_register, is_table, is_turned, is_wrapped -/
def b_is_wrapped (sp_is_between : DSp) (sp_is_counter : DSp) (sp_is_register : DSp) (sp_is_table : DSp) (sp_is_turned : DSp) (sp_is_wrapped : DSp) : DTS :=
  (sSeq (sIf (tOr' (tNt (tTru (eIsi .tuple (eVar 0)))) (tOr' (tBl (eOp2 pEq (eLenV 0) (eC (.int 0)))) (tNt (tTru (eIsi .str (eIxV 0 (eC (.int 0)))))))) (sRet (eC (.bool false))) sNext)
  (sSeq (sSet 2 (eIxV 0 (eC (.int 0))))
  (sSeq (sIf (tBl (eOp2 (pIn false) (eVar 2) (eC c_WRAPPERS))) (sSeq (sSet 3 (eIf (tBl (eOp2 pEq (eVar 2) (eC (.str "late")))) (eC (.int 0)) (eC (.int 1))))
  (sSeq (sIf (tOr' (tBl (eOp2 pEq (eVar 1) (eC (.int 0)))) (tOr' (tBl (eOp2 pNe (eLenV 0) (eC (.int 3)))) (tNt (tTru (eCallF 3 sp_is_between (cCons (eIxV 0 (eC (.int 1))) (cCons (eVar 3) (cCons (eC c_MOST_NUMBER) cNil)))))))) (sRet (eC (.bool false))) sNext)
  (sRet (eCallF 2 sp_is_wrapped (cCons (eIxV 0 (eC (.int 2))) (cCons (eOp2 pSub (eVar 1) (eC (.int 1))) cNil)))))) sNext)
  (sSeq (sIf (tBl (eOp2 pEq (eVar 2) (eC (.str "counter")))) (sRet (eCallF 1 sp_is_counter (cCons (eVar 0) cNil))) sNext)
  (sSeq (sIf (tBl (eOp2 pEq (eVar 2) (eC (.str "turned")))) (sRet (eCallF 1 sp_is_turned (cCons (eVar 0) cNil))) sNext)
  (sSeq (sIf (tBl (eOp2 pEq (eVar 2) (eC (.str "register")))) (sRet (eCallF 1 sp_is_register (cCons (eVar 0) cNil))) sNext)
  (sRet (eAnd (eOp2 pEq (eVar 2) (eC (.str "table"))) (eCallF 1 sp_is_table (cCons (eVar 0) cNil))))))))))

/-- is_maker(thing): slots 0 thing; calls is_wrapped, round_of -/
def b_is_maker (sp_is_wrapped : DSp) (sp_round_of : DSp) : DTS :=
  (sRet (eAnd (eCallF 2 sp_is_wrapped (cCons (eVar 0) (cCons (eC c_MOST_WRAPPED) cNil))) (eOp2 pLe (eCallF 1 sp_round_of (cCons (eVar 0) cNil)) (eC c_MOST_ROUND))))

/-- is_odd_together(one, other): slots 0 one, 1 other, 2 odd; calls  -/
def b_is_odd_together : DTS :=
  (sSeq (sSet 2 (eC (.bool false)))
  (sSeq (sWhile (tAn (tBl (eOp2 pGt (eVar 0) (eC (.int 0)))) (tBl (eOp2 pGt (eVar 1) (eC (.int 0))))) (sSeq (sIf (tAn (tBl (eOp2 pEq (eOp2 pMod (eVar 0) (eC (.int 2))) (eC (.int 1)))) (tBl (eOp2 pEq (eOp2 pMod (eVar 1) (eC (.int 2))) (eC (.int 1))))) (sSet 2 (eNot (eVar 2))) sNext)
  (sSeq (sAug 0 pDivS (eC (.int 2)))
  (sAug 1 pDivS (eC (.int 2))))))
  (sRet (eVar 2))))

/-- held_next(wide, taps, held): slots 0 wide, 1 taps, 2 held; calls is_odd_together, power_of_two -/
def b_held_next (sp_is_odd_together : DSp) (sp_power_of_two : DSp) : DTS :=
  (sRet (eOp2 pAdd (eOp2 pMod (eOp2 pMul (eC (.int 2)) (eVar 2)) (eCallF 1 sp_power_of_two (cCons (eVar 0) cNil))) (eCall pInt (aCons (eCallF 2 sp_is_odd_together (cCons (eVar 2) (cCons (eVar 1) cNil))) aNil))))

/-- held_round(maker): slots 0 maker, 1 word, 2 wide, 3 taps, 4 start, 5 found, 6 held; calls held_next -/
def b_held_round (sp_held_next : DSp) : DTS :=
  (sSeq (sAsg (eVar 0) (gTp' 4 (gsCons (gNm 1) (gsCons (gNm 2) (gsCons (gNm 3) (gsCons (gNm 4) gsNil))))))
  (sSeq (sSetO 5 (oLst (aCons (eVar 4) aNil)))
  (sSeq (sSet 6 (eCallF 3 sp_held_next (cCons (eVar 2) (cCons (eVar 3) (cCons (eVar 4) cNil)))))
  (sSeq (sWhile (tBl (eOp2 pNe (eVar 6) (eVar 4))) (sSeq (sDrop (eMutL 5 pApp (aCons (eVar 6) aNil)))
  (sSet 6 (eCallF 3 sp_held_next (cCons (eVar 2) (cCons (eVar 3) (cCons (eVar 6) cNil)))))))
  (sRet (eVar 5))))))

/-- round_of(maker): slots 0 maker, 1 word, 2 inner; calls common_divisor, held_round, power_of_two, round_of -/
def b_round_of (sp_common_divisor : DSp) (sp_held_round : DSp) (sp_power_of_two : DSp) (sp_round_of : DSp) : DTS :=
  (sSeq (sSet 1 (eIxV 0 (eC (.int 0))))
  (sSeq (sIf (tBl (eOp2 pEq (eVar 1) (eC (.str "counter")))) (sRet (eIxV 0 (eC (.int 1)))) sNext)
  (sSeq (sIf (tBl (eOp2 pEq (eVar 1) (eC (.str "turned")))) (sRet (eCallF 1 sp_power_of_two (cCons (eIxV 0 (eC (.int 1))) cNil))) sNext)
  (sSeq (sIf (tBl (eOp2 pEq (eVar 1) (eC (.str "register")))) (sRet (eCall pLen (aCons (eCallF 1 sp_held_round (cCons (eVar 0) cNil)) aNil))) sNext)
  (sSeq (sIf (tBl (eOp2 pEq (eVar 1) (eC (.str "table")))) (sRet (eCall pLen (aCons (eIxV 0 (eC (.int 1))) aNil))) sNext)
  (sSeq (sSet 2 (eCallF 1 sp_round_of (cCons (eIxV 0 (eC (.int 2))) cNil)))
  (sSeq (sIf (tBl (eOp2 pEq (eVar 1) (eC (.str "slow")))) (sRet (eOp2 pMul (eIxV 0 (eC (.int 1))) (eVar 2))) sNext)
  (sSeq (sIf (tBl (eOp2 pEq (eVar 1) (eC (.str "slip")))) (sRet (eOp2 pMul (eIxV 0 (eC (.int 1))) (eOp2 pDiv (eVar 2) (eCallF 2 sp_common_divisor (cCons (eVar 2) (cCons (eOp2 pAdd (eIxV 0 (eC (.int 1))) (eC (.int 1))) cNil)))))) sNext)
  (sRet (eVar 2))))))))))

/-- is_number_to(thing, least, most): slots 0 thing, 1 least, 2 most; calls  -/
def b_is_number_to : DTS :=
  (sRet (eAnd (eIsi .int (eVar 0)) (eAnd (eNot (eIsi .bool (eVar 0))) (eChain pLe pLe (eVar 1) (eVar 0) (eVar 2)))))

/-- are_pieces(things, many): slots 0 things, 1 many, 2 thing; calls is_number_to -/
def b_are_pieces (sp_is_number_to : DSp) : DTS :=
  (sRet (eCall pAll (aCons (eFrz (oComp true [2] (iAny (eVar 0)) tYesD (eCallF 3 sp_is_number_to (cCons (eVar 2) (cCons (eC (.int 0)) (cCons (eOp2 pSub (eVar 1) (eC (.int 1))) cNil)))))) aNil)))

/-- is_keeper(thing, many): slots 0 thing, 1 many; calls are_pieces, is_maker, is_number_to -/
def b_is_keeper (sp_are_pieces : DSp) (sp_is_maker : DSp) (sp_is_number_to : DSp) : DTS :=
  (sSeq (sIf (tOr' (tBl (eOp2 pNe (eLenV 0) (eC (.int 6)))) (tOr' (tNt (tTru (eCallF 2 sp_are_pieces (cCons (eSlV 0 (pSome (eC (.int 1))) (pSome (eC (.int 3)))) (cCons (eVar 1) cNil))))) (tNt (tTru (eCallF 1 sp_is_maker (cCons (eIxV 0 (eC (.int 3))) cNil)))))) (sRet (eC (.bool false))) sNext)
  (sRet (eAnd (eCallF 3 sp_is_number_to (cCons (eIxV 0 (eC (.int 4))) (cCons (eC (.int 1)) (cCons (eC c_MOST_KEPT) cNil)))) (eCallF 3 sp_is_number_to (cCons (eIxV 0 (eC (.int 5))) (cCons (eC (.int 0)) (cCons (eIxV 0 (eC (.int 4))) cNil)))))))

/-- is_late(thing, many): slots 0 thing, 1 many, 2 bit; calls are_pieces, is_number_to -/
def b_is_late (sp_are_pieces : DSp) (sp_is_number_to : DSp) : DTS :=
  (sSeq (sIf (tOr' (tBl (eOp2 pNe (eLenV 0) (eC (.int 3)))) (tOr' (tNt (tTru (eCallF 2 sp_are_pieces (cCons (eSlV 0 (pSome (eC (.int 1))) (pSome (eC (.int 2)))) (cCons (eVar 1) cNil))))) (tNt (tTru (eIsi .tuple (eIxV 0 (eC (.int 2)))))))) (sRet (eC (.bool false))) sNext)
  (sRet (eAnd (eChain pLe pLe (eC (.int 1)) (eCall pLen (aCons (eIxV 0 (eC (.int 2))) aNil)) (eC c_MOST_LATE)) (eCall pAll (aCons (eFrz (oComp true [2] (iAny (eIxV 0 (eC (.int 2)))) tYesD (eCallF 3 sp_is_number_to (cCons (eVar 2) (cCons (eC (.int 0)) (cCons (eC (.int 1)) cNil)))))) aNil)))))

/-- is_piece(thing, ahead, many): slots 0 thing, 1 ahead, 2 many; calls are_pieces, is_keeper, is_late, is_maker, is_number_to -/
def b_is_piece (sp_are_pieces : DSp) (sp_is_keeper : DSp) (sp_is_late : DSp) (sp_is_maker : DSp) (sp_is_number_to : DSp) : DTS :=
  (sSeq (sIf (tOr' (tNt (tTru (eIsi .tuple (eVar 0)))) (tOr' (tBl (eOp2 pEq (eLenV 0) (eC (.int 0)))) (tNt (tTru (eIsi .str (eIxV 0 (eC (.int 0)))))))) (sRet (eC (.bool false))) sNext)
  (sSeq (sIf (tBl (eInK false dd_PARTS (eIxV 0 (eC (.int 0))))) (sRet (eAnd (eOp2 pEq (eLenV 0) (eOp2 pAdd (eIxKD dd_PARTS (eIxV 0 (eC (.int 0)))) (eC (.int 1)))) (eCallF 2 sp_are_pieces (cCons (eSlV 0 (pSome (eC (.int 1))) pNo) (cCons (eVar 1) cNil))))) sNext)
  (sSeq (sIf (tBl (eOp2 pEq (eIxV 0 (eC (.int 0))) (eC (.str "make")))) (sRet (eAnd (eOp2 pEq (eLenV 0) (eC (.int 3))) (eAnd (eCallF 1 sp_is_maker (cCons (eIxV 0 (eC (.int 1))) cNil)) (eCallF 3 sp_is_number_to (cCons (eIxV 0 (eC (.int 2))) (cCons (eC (.int 0)) (cCons (eC c_MOST_BELOW) cNil))))))) sNext)
  (sSeq (sIf (tBl (eOp2 pEq (eIxV 0 (eC (.int 0))) (eC (.str "keep")))) (sRet (eAnd (eOp2 pEq (eLenV 0) (eC (.int 4))) (eAnd (eCallF 2 sp_are_pieces (cCons (eSlV 0 (pSome (eC (.int 1))) (pSome (eC (.int 3)))) (cCons (eVar 1) cNil))) (eCallF 3 sp_is_number_to (cCons (eIxV 0 (eC (.int 3))) (cCons (eC (.int 0)) (cCons (eC (.int 1)) cNil))))))) sNext)
  (sSeq (sIf (tBl (eOp2 pEq (eIxV 0 (eC (.int 0))) (eC (.str "late")))) (sRet (eCallF 2 sp_is_late (cCons (eVar 0) (cCons (eVar 2) cNil)))) sNext)
  (sRet (eAnd (eOp2 pEq (eIxV 0 (eC (.int 0))) (eC (.str "keeper"))) (eCallF 2 sp_is_keeper (cCons (eVar 0) (cCons (eVar 2) cNil))))))))))

/-- is_machine(thing): slots 0 thing, 1 ahead, 2 piece; calls is_piece -/
def b_is_machine (sp_is_piece : DSp) : DTS :=
  (sSeq (sIf (tOr' (tNt (tTru (eIsi .tuple (eVar 0)))) (tNt (tBl (eChain pLe pLe (eC (.int 1)) (eLenV 0) (eC c_MOST_PIECES))))) (sRet (eC (.bool false))) sNext)
  (sRet (eCall pAll (aCons (eFrz (oComp false [1, 2] (iEnm' (aCons (eVar 0) aNil)) tYesD (eCallF 3 sp_is_piece (cCons (eVar 2) (cCons (eVar 1) (cCons (eLenV 0) cNil)))))) aNil))))

/-- law_box(_law_script, _law_k): slots 0 law_script, 1 law_k, 2 law_cell; calls  -/
def b_law_box : DTS :=
  (sSeq (sSet 2 (eC (.int 0)))
  (sSeq (sIf (tBl (eOp2 pLt (eVar 1) (eLenV 0))) (sSet 2 (eIxV 0 (eVar 1))) sNext)
  (sRetO (oLst (aCons (eOp2 pMul (eCall pAbs (aCons (eVar 2) aNil)) (eCall pInt (aCons (eOp2 pGe (eCall pAbs (aCons (eVar 2) aNil)) (eOp2 pPow (eC (.int 10)) (eC (.int 18)))) aNil))) (aCons (eOp2 pMod (eOp2 pAdd (eVar 2) (eOp2 pMul (eOp2 pMul (eC (.int 7919)) (eVar 1)) (eVar 1))) (eC (.int 2147483647))) (aCons (eC (.int 0)) aNil)))))))

/-- law_take(_law_box_here, _law_many): slots 0 law_box_here, 1 law_many, 2 law_once, 3 law_found; calls  -/
def b_law_take : DTS :=
  (sSeq (sIf (tBl (eOp2 pGt (eIxV 0 (eC (.int 0))) (eC (.int 0)))) (sSeq (sAsg (eCall pDvm (aCons (eIxV 0 (eC (.int 0))) (aCons (eVar 1) aNil))) (gTp' 2 (gsCons (gSb 0 (eC (.int 0))) (gsCons (gNm 3) gsNil))))
  (sRet (eVar 3))) sNext)
  (sSeq (sAsg (eOp2 pAdd (eIxV 0 (eC (.int 2))) (eC (.int 1))) (gSb 0 (eC (.int 2))))
  (sSeq (sSet 2 (eOp2 pMod (eOp2 pPow (eOp2 pAdd (eIxV 0 (eC (.int 1))) (eOp2 pMul (eC (.int 39373)) (eIxV 0 (eC (.int 2))))) (eC (.int 5))) (eC (.int 2147483647))))
  (sRet (eOp2 pMod (eOp2 pDiv (eOp2 pMod (eOp2 pAdd (eOp2 pMul (eVar 2) (eC (.int 48271))) (eOp2 pMul (eOp2 pMul (eIxV 0 (eC (.int 2))) (eIxV 0 (eC (.int 2)))) (eC (.int 7919)))) (eC (.int 2147483629))) (eC (.int 64))) (eVar 1))))))

/-- law_folded(_law_script, _law_many): slots 0 law_script, 1 law_many, 2 law_cells, 3 law_k, 4 law_cell; calls  -/
def b_law_folded : DTS :=
  (sSeq (sSetO 2 (oList (eSlV 0 pNo (pSome (eVar 1)))))
  (sSeq (sFor (iEnm' (aCons (eSlV 0 (pSome (eVar 1)) (pSome (eC (.int 63)))) aNil)) (gTp' 2 (gsCons (gNm 3) (gsCons (gNm 4) gsNil))) (sAsg (eOp2 pAdd (eIxV 2 (eOp2 pMod (eVar 3) (eVar 1))) (eOp2 pMul (eVar 4) (eOp2 pAdd (eVar 3) (eC (.int 2))))) (gSb 2 (eOp2 pMod (eVar 3) (eVar 1)))))
  (sRet (eVar 2))))

/-- law_alone(_law_one, _law_other): slots 0 law_one, 1 law_other; calls  -/
def b_law_alone : DTS :=
  (sSeq (sWhile (tBl (eOp2 pGt (eVar 1) (eC (.int 0)))) (sPar 0 1 (aCons (eVar 1) (aCons (eOp2 pMod (eVar 0) (eVar 1)) aNil))))
  (sRet (eOp2 pEq (eVar 0) (eC (.int 1)))))

/-- law_maker(_law_box_here, _law_deep, _law_most): slots 0 law_box_here, 1 law_deep, 2 law_most, 3 law_way, 4 law_many, 5 law_twos, 6 law_wides, 7 law_wide, 8 law_steps, 9 law_word, 10 law_taps, 11 law_step, 12 law_k; calls law_alone, law_maker, law_take -/
def b_law_maker (sp_law_alone : DSp) (sp_law_maker : DSp) (sp_law_take : DSp) : DTS :=
  (sSeq (sAsg (eTup (aCons (eCallF 2 sp_law_take (cIo 0 (cCons (eC (.int 9)) cNil))) (aCons (eOp2 pAdd (eC (.int 1)) (eCallF 2 sp_law_take (cIo 0 (cCons (eVar 2) cNil)))) aNil))) (gTp' 2 (gsCons (gNm 3) (gsCons (gNm 4) gsNil))))
  (sSeq (sIf (tAn (tBl (eOp2 pGt (eVar 3) (eC (.int 5)))) (tBl (eOp2 pGt (eVar 1) (eC (.int 0))))) (sSeq (sSet 9 (eOp2 pIx (eFrz (oLst (aCons (eC (.str "slow")) (aCons (eC (.str "slip")) (aCons (eC (.str "late")) aNil))))) (eOp2 pSub (eVar 3) (eC (.int 6)))))
  (sRet (eTup (aCons (eVar 9) (aCons (eOp2 pIx (eFrz (oLst (aCons (eOp2 pAdd (eC (.int 1)) (eCallF 2 sp_law_take (cIo 0 (cCons (eC (.int 4)) cNil)))) (aCons (eCallF 2 sp_law_take (cIo 0 (cCons (eC (.int 65)) cNil))) aNil)))) (eCall pInt (aCons (eOp2 pEq (eVar 9) (eC (.str "late"))) aNil))) (aCons (eCallF 3 sp_law_maker (cIo 0 (cCons (eOp2 pSub (eVar 1) (eC (.int 1))) (cCons (eVar 2) cNil)))) aNil)))))) sNext)
  (sSeq (sSet 5 (eFrz (oLst (aCons (eC (.int 1)) (aCons (eC (.int 2)) (aCons (eC (.int 4)) (aCons (eC (.int 8)) (aCons (eC (.int 16)) (aCons (eC (.int 32)) (aCons (eC (.int 64)) aNil))))))))))
  (sSeq (sSetO 6 (oComp true [7] (iR2 (aCons (eC (.int 1)) (aCons (eC (.int 7)) aNil))) (tBl (eOp2 pLe (eIxV 5 (eVar 7)) (eCall pMax2 (aCons (eVar 2) (aCons (eC (.int 4)) aNil))))) (eVar 7)))
  (sSeq (sSet 7 (eIxV 6 (eCallF 2 sp_law_take (cIo 0 (cCons (eLenV 6) cNil)))))
  (sSeq (sIf (tBl (eOp2 pEq (eVar 3) (eC (.int 3)))) (sRet (eTup (aCons (eC (.str "turned")) (aCons (eVar 7) (aCons (eCallF 2 sp_law_take (cIo 0 (cCons (eIxV 5 (eVar 7)) cNil))) aNil))))) sNext)
  (sSeq (sIf (tAn (tBl (eOp2 pEq (eVar 3) (eC (.int 4)))) (tBl (eOp2 pGt (eVar 7) (eC (.int 1))))) (sSeq (sSet 10 (eOp2 pAdd (eIxV 5 (eOp2 pSub (eVar 7) (eC (.int 1)))) (eCallF 2 sp_law_take (cIo 0 (cCons (eIxV 5 (eOp2 pSub (eVar 7) (eC (.int 1)))) cNil)))))
  (sRet (eTup (aCons (eC (.str "register")) (aCons (eVar 7) (aCons (eVar 10) (aCons (eOp2 pAdd (eC (.int 1)) (eCallF 2 sp_law_take (cIo 0 (cCons (eOp2 pSub (eIxV 5 (eVar 7)) (eC (.int 1))) cNil)))) aNil))))))) sNext)
  (sSeq (sIf (tBl (eOp2 pEq (eVar 3) (eC (.int 5)))) (sRet (eTup (aCons (eC (.str "table")) (aCons (eCall pTup (aCons (eFrz (oComp true [12] (iR1 (aCons (eVar 4) aNil)) tYesD (eCallF 2 sp_law_take (cIo 0 (cCons (eOp2 pIx (eFrz (oLst (aCons (eC (.int 4)) (aCons (eC (.int 64)) aNil)))) (eCallF 2 sp_law_take (cIo 0 (cCons (eC (.int 2)) cNil)))) cNil))))) aNil)) aNil)))) sNext)
  (sSeq (sSetO 8 (oComp true [11] (iR2 (aCons (eC (.int 1)) (aCons (eOp2 pAdd (eVar 4) (eC (.int 1))) aNil))) (tTru (eCallF 2 sp_law_alone (cCons (eVar 11) (cCons (eVar 4) cNil)))) (eVar 11)))
  (sRet (eTup (aCons (eC (.str "counter")) (aCons (eVar 4) (aCons (eIxV 8 (eCallF 2 sp_law_take (cIo 0 (cCons (eLenV 8) cNil)))) (aCons (eCallF 2 sp_law_take (cIo 0 (cCons (eVar 4) cNil))) aNil)))))))))))))))

/-- law_machine(_law_box_here, _law_many, _law_most, _law_loops): slots 0 law_box_here, 1 law_many, 2 law_most, 3 law_loops, 4 law_pieces, 5 law_bare, 6 law_number_here, 7 law_way, 8 law_a, 9 law_b, 10 law_c, 11 law_top, 12 law_some, 13 law_size, 14 law_high, 15 law_maker_here, 16 law_turn; calls law_maker, law_take -/
def b_law_machine (sp_law_maker : DSp) (sp_law_take : DSp) : DTS :=
  (sSeq (sPutX [4, 5] (xOwn (oLst aNil) (xCons (eOp2 pMul (eOp2 pIx (eFrz (oLst (aCons (eC (.int 0)) (aCons (eC (.int 0)) (aCons (eC (.int 0)) (aCons (eC (.int 0)) (aCons (eC (.int 0)) (aCons (eC (.int 0)) (aCons (eC (.int 1)) (aCons (eC (.int 2)) aNil)))))))))) (eCallF 2 sp_law_take (cIo 0 (cCons (eC (.int 8)) cNil)))) (eCall pInt (aCons (eVar 3) aNil))) xNil)))
  (sSeq (sFor (iR1 (aCons (eVar 1) aNil)) (gNm 6) (sSeq (sSet 7 (eCallF 2 sp_law_take (cIo 0 (cCons (eC (.int 12)) cNil))))
  (sSeq (sIf (tOr' (tAn (tBl (eOp2 pEq (eVar 5) (eC (.int 2)))) (tNt (tBl (eChain pLe pLt (eC (.int 2)) (eVar 7) (eC (.int 10)))))) (tAn (tBl (eOp2 pGt (eVar 5) (eC (.int 0)))) (tBl (eOp2 pEq (eVar 6) (eC (.int 0)))))) (sSet 7 (eOp2 pAdd (eC (.int 8)) (eOp2 pMod (eVar 7) (eOp2 pIx (eFrz (oLst (aCons (eC (.int 2)) (aCons (eC (.int 4)) (aCons (eC (.int 2)) aNil))))) (eVar 5))))) sNext)
  (sSeq (sIf (tOr' (tAn (tBl (eOp2 pEq (eVar 6) (eC (.int 0)))) (tBl (eOp2 pEq (eVar 5) (eC (.int 0))))) (tBl (eOp2 pLt (eVar 7) (eC (.int 2))))) (sSeq (sSet 11 (eOp2 pIx (eFrz (oLst (aCons (eOp2 pAdd (eVar 2) (eC (.int 2))) (aCons (eC (.int 65)) aNil)))) (eCall pInt (aCons (eOp2 pEq (eCallF 2 sp_law_take (cIo 0 (cCons (eC (.int 8)) cNil))) (eC (.int 0))) aNil))))
  (sSeq (sDrop (eMutL 4 pApp (aCons (eTup (aCons (eC (.str "make")) (aCons (eCallF 3 sp_law_maker (cIo 0 (cCons (eCallF 2 sp_law_take (cIo 0 (cCons (eC (.int 2)) cNil))) (cCons (eVar 2) cNil)))) (aCons (eCallF 2 sp_law_take (cIo 0 (cCons (eCall pMin2 (aCons (eC (.int 65)) (aCons (eVar 11) aNil))) cNil))) aNil)))) aNil)))
  sCont)) sNext)
  (sSeq (sAsg (eFrz (oComp true [16] (iR1 (aCons (eC (.int 3)) aNil)) tYesD (eCallF 2 sp_law_take (cIo 0 (cCons (eCall pMax2 (aCons (eC (.int 1)) (aCons (eVar 6) aNil))) cNil))))) (gTp' 3 (gsCons (gNm 8) (gsCons (gNm 9) (gsCons (gNm 10) gsNil)))))
  (sSeq (sIf (tBl (eOp2 pLt (eVar 7) (eC (.int 8)))) (sSeq (sSet 12 (eFrz (oLst (aCons (eTup (aCons (eC (.str "less")) (aCons (eVar 8) aNil))) (aCons (eTup (aCons (eC (.str "both")) (aCons (eVar 8) (aCons (eVar 9) aNil)))) (aCons (eTup (aCons (eC (.str "either")) (aCons (eVar 8) (aCons (eVar 9) aNil)))) (aCons (eTup (aCons (eC (.str "oneof")) (aCons (eVar 8) (aCons (eVar 9) aNil)))) (aCons (eTup (aCons (eC (.str "pick")) (aCons (eVar 8) (aCons (eVar 9) (aCons (eVar 10) aNil))))) aNil))))))))
  (sSeq (sDrop (eMutL 4 pApp (aCons (eOp2 pIx (eOp2 pAdd (eVar 12) (eFrz (oLst (aCons (eTup (aCons (eC (.str "keep")) (aCons (eVar 8) (aCons (eVar 9) (aCons (eOp2 pMod (eVar 10) (eC (.int 2))) aNil))))) aNil)))) (eOp2 pSub (eVar 7) (eC (.int 2)))) aNil)))
  sCont)) sNext)
  (sSeq (sAsg (eFrz (oComp true [16] (iR1 (aCons (eC (.int 2)) aNil)) tYesD (eCallF 2 sp_law_take (cIo 0 (cCons (eIf (tTru (eVar 3)) (eVar 1) (eVar 6)) cNil))))) (gTp' 2 (gsCons (gNm 8) (gsCons (gNm 9) gsNil))))
  (sIf (tBl (eOp2 pLt (eVar 7) (eC (.int 10)))) (sSeq (sSet 13 (eOp2 pAdd (eC (.int 1)) (eCallF 2 sp_law_take (cIo 0 (cCons (eOp2 pIx (eFrz (oLst (aCons (eC (.int 3)) (aCons (eC (.int 16)) aNil)))) (eOp2 pSub (eVar 7) (eC (.int 8)))) cNil)))))
  (sDrop (eMutL 4 pApp (aCons (eTup (aCons (eC (.str "late")) (aCons (eVar 8) (aCons (eCall pTup (aCons (eFrz (oComp true [16] (iR1 (aCons (eVar 13) aNil)) tYesD (eCallF 2 sp_law_take (cIo 0 (cCons (eC (.int 2)) cNil))))) aNil)) aNil)))) aNil)))) (sSeq (sSet 14 (eOp2 pIx (eFrz (oLst (aCons (eC (.int 1)) (aCons (eC (.int 2)) (aCons (eOp2 pAdd (eC (.int 1)) (eCallF 2 sp_law_take (cIo 0 (cCons (eC (.int 9)) cNil)))) (aCons (eOp2 pAdd (eC (.int 1)) (eCallF 2 sp_law_take (cIo 0 (cCons (eC (.int 64)) cNil)))) aNil)))))) (eCallF 2 sp_law_take (cIo 0 (cCons (eC (.int 4)) cNil)))))
  (sSeq (sSet 15 (eCallF 3 sp_law_maker (cIo 0 (cCons (eCallF 2 sp_law_take (cIo 0 (cCons (eC (.int 2)) cNil))) (cCons (eVar 2) cNil)))))
  (sDrop (eMutL 4 pApp (aCons (eTup (aCons (eC (.str "keeper")) (aCons (eVar 8) (aCons (eVar 9) (aCons (eVar 15) (aCons (eVar 14) (aCons (eCallF 2 sp_law_take (cIo 0 (cCons (eOp2 pAdd (eVar 14) (eC (.int 1))) cNil))) aNil))))))) aNil)))))))))))))
  (sRet (eCall pTup (aCons (eVar 4) aNil)))))

/-- law_number(_law_thing_here, _law_least, _law_most): slots 0 law_thing_here, 1 law_least, 2 law_most; calls  -/
def b_law_number : DTS :=
  (sRet (eAnd (eIsi .int (eVar 0)) (eAnd (eNot (eIsi .bool (eVar 0))) (eChain pLe pLe (eVar 1) (eVar 0) (eVar 2)))))

/-- law_all(_law_things, _law_least, _law_most): slots 0 law_things, 1 law_least, 2 law_most, 3 law_thing_here; calls law_number -/
def b_law_all (sp_law_number : DSp) : DTS :=
  (sRet (eCall pAll (aCons (eFrz (oComp true [3] (iAny (eVar 0)) tYesD (eCallF 3 sp_law_number (cCons (eVar 3) (cCons (eVar 1) (cCons (eVar 2) cNil)))))) aNil)))

/-- law_is_piece(_law_thing_here, _law_ahead, _law_many): slots 0 law_thing_here, 1 law_ahead, 2 law_many, 3 law_sizes; calls is_maker, law_all, law_number -/
def b_law_is_piece (sp_law_all : DSp) (sp_law_number : DSp) (sp_is_maker : DSp) : DTS :=
  (sSeq (sIf (tOr' (tNt (tTru (eIsi .tuple (eVar 0)))) (tOr' (tBl (eOp2 pEq (eLenV 0) (eC (.int 0)))) (tNt (tTru (eIsi .str (eIxV 0 (eC (.int 0)))))))) (sRet (eC (.bool false))) sNext)
  (sSeq (sSet 3 (eDict [((eC (.str "make")), (eC (.int 3))), ((eC (.str "less")), (eC (.int 2))), ((eC (.str "both")), (eC (.int 3))), ((eC (.str "either")), (eC (.int 3))), ((eC (.str "oneof")), (eC (.int 3))), ((eC (.str "pick")), (eC (.int 4))), ((eC (.str "keep")), (eC (.int 4))), ((eC (.str "late")), (eC (.int 3))), ((eC (.str "keeper")), (eC (.int 6)))]))
  (sSeq (sIf (tBl (eOp2 pNe (eLenV 0) (eGetK (eVar 3) (eIxV 0 (eC (.int 0))) (eC (.int 0))))) (sRet (eC (.bool false))) sNext)
  (sSeq (sIf (tBl (eOp2 pEq (eIxV 0 (eC (.int 0))) (eC (.str "make")))) (sRet (eAnd (eOp2 pIs (eCallF 1 sp_is_maker (cCons (eIxV 0 (eC (.int 1))) cNil)) (eC (.bool true))) (eCallF 3 sp_law_number (cCons (eIxV 0 (eC (.int 2))) (cCons (eC (.int 0)) (cCons (eC (.int 64)) cNil)))))) sNext)
  (sSeq (sIf (tBl (eOp2 pEq (eIxV 0 (eC (.int 0))) (eC (.str "keep")))) (sRet (eAnd (eCallF 3 sp_law_all (cCons (eSlV 0 (pSome (eC (.int 1))) (pSome (eC (.int 3)))) (cCons (eC (.int 0)) (cCons (eOp2 pSub (eVar 1) (eC (.int 1))) cNil)))) (eCallF 3 sp_law_number (cCons (eIxV 0 (eC (.int 3))) (cCons (eC (.int 0)) (cCons (eC (.int 1)) cNil)))))) sNext)
  (sSeq (sIf (tBl (eOp2 pEq (eIxV 0 (eC (.int 0))) (eC (.str "late")))) (sSeq (sIf (tOr' (tNt (tTru (eIsi .tuple (eIxV 0 (eC (.int 2)))))) (tNt (tBl (eChain pLe pLe (eC (.int 1)) (eCall pLen (aCons (eIxV 0 (eC (.int 2))) aNil)) (eC (.int 16)))))) (sRet (eC (.bool false))) sNext)
  (sRet (eAnd (eCallF 3 sp_law_number (cCons (eIxV 0 (eC (.int 1))) (cCons (eC (.int 0)) (cCons (eOp2 pSub (eVar 2) (eC (.int 1))) cNil)))) (eCallF 3 sp_law_all (cCons (eIxV 0 (eC (.int 2))) (cCons (eC (.int 0)) (cCons (eC (.int 1)) cNil))))))) sNext)
  (sSeq (sIf (tBl (eOp2 pEq (eIxV 0 (eC (.int 0))) (eC (.str "keeper")))) (sSeq (sIf (tOr' (tNt (tTru (eCallF 3 sp_law_all (cCons (eSlV 0 (pSome (eC (.int 1))) (pSome (eC (.int 3)))) (cCons (eC (.int 0)) (cCons (eOp2 pSub (eVar 2) (eC (.int 1))) cNil)))))) (tBl (eOp2 pIsN (eCallF 1 sp_is_maker (cCons (eIxV 0 (eC (.int 3))) cNil)) (eC (.bool true))))) (sRet (eC (.bool false))) sNext)
  (sRet (eAnd (eCallF 3 sp_law_number (cCons (eIxV 0 (eC (.int 4))) (cCons (eC (.int 1)) (cCons (eC (.int 64)) cNil)))) (eCallF 3 sp_law_number (cCons (eIxV 0 (eC (.int 5))) (cCons (eC (.int 0)) (cCons (eIxV 0 (eC (.int 4))) cNil))))))) sNext)
  (sRet (eCallF 3 sp_law_all (cCons (eSlV 0 (pSome (eC (.int 1))) pNo) (cCons (eC (.int 0)) (cCons (eOp2 pSub (eVar 1) (eC (.int 1))) cNil))))))))))))

/-- law_due(_law_thing_here): slots 0 law_thing_here, 1 law_ahead, 2 law_piece; calls law_is_piece -/
def b_law_due (sp_law_is_piece : DSp) : DTS :=
  (sSeq (sIf (tOr' (tNt (tTru (eIsi .tuple (eVar 0)))) (tNt (tBl (eChain pLe pLe (eC (.int 1)) (eLenV 0) (eC (.int 24)))))) (sRet (eC (.bool false))) sNext)
  (sRet (eCall pAll (aCons (eFrz (oComp false [1, 2] (iEnm' (aCons (eVar 0) aNil)) tYesD (eCallF 3 sp_law_is_piece (cCons (eVar 2) (cCons (eVar 1) (cCons (eLenV 0) cNil)))))) aNil))))

/-- law_thing(_law_box_here, _law_part): slots 0 law_box_here, 1 law_part, 2 law_way, 3 law_few, 4 law_bounds, 5 law_words; calls law_take -/
def b_law_thing (sp_law_take : DSp) : DTS :=
  (sSeq (sPar 2 3 (aCons (eCallF 2 sp_law_take (cIo 0 (cCons (eC (.int 8)) cNil))) (aCons (eCallF 2 sp_law_take (cIo 0 (cCons (eC (.int 18)) cNil))) aNil)))
  (sSeq (sIf (tAn (tTru (eIsi .int (eVar 1))) (tAn (tNt (tTru (eIsi .bool (eVar 1)))) (tBl (eOp2 pLt (eVar 2) (eC (.int 5)))))) (sSeq (sSet 4 (eFrz (oLst (aCons (eC (.int 0)) (aCons (eC (.int 1)) (aCons (eC (.int 2)) (aCons (eC (.int 5)) (aCons (eC (.int 6)) (aCons (eC (.int 7)) (aCons (eC (.int 15)) (aCons (eC (.int 16)) (aCons (eC (.int 17)) (aCons (eC (.int 23)) (aCons (eC (.int 24)) (aCons (eC (.int 25)) (aCons (eC (.int 31)) (aCons (eC (.int 63)) (aCons (eC (.int 64)) (aCons (eC (.int 65)) (aCons (eC (.int 4096)) (aCons (eC (.int 4097)) aNil)))))))))))))))))))))
  (sRet (eOp2 pIx (eFrz (oLst (aCons (eOp2 pSub (eVar 1) (eC (.int 1))) (aCons (eOp2 pAdd (eVar 1) (eC (.int 1))) (aCons (eOp2 pSub (eC (.int 0)) (eVar 1)) (aCons (eOp2 pAdd (eOp2 pMul (eVar 1) (eC (.int 1000))) (eC (.int 7))) (aCons (eIxV 4 (eVar 3)) aNil))))))) (eVar 2)))) sNext)
  (sSeq (sIf (tAn (tTru (eIsi .str (eVar 1))) (tBl (eOp2 pLt (eVar 2) (eC (.int 5))))) (sSeq (sSet 5 (eFrz (oLst (aCons (eC (.str "make")) (aCons (eC (.str "less")) (aCons (eC (.str "both")) (aCons (eC (.str "either")) (aCons (eC (.str "oneof")) (aCons (eC (.str "pick")) (aCons (eC (.str "keep")) (aCons (eC (.str "late")) (aCons (eC (.str "keeper")) (aCons (eC (.str "counter")) (aCons (eC (.str "turned")) aNil))))))))))))))
  (sRet (eOp2 pIx (eOp2 pAdd (eVar 5) (eFrz (oLst (aCons (eC (.str "register")) (aCons (eC (.str "table")) (aCons (eC (.str "slow")) (aCons (eC (.str "slip")) (aCons (eC (.str "")) (aCons (eOp2 pAdd (eVar 1) (eC (.str "s"))) (aCons (eSlV 1 pNo (pSome (eOp1 pNeg (eC (.int 1))))) aNil)))))))))) (eVar 3)))) sNext)
  (sSeq (sIf (tAn (tTru (eIsi .tuple (eVar 1))) (tBl (eOp2 pLt (eVar 2) (eC (.int 3))))) (sRet (eOp2 pIx (eFrz (oLst (aCons (eFrz (oList (eVar 1))) (aCons (eSlV 1 (pSome (eC (.int 1))) pNo) (aCons (eOp2 pAdd (eVar 1) (eSlV 1 pNo (pSome (eC (.int 1))))) aNil))))) (eVar 2))) sNext)
  (sRet (eOp2 pIx (eFrz (oLst (aCons (eC .none) (aCons (eC (.bool true)) (aCons (eC (.bool false)) (aCons (eC (.str "1")) (aCons (eTup aNil) (aCons (eFrz (oLst aNil)) (aCons (eTup (aCons (eC (.int 1)) aNil)) (aCons (eTup (aCons (eC (.str "less")) (aCons (eC (.int 0)) aNil))) (aCons (eOp1 pNeg (eC (.int 1))) (aCons (eTup (aCons (eC (.str "counter")) (aCons (eC (.int 3)) (aCons (eC (.int 1)) (aCons (eC (.int 0)) aNil))))) (aCons (eC (.int 0)) aNil))))))))))))) (eOp2 pMod (eOp2 pAdd (eVar 2) (eOp2 pMul (eC (.int 3)) (eVar 3))) (eC (.int 11)))))))))

/-- law_spoilt(_law_box_here, _law_thing_here): slots 0 law_box_here, 1 law_thing_here, 2 law_way, 3 law_at, 4 law_deep, 5 law_other, 6 law_low, 7 law_high; calls law_spoilt, law_take, law_thing -/
def b_law_spoilt (sp_law_spoilt : DSp) (sp_law_take : DSp) (sp_law_thing : DSp) : DTS :=
  (sSeq (sPar3 2 3 4 (aCons (eCallF 2 sp_law_take (cIo 0 (cCons (eC (.int 6)) cNil))) (aCons (eCallF 2 sp_law_take (cIo 0 (cCons (eLenV 1) cNil))) (aCons (eCallF 2 sp_law_take (cIo 0 (cCons (eC (.int 4)) cNil))) aNil))))
  (sSeq (sIf (tAn (tTru (eIsi .tuple (eIxV 1 (eVar 3)))) (tAn (tBl (eOp2 pGt (eCall pLen (aCons (eIxV 1 (eVar 3)) aNil)) (eC (.int 0)))) (tBl (eOp2 pGt (eVar 4) (eC (.int 0)))))) (sRet (eOp2 pAdd (eOp2 pAdd (eSlV 1 pNo (pSome (eVar 3))) (eTup (aCons (eCallF 2 sp_law_spoilt (cIo 0 (cCons (eIxV 1 (eVar 3)) cNil))) aNil))) (eSlV 1 (pSome (eOp2 pAdd (eVar 3) (eC (.int 1)))) pNo))) sNext)
  (sSeq (sIf (tBl (eOp2 pEq (eVar 2) (eC (.int 0)))) (sRet (eOp2 pAdd (eSlV 1 pNo (pSome (eVar 3))) (eSlV 1 (pSome (eOp2 pAdd (eVar 3) (eC (.int 1)))) pNo))) sNext)
  (sSeq (sIf (tBl (eOp2 pEq (eVar 2) (eC (.int 1)))) (sRet (eOp2 pAdd (eOp2 pAdd (eSlV 1 pNo (pSome (eVar 3))) (eTup (aCons (eIxV 1 (eVar 3)) aNil))) (eSlV 1 (pSome (eVar 3)) pNo))) sNext)
  (sSeq (sIf (tBl (eOp2 pEq (eVar 2) (eC (.int 2)))) (sSeq (sSet 5 (eCallF 2 sp_law_take (cIo 0 (cCons (eLenV 1) cNil))))
  (sSeq (sPar 6 7 (aCons (eCall pMin2 (aCons (eVar 3) (aCons (eVar 5) aNil))) (aCons (eCall pMax2 (aCons (eVar 3) (aCons (eVar 5) aNil))) aNil)))
  (sIf (tBl (eOp2 pLt (eVar 6) (eVar 7))) (sRet (eOp2 pAdd (eOp2 pAdd (eOp2 pAdd (eOp2 pAdd (eSlV 1 pNo (pSome (eVar 6))) (eTup (aCons (eIxV 1 (eVar 7)) aNil))) (eSlV 1 (pSome (eOp2 pAdd (eVar 6) (eC (.int 1)))) (pSome (eVar 7)))) (eTup (aCons (eIxV 1 (eVar 6)) aNil))) (eSlV 1 (pSome (eOp2 pAdd (eVar 7) (eC (.int 1)))) pNo))) sNext))) sNext)
  (sRet (eOp2 pAdd (eOp2 pAdd (eSlV 1 pNo (pSome (eVar 3))) (eTup (aCons (eCallF 2 sp_law_thing (cIo 0 (cCons (eIxV 1 (eVar 3)) cNil))) aNil))) (eSlV 1 (pSome (eOp2 pAdd (eVar 3) (eC (.int 1)))) pNo))))))))

/-- law_right(_law_thing_here): slots 0 law_thing_here, 1 law_turn, 2 law_found; calls is_machine, law_due -/
def b_law_right (sp_law_due : DSp) (sp_is_machine : DSp) : DTS :=
  (sSeq (sFor (iR1 (aCons (eC (.int 2)) aNil)) (gNm 1) (sSeq (sSet 2 (eCallF 1 sp_is_machine (cCons (eVar 0) cNil)))
  (sIf (tOr' (tNt (tTru (eIsi .bool (eVar 2)))) (tBl (eOp2 pNe (eVar 2) (eCallF 1 sp_law_due (cCons (eVar 0) cNil))))) (sRet (eC (.bool false))) sNext)))
  (sRet (eC (.bool true))))

/-- law(_law_script): slots 0 law_script, 1 law_cells, 2 law_k, 3 law_box_here, 4 law_pieces, 5 law_turn, 6 law_thing_here; calls is_machine, law_box, law_folded, law_machine, law_right, law_spoilt, law_take -/
def b_law (sp_law_box : DSp) (sp_law_folded : DSp) (sp_law_machine : DSp) (sp_law_right : DSp) (sp_law_spoilt : DSp) (sp_law_take : DSp) (sp_is_machine : DSp) : DTS :=
  (sSeq (sSet 1 (eCallF 2 sp_law_folded (cCons (eVar 0) (cCons (eC (.int 5)) cNil))))
  (sSeq (sFor (iR1 (aCons (eCall pMax2 (aCons (eC (.int 2)) (aCons (eLenV 1) aNil))) aNil)) (gNm 2) (sSeq (sSetO 3 (oCallF 2 sp_law_box (cCons (eVar 1) (cCons (eVar 2) cNil))))
  (sSeq (sSet 4 (eCallF 4 sp_law_machine (cIo 3 (cCons (eOp2 pAdd (eC (.int 1)) (eCallF 2 sp_law_take (cIo 3 (cCons (eIf (tBl (eOp2 pEq (eCallF 2 sp_law_take (cIo 3 (cCons (eC (.int 8)) cNil))) (eC (.int 0)))) (eC (.int 24)) (eC (.int 9))) cNil)))) (cCons (eC (.int 8)) (cCons (eC (.bool true)) cNil))))))
  (sSeq (sIf (tOr' (tNt (tTru (eCallF 1 sp_law_right (cCons (eVar 4) cNil)))) (tBl (eOp2 pIsN (eCallF 1 sp_is_machine (cCons (eVar 4) cNil)) (eC (.bool true))))) (sRet (eC (.bool false))) sNext)
  (sSeq (sFor (iR1 (aCons (eC (.int 12)) aNil)) (gNm 5) (sSeq (sSet 6 (eCallF 2 sp_law_spoilt (cIo 3 (cCons (eVar 4) cNil))))
  (sSeq (sIf (tAn (tBl (eOp2 pEq (eCallF 2 sp_law_take (cIo 3 (cCons (eC (.int 3)) cNil))) (eC (.int 0)))) (tBl (eOp2 pNe (eVar 6) (eTup aNil)))) (sSet 6 (eCallF 2 sp_law_spoilt (cIo 3 (cCons (eVar 6) cNil)))) sNext)
  (sIf (tNt (tTru (eCallF 1 sp_law_right (cCons (eVar 6) cNil)))) (sRet (eC (.bool false))) sNext))))
  (sFor (iAny (eTup (aCons (eC .none) (aCons (eC (.bool true)) (aCons (eC (.int 7)) (aCons (eC (.str "make")) (aCons (eTup aNil) (aCons (eFrz (oLst aNil)) (aCons (eFrz (oList (eVar 4))) (aCons (eTup (aCons (eVar 4) aNil)) (aCons (eIxV 4 (eC (.int 0))) (aCons (eOp2 pMul (eVar 4) (eC (.int 25))) (aCons (eTup (aCons (eTup aNil) aNil)) aNil))))))))))))) (gNm 6) (sIf (tNt (tTru (eCallF 1 sp_law_right (cCons (eVar 6) cNil)))) (sRet (eC (.bool false))) sNext)))))))
  (sRet (eC (.bool true)))))

end K47
end

section
set_option Elab.async false
set_option linter.all false
set_option maxRecDepth 100000
set_option maxHeartbeats 4000000
namespace K47
open PySem PySem.Spec PyProof.Rows L2 DL

def topS (i : Nat) : Stmt := PySem.Challenge.pw_shareones_k47_what_is_a_machine.main.body.getD i (.Pass ⟨0, 0, 0, 0⟩)
abbrev s_common_divisor : Stmt := topS 1
abbrev s_is_number : Stmt := topS 2
abbrev s_is_between : Stmt := topS 9
abbrev s_power_of_two : Stmt := topS 10
abbrev s_is_counter : Stmt := topS 11
abbrev s_is_turned : Stmt := topS 12
abbrev s_is_register : Stmt := topS 13
abbrev s_is_table : Stmt := topS 14
abbrev s_is_wrapped : Stmt := topS 15
abbrev s_is_maker : Stmt := topS 16
abbrev s_is_odd_together : Stmt := topS 17
abbrev s_held_next : Stmt := topS 18
abbrev s_held_round : Stmt := topS 19
abbrev s_round_of : Stmt := topS 20
abbrev s_is_number_to : Stmt := topS 27
abbrev s_are_pieces : Stmt := topS 28
abbrev s_is_keeper : Stmt := topS 29
abbrev s_is_late : Stmt := topS 30
abbrev s_is_piece : Stmt := topS 31
abbrev s_is_machine : Stmt := topS 32
abbrev s_law_box : Stmt := topS 34
abbrev s_law_take : Stmt := topS 35
abbrev s_law_folded : Stmt := topS 36
abbrev s_law_alone : Stmt := topS 37
abbrev s_law_maker : Stmt := topS 38
abbrev s_law_machine : Stmt := topS 39
abbrev s_law_number : Stmt := topS 40
abbrev s_law_all : Stmt := topS 41
abbrev s_law_is_piece : Stmt := topS 42
abbrev s_law_due : Stmt := topS 43
abbrev s_law_thing : Stmt := topS 44
abbrev s_law_spoilt : Stmt := topS 45
abbrev s_law_right : Stmt := topS 46
abbrev s_law : Stmt := topS 47
/-- how the text stands behind its top -/
structure Txt (w : World) (K : PySem.W.Frag) (mg : Str → Option Value) : Prop where
  i_common_divisor : Is K mg "common_divisor" s_common_divisor ["one", "other"]
  i_is_number : Is K mg "is_number" s_is_number ["thing"]
  i_is_between : Is K mg "is_between" s_is_between ["thing", "least", "most"]
  i_power_of_two : Is K mg "power_of_two" s_power_of_two ["wide"]
  i_is_counter : Is K mg "is_counter" s_is_counter ["maker"]
  i_is_turned : Is K mg "is_turned" s_is_turned ["maker"]
  i_is_register : Is K mg "is_register" s_is_register ["maker"]
  i_is_table : Is K mg "is_table" s_is_table ["maker"]
  i_is_wrapped : Is K mg "is_wrapped" s_is_wrapped ["maker", "left"]
  i_is_maker : Is K mg "is_maker" s_is_maker ["thing"]
  i_is_odd_together : Is K mg "is_odd_together" s_is_odd_together ["one", "other"]
  i_held_next : Is K mg "held_next" s_held_next ["wide", "taps", "held"]
  i_held_round : Is K mg "held_round" s_held_round ["maker"]
  i_round_of : Is K mg "round_of" s_round_of ["maker"]
  i_is_number_to : Is K mg "is_number_to" s_is_number_to ["thing", "least", "most"]
  i_are_pieces : Is K mg "are_pieces" s_are_pieces ["things", "many"]
  i_is_keeper : Is K mg "is_keeper" s_is_keeper ["thing", "many"]
  i_is_late : Is K mg "is_late" s_is_late ["thing", "many"]
  i_is_piece : Is K mg "is_piece" s_is_piece ["thing", "ahead", "many"]
  i_is_machine : Is K mg "is_machine" s_is_machine ["thing"]
  i_law_box : Is K mg "_law_box" s_law_box ["_law_script", "_law_k"]
  i_law_take : Is K mg "_law_take" s_law_take ["_law_box_here", "_law_many"]
  i_law_folded : Is K mg "_law_folded" s_law_folded ["_law_script", "_law_many"]
  i_law_alone : Is K mg "_law_alone" s_law_alone ["_law_one", "_law_other"]
  i_law_maker : Is K mg "_law_maker" s_law_maker ["_law_box_here", "_law_deep", "_law_most"]
  i_law_machine : Is K mg "_law_machine" s_law_machine ["_law_box_here", "_law_many", "_law_most", "_law_loops"]
  i_law_number : Is K mg "_law_number" s_law_number ["_law_thing_here", "_law_least", "_law_most"]
  i_law_all : Is K mg "_law_all" s_law_all ["_law_things", "_law_least", "_law_most"]
  i_law_is_piece : Is K mg "_law_is_piece" s_law_is_piece ["_law_thing_here", "_law_ahead", "_law_many"]
  i_law_due : Is K mg "_law_due" s_law_due ["_law_thing_here"]
  i_law_thing : Is K mg "_law_thing" s_law_thing ["_law_box_here", "_law_part"]
  i_law_spoilt : Is K mg "_law_spoilt" s_law_spoilt ["_law_box_here", "_law_thing_here"]
  i_law_right : Is K mg "_law_right" s_law_right ["_law_thing_here"]
  i_law : Is K mg "law" s_law ["_law_script"]
  z_abs : mg "abs" = none
  z_all : mg "all" = none
  z_bool : mg "bool" = none
  z_divmod : mg "divmod" = none
  z_enumerate : mg "enumerate" = none
  z_int : mg "int" = none
  z_isinstance : mg "isinstance" = none
  z_len : mg "len" = none
  z_list : mg "list" = none
  z_max : mg "max" = none
  z_min : mg "min" = none
  z_range : mg "range" = none
  z_str : mg "str" = none
  z_tuple : mg "tuple" = none
  c_MOST_BELOW : GlobD K mg "MOST_BELOW" c_MOST_BELOW
  c_MOST_KEPT : GlobD K mg "MOST_KEPT" c_MOST_KEPT
  c_MOST_LATE : GlobD K mg "MOST_LATE" c_MOST_LATE
  c_MOST_NUMBER : GlobD K mg "MOST_NUMBER" c_MOST_NUMBER
  c_MOST_PIECES : GlobD K mg "MOST_PIECES" c_MOST_PIECES
  c_MOST_ROUND : GlobD K mg "MOST_ROUND" c_MOST_ROUND
  c_MOST_WIDE : GlobD K mg "MOST_WIDE" c_MOST_WIDE
  c_MOST_WRAPPED : GlobD K mg "MOST_WRAPPED" c_MOST_WRAPPED
  c_WRAPPERS : GlobD K mg "WRAPPERS" c_WRAPPERS
  d_PARTS : KD w K mg "PARTS" dd_PARTS
section
variable {P : Program} {w : World} {K : PySem.W.Frag} {mg : Str → Option Value} {base : Heap}
def N_common_divisor : List Str := ["one", "other"]
theorem sc_common_divisor : FnScope N_common_divisor ["one", "other"] (defScope s_common_divisor) := ⟨rfl, rfl, rfl, by decide +kernel, rfl, by decide +kernel, by decide +kernel⟩
theorem w_common_divisor (T : Txt w K mg) {sp : DSp} (h : ∀ cs post, cs.length = 2 → sp cs post → runD 2 (b_common_divisor) cs post) : Def P w K mg base 1 "common_divisor" 2 sp :=
  def_of (N := N_common_divisor) T.i_common_divisor sc_common_divisor (by decide) (fun f cdv A outer s H hr hgd => by
    have nd : N_common_divisor.Nodup := sc_common_divisor.nd
    exact (dss_cons (ds_par (i := 0) (j := 1) rfl nd rfl rfl (by decide) rfl rfl (a_cons (d_callB call_abs v_abs (by rfl) T.z_abs (by decide +kernel) (a_cons (d_var 0) a_nil)) (a_cons (d_callB call_abs v_abs (by rfl) T.z_abs (by decide +kernel) (a_cons (d_var 1) a_nil)) a_nil)) (by rfl))
    (dss_cons (ds_while PassesOwn.never (dt_cmp op_gt v_intB (d_var 1) d_int (nomark _)) (dss_one (ds_par (i := 0) (j := 1) rfl nd rfl rfl (by decide) rfl rfl (a_cons (d_var 1) (a_cons (d_op op_mod v_intC (d_var 0) (d_var 1)) a_nil)) (by rfl))))
    (dss_one (ds_ret (d_var 0)))))) h
def N_is_number : List Str := ["thing"]
theorem sc_is_number : FnScope N_is_number ["thing"] (defScope s_is_number) := ⟨rfl, rfl, rfl, by decide +kernel, rfl, by decide +kernel, by decide +kernel⟩
theorem w_is_number (T : Txt w K mg) {sp : DSp} (h : ∀ cs post, cs.length = 1 → sp cs post → runD 1 (b_is_number) cs post) : Def P w K mg base 1 "is_number" 1 sp :=
  def_of (N := N_is_number) T.i_is_number sc_is_number (by decide) (fun f cdv A outer s H hr hgd => by
    have nd : N_is_number.Nodup := sc_is_number.nd
    exact (dss_one (ds_ret (d_and (d_isi .int (d_var 0) (by rfl) T.z_isinstance (by decide +kernel) (by rfl) T.z_int (by decide +kernel) (by decide) (by decide)) (d_one (d_not (d_isi .bool (d_var 0) (by rfl) T.z_isinstance (by decide +kernel) (by rfl) T.z_bool (by decide +kernel) (by decide) (by decide)))))))) h
def N_is_between : List Str := ["thing", "least", "most"]
theorem sc_is_between : FnScope N_is_between ["thing", "least", "most"] (defScope s_is_between) := ⟨rfl, rfl, rfl, by decide +kernel, rfl, by decide +kernel, by decide +kernel⟩
theorem w_is_between (T : Txt w K mg) {sp_is_number : DSp} {sp : DSp} (D_is_number : Def P w K mg base 1 "is_number" 1 sp_is_number) (h : ∀ cs post, cs.length = 3 → sp cs post → runD 3 (b_is_between sp_is_number) cs post) : Def P w K mg base 2 "is_between" 3 sp :=
  def_of (N := N_is_between) T.i_is_between sc_is_between (by decide) (fun f cdv A outer s H hr hgd => by
    have nd : N_is_between.Nodup := sc_is_between.nd
    exact (dss_one (ds_ret (d_and (d_call D_is_number hr (by decide) hgd (by rfl) (c_cons (d_var 0) c_nil)) (d_one (d_chain op_le v_intB op_le v_intB (d_var 1) (d_var 0) (d_var 2))))))) h
def N_power_of_two : List Str := ["wide", "found", "turn"]
theorem sc_power_of_two : FnScope N_power_of_two ["wide"] (defScope s_power_of_two) := ⟨rfl, rfl, rfl, by decide +kernel, rfl, by decide +kernel, by decide +kernel⟩
theorem w_power_of_two (T : Txt w K mg) {sp : DSp} (h : ∀ cs post, cs.length = 1 → sp cs post → runD 3 (b_power_of_two) cs post) : Def P w K mg base 1 "power_of_two" 1 sp :=
  def_of (N := N_power_of_two) T.i_power_of_two sc_power_of_two (by decide) (fun f cdv A outer s H hr hgd => by
    have nd : N_power_of_two.Nodup := sc_power_of_two.nd
    exact (dss_cons (ds_set (i := 1) nd rfl (by first | exact Or.inl rfl | exact Or.inr rfl) d_int)
    (dss_cons (ds_for PassesOwn.never rfl (di_range1 (by rfl) T.z_range (a_cons (d_var 0) a_nil)) (dg_name (i := 2) nd rfl (by first | exact Or.inl rfl | exact Or.inr rfl)) (dss_one (ds_aug (i := 1) nd rfl (by first | exact Or.inl rfl | exact Or.inr rfl) d_int iop_mul v_intC)))
    (dss_one (ds_ret (d_var 1)))))) h
def N_is_counter : List Str := ["maker"]
theorem sc_is_counter : FnScope N_is_counter ["maker"] (defScope s_is_counter) := ⟨rfl, rfl, rfl, by decide +kernel, rfl, by decide +kernel, by decide +kernel⟩
theorem w_is_counter (T : Txt w K mg) {sp_common_divisor : DSp} {sp_is_between : DSp} {sp : DSp} (D_common_divisor : Def P w K mg base 1 "common_divisor" 2 sp_common_divisor) (D_is_between : Def P w K mg base 2 "is_between" 3 sp_is_between) (h : ∀ cs post, cs.length = 1 → sp cs post → runD 1 (b_is_counter sp_common_divisor sp_is_between) cs post) : Def P w K mg base 3 "is_counter" 1 sp :=
  def_of (N := N_is_counter) T.i_is_counter sc_is_counter (by decide) (fun f cdv A outer s H hr hgd => by
    have nd : N_is_counter.Nodup := sc_is_counter.nd
    exact (dss_cons (ds_if (DW.dt (dw_or (dt_cmp (op_neA hr.units) v_ne (d_lenv 0 (by rfl) T.z_len) d_int (nomark _)) (dw_or (dt_not (dt_tru (d_call D_is_between hr (by decide) hgd (by rfl) (c_cons (d_ixv 0 d_int (fun _ _ => rfl)) (c_cons d_int (c_cons (d_globD (by rfl) T.c_MOST_NUMBER) c_nil)))))) (dw_or1 (dt_not (dt_tru (d_call D_is_between hr (by decide) hgd (by rfl) (c_cons (d_ixv 0 d_int (fun _ _ => rfl)) (c_cons d_int (c_cons (d_ixv 0 d_int (fun _ _ => rfl)) c_nil)))))))))) (dss_one (ds_ret d_bl)) dss_nil)
    (dss_one (ds_ret (d_and (d_cmp (op_eqA hr.units) v_eq (d_call D_common_divisor hr (by decide) hgd (by rfl) (c_cons (d_ixv 0 d_int (fun _ _ => rfl)) (c_cons (d_ixv 0 d_int (fun _ _ => rfl)) c_nil))) d_int (nomark _)) (d_one (d_call D_is_between hr (by decide) hgd (by rfl) (c_cons (d_ixv 0 d_int (fun _ _ => rfl)) (c_cons d_int (c_cons (d_op op_sub v_int (d_ixv 0 d_int (fun _ _ => rfl)) d_int) c_nil)))))))))) h
def N_is_turned : List Str := ["maker"]
theorem sc_is_turned : FnScope N_is_turned ["maker"] (defScope s_is_turned) := ⟨rfl, rfl, rfl, by decide +kernel, rfl, by decide +kernel, by decide +kernel⟩
theorem w_is_turned (T : Txt w K mg) {sp_is_between : DSp} {sp_power_of_two : DSp} {sp : DSp} (D_is_between : Def P w K mg base 2 "is_between" 3 sp_is_between) (D_power_of_two : Def P w K mg base 1 "power_of_two" 1 sp_power_of_two) (h : ∀ cs post, cs.length = 1 → sp cs post → runD 1 (b_is_turned sp_is_between sp_power_of_two) cs post) : Def P w K mg base 3 "is_turned" 1 sp :=
  def_of (N := N_is_turned) T.i_is_turned sc_is_turned (by decide) (fun f cdv A outer s H hr hgd => by
    have nd : N_is_turned.Nodup := sc_is_turned.nd
    exact (dss_cons (ds_if (DW.dt (dw_or (dt_cmp (op_neA hr.units) v_ne (d_lenv 0 (by rfl) T.z_len) d_int (nomark _)) (dw_or1 (dt_not (dt_tru (d_call D_is_between hr (by decide) hgd (by rfl) (c_cons (d_ixv 0 d_int (fun _ _ => rfl)) (c_cons d_int (c_cons (d_globD (by rfl) T.c_MOST_WIDE) c_nil))))))))) (dss_one (ds_ret d_bl)) dss_nil)
    (dss_one (ds_ret (d_call D_is_between hr (by decide) hgd (by rfl) (c_cons (d_ixv 0 d_int (fun _ _ => rfl)) (c_cons d_int (c_cons (d_op op_sub v_int (d_call D_power_of_two hr (by decide) hgd (by rfl) (c_cons (d_ixv 0 d_int (fun _ _ => rfl)) c_nil)) d_int) c_nil)))))))) h
def N_is_register : List Str := ["maker", "most"]
theorem sc_is_register : FnScope N_is_register ["maker"] (defScope s_is_register) := ⟨rfl, rfl, rfl, by decide +kernel, rfl, by decide +kernel, by decide +kernel⟩
theorem w_is_register (T : Txt w K mg) {sp_is_between : DSp} {sp_power_of_two : DSp} {sp : DSp} (D_is_between : Def P w K mg base 2 "is_between" 3 sp_is_between) (D_power_of_two : Def P w K mg base 1 "power_of_two" 1 sp_power_of_two) (h : ∀ cs post, cs.length = 1 → sp cs post → runD 2 (b_is_register sp_is_between sp_power_of_two) cs post) : Def P w K mg base 3 "is_register" 1 sp :=
  def_of (N := N_is_register) T.i_is_register sc_is_register (by decide) (fun f cdv A outer s H hr hgd => by
    have nd : N_is_register.Nodup := sc_is_register.nd
    exact (dss_cons (ds_if (DW.dt (dw_or (dt_cmp (op_neA hr.units) v_ne (d_lenv 0 (by rfl) T.z_len) d_int (nomark _)) (dw_or1 (dt_not (dt_tru (d_call D_is_between hr (by decide) hgd (by rfl) (c_cons (d_ixv 0 d_int (fun _ _ => rfl)) (c_cons d_int (c_cons (d_globD (by rfl) T.c_MOST_WIDE) c_nil))))))))) (dss_one (ds_ret d_bl)) dss_nil)
    (dss_cons (ds_set (i := 1) nd rfl (by first | exact Or.inl rfl | exact Or.inr rfl) (d_call D_power_of_two hr (by decide) hgd (by rfl) (c_cons (d_ixv 0 d_int (fun _ _ => rfl)) c_nil)))
    (dss_one (ds_ret (d_and (d_call D_is_between hr (by decide) hgd (by rfl) (c_cons (d_ixv 0 d_int (fun _ _ => rfl)) (c_cons (d_op op_fdivD v_intC (d_var 1) d_int) (c_cons (d_op op_sub v_int (d_var 1) d_int) c_nil)))) (d_one (d_call D_is_between hr (by decide) hgd (by rfl) (c_cons (d_ixv 0 d_int (fun _ _ => rfl)) (c_cons d_int (c_cons (d_op op_sub v_int (d_var 1) d_int) c_nil))))))))))) h
def N_is_table : List Str := ["maker", "number"]
theorem sc_is_table : FnScope N_is_table ["maker"] (defScope s_is_table) := ⟨rfl, rfl, rfl, by decide +kernel, rfl, by decide +kernel, by decide +kernel⟩
theorem w_is_table (T : Txt w K mg) {sp_is_between : DSp} {sp : DSp} (D_is_between : Def P w K mg base 2 "is_between" 3 sp_is_between) (h : ∀ cs post, cs.length = 1 → sp cs post → runD 2 (b_is_table sp_is_between) cs post) : Def P w K mg base 3 "is_table" 1 sp :=
  def_of (N := N_is_table) T.i_is_table sc_is_table (by decide) (fun f cdv A outer s H hr hgd => by
    have nd : N_is_table.Nodup := sc_is_table.nd
    exact (dss_cons (ds_if (DW.dt (dw_or (dt_cmp (op_neA hr.units) v_ne (d_lenv 0 (by rfl) T.z_len) d_int (nomark _)) (dw_or (dt_not (dt_tru (d_isi .tuple (d_ixv 0 d_int (fun _ _ => rfl)) (by rfl) T.z_isinstance (by decide +kernel) (by rfl) T.z_tuple (by decide +kernel) (by decide) (by decide)))) (dw_or1 (dt_not (dt_chain op_le v_intB op_le v_intB d_int (d_callB call_len v_len (by rfl) T.z_len (by decide +kernel) (a_cons (d_ixv 0 d_int (fun _ _ => rfl)) a_nil)) (d_globD (by rfl) T.c_MOST_NUMBER))))))) (dss_one (ds_ret d_bl)) dss_nil)
    (dss_one (ds_ret (d_callB (cr_all rfl) v_all (by rfl) T.z_all (by decide +kernel) (a_cons (d_frz (o_comp rfl nd (di_any (d_ixv 0 d_int (fun _ _ => rfl))) (blkOk_by (own := [("number", 1)]) (N := N_is_table) (sc := defScope s_is_table) (by decide +kernel)) rfl (fun _ _ _ _ _ => pg_name (i := 1) nd rfl (by first | exact Or.inl rfl | exact Or.inr rfl)) (fun _ _ _ _ _ => dts_nil) (fun _ _ _ _ _ => (d_call D_is_between hr (by decide) hgd (by rfl) (c_cons (d_var 1) (c_cons d_int (c_cons (d_op op_sub v_int (d_globD (by rfl) T.c_MOST_NUMBER) d_int) c_nil))))))) a_nil)))))) h
def N_is_wrapped : List Str := ["maker", "left", "word", "least"]
theorem sc_is_wrapped : FnScope N_is_wrapped ["maker", "left"] (defScope s_is_wrapped) := ⟨rfl, rfl, rfl, by decide +kernel, rfl, by decide +kernel, by decide +kernel⟩
theorem w_is_wrapped {j : Nat} (hj : 3 ≤ j) (T : Txt w K mg) {sp_is_between : DSp} {sp_is_counter : DSp} {sp_is_register : DSp} {sp_is_table : DSp} {sp_is_turned : DSp} {sp_is_wrapped : DSp} {sp : DSp} (D_is_between : Def P w K mg base 2 "is_between" 3 sp_is_between) (D_is_counter : Def P w K mg base 3 "is_counter" 1 sp_is_counter) (D_is_register : Def P w K mg base 3 "is_register" 1 sp_is_register) (D_is_table : Def P w K mg base 3 "is_table" 1 sp_is_table) (D_is_turned : Def P w K mg base 3 "is_turned" 1 sp_is_turned) (D_is_wrapped : Def P w K mg base j "is_wrapped" 2 sp_is_wrapped) (h : ∀ cs post, cs.length = 2 → sp cs post → runD 4 (b_is_wrapped sp_is_between sp_is_counter sp_is_register sp_is_table sp_is_turned sp_is_wrapped) cs post) : Def P w K mg base (j + 1) "is_wrapped" 2 sp :=
  def_of (N := N_is_wrapped) T.i_is_wrapped sc_is_wrapped (by decide) (fun f cdv A outer s H hr hgd => by
    have nd : N_is_wrapped.Nodup := sc_is_wrapped.nd
    exact (dss_cons (ds_if (DW.dt (dw_or (dt_not (dt_tru (d_isi .tuple (d_var 0) (by rfl) T.z_isinstance (by decide +kernel) (by rfl) T.z_tuple (by decide +kernel) (by decide) (by decide)))) (dw_or (dt_cmp (op_eqA hr.units) v_eq (d_lenv 0 (by rfl) T.z_len) d_int (nomark _)) (dw_or1 (dt_not (dt_tru (d_isi .str (d_ixv 0 d_int (fun _ _ => rfl)) (by rfl) T.z_isinstance (by decide +kernel) (by rfl) T.z_str (by decide +kernel) (by decide) (by decide)))))))) (dss_one (ds_ret d_bl)) dss_nil)
    (dss_cons (ds_set (i := 2) nd rfl (by first | exact Or.inl rfl | exact Or.inr rfl) (d_ixv 0 d_int (fun _ _ => rfl)))
    (dss_cons (ds_if (dt_cmp op_inA v_in (d_var 2) (d_globD (by rfl) T.c_WRAPPERS) (by with_unfolding_all rfl)) (dss_cons (ds_set (i := 3) nd rfl (by first | exact Or.inl rfl | exact Or.inr rfl) (d_if (dt_cmp (op_eqA hr.units) v_eq (d_var 2) d_str (nomark _)) d_int d_int))
    (dss_cons (ds_if (DW.dt (dw_or (dt_cmp (op_eqA hr.units) v_eq (d_var 1) d_int (nomark _)) (dw_or (dt_cmp (op_neA hr.units) v_ne (d_lenv 0 (by rfl) T.z_len) d_int (nomark _)) (dw_or1 (dt_not (dt_tru (d_call D_is_between hr (Nat.le_trans (by decide : 2 ≤ 3) hj) hgd (by rfl) (c_cons (d_ixv 0 d_int (fun _ _ => rfl)) (c_cons (d_var 3) (c_cons (d_globD (by rfl) T.c_MOST_NUMBER) c_nil)))))))))) (dss_one (ds_ret d_bl)) dss_nil)
    (dss_one (ds_ret (d_call D_is_wrapped hr (Nat.le_refl _) hgd (by rfl) (c_cons (d_ixv 0 d_int (fun _ _ => rfl)) (c_cons (d_op op_sub v_int (d_var 1) d_int) c_nil))))))) dss_nil)
    (dss_cons (ds_if (dt_cmp (op_eqA hr.units) v_eq (d_var 2) d_str (nomark _)) (dss_one (ds_ret (d_call D_is_counter hr (Nat.le_trans (by decide : 3 ≤ 3) hj) hgd (by rfl) (c_cons (d_var 0) c_nil)))) dss_nil)
    (dss_cons (ds_if (dt_cmp (op_eqA hr.units) v_eq (d_var 2) d_str (nomark _)) (dss_one (ds_ret (d_call D_is_turned hr (Nat.le_trans (by decide : 3 ≤ 3) hj) hgd (by rfl) (c_cons (d_var 0) c_nil)))) dss_nil)
    (dss_cons (ds_if (dt_cmp (op_eqA hr.units) v_eq (d_var 2) d_str (nomark _)) (dss_one (ds_ret (d_call D_is_register hr (Nat.le_trans (by decide : 3 ≤ 3) hj) hgd (by rfl) (c_cons (d_var 0) c_nil)))) dss_nil)
    (dss_one (ds_ret (d_and (d_cmp (op_eqA hr.units) v_eq (d_var 2) d_str (nomark _)) (d_one (d_call D_is_table hr (Nat.le_trans (by decide : 3 ≤ 3) hj) hgd (by rfl) (c_cons (d_var 0) c_nil))))))))))))) h
def N_is_maker : List Str := ["thing"]
theorem sc_is_maker : FnScope N_is_maker ["thing"] (defScope s_is_maker) := ⟨rfl, rfl, rfl, by decide +kernel, rfl, by decide +kernel, by decide +kernel⟩
theorem w_is_maker (T : Txt w K mg) {sp_is_wrapped : DSp} {sp_round_of : DSp} {sp : DSp} (D_is_wrapped : Def P w K mg base 7 "is_wrapped" 2 sp_is_wrapped) (D_round_of : Def P w K mg base 7 "round_of" 1 sp_round_of) (h : ∀ cs post, cs.length = 1 → sp cs post → runD 1 (b_is_maker sp_is_wrapped sp_round_of) cs post) : Def P w K mg base 8 "is_maker" 1 sp :=
  def_of (N := N_is_maker) T.i_is_maker sc_is_maker (by decide) (fun f cdv A outer s H hr hgd => by
    have nd : N_is_maker.Nodup := sc_is_maker.nd
    exact (dss_one (ds_ret (d_and (d_call D_is_wrapped hr (by decide) hgd (by rfl) (c_cons (d_var 0) (c_cons (d_globD (by rfl) T.c_MOST_WRAPPED) c_nil))) (d_one (d_cmp op_le v_intB (d_call D_round_of hr (by decide) hgd (by rfl) (c_cons (d_var 0) c_nil)) (d_globD (by rfl) T.c_MOST_ROUND) (nomark _))))))) h
def N_is_odd_together : List Str := ["one", "other", "odd"]
theorem sc_is_odd_together : FnScope N_is_odd_together ["one", "other"] (defScope s_is_odd_together) := ⟨rfl, rfl, rfl, by decide +kernel, rfl, by decide +kernel, by decide +kernel⟩
theorem w_is_odd_together (T : Txt w K mg) {sp : DSp} (h : ∀ cs post, cs.length = 2 → sp cs post → runD 3 (b_is_odd_together) cs post) : Def P w K mg base 1 "is_odd_together" 2 sp :=
  def_of (N := N_is_odd_together) T.i_is_odd_together sc_is_odd_together (by decide) (fun f cdv A outer s H hr hgd => by
    have nd : N_is_odd_together.Nodup := sc_is_odd_together.nd
    exact (dss_cons (ds_set (i := 2) nd rfl (by first | exact Or.inl rfl | exact Or.inr rfl) d_bl)
    (dss_cons (ds_while PassesOwn.never (DW.dt (dw_and (dt_cmp op_gt v_intB (d_var 0) d_int (nomark _)) (dw_and1 (dt_cmp op_gt v_intB (d_var 1) d_int (nomark _))))) (dss_cons (ds_if (DW.dt (dw_and (dt_cmp (op_eqA hr.units) v_eq (d_op op_mod v_intC (d_var 0) d_int) d_int (nomark _)) (dw_and1 (dt_cmp (op_eqA hr.units) v_eq (d_op op_mod v_intC (d_var 1) d_int) d_int (nomark _))))) (dss_one (ds_set (i := 2) nd rfl (by first | exact Or.inl rfl | exact Or.inr rfl) (d_not (d_var 2)))) dss_nil)
    (dss_cons (ds_aug (i := 0) nd rfl (by first | exact Or.inl rfl | exact Or.inr rfl) d_int iop_fdivD v_intC)
    (dss_one (ds_aug (i := 1) nd rfl (by first | exact Or.inl rfl | exact Or.inr rfl) d_int iop_fdivD v_intC)))))
    (dss_one (ds_ret (d_var 2)))))) h
def N_held_next : List Str := ["wide", "taps", "held"]
theorem sc_held_next : FnScope N_held_next ["wide", "taps", "held"] (defScope s_held_next) := ⟨rfl, rfl, rfl, by decide +kernel, rfl, by decide +kernel, by decide +kernel⟩
theorem w_held_next (T : Txt w K mg) {sp_is_odd_together : DSp} {sp_power_of_two : DSp} {sp : DSp} (D_is_odd_together : Def P w K mg base 1 "is_odd_together" 2 sp_is_odd_together) (D_power_of_two : Def P w K mg base 1 "power_of_two" 1 sp_power_of_two) (h : ∀ cs post, cs.length = 3 → sp cs post → runD 3 (b_held_next sp_is_odd_together sp_power_of_two) cs post) : Def P w K mg base 2 "held_next" 3 sp :=
  def_of (N := N_held_next) T.i_held_next sc_held_next (by decide) (fun f cdv A outer s H hr hgd => by
    have nd : N_held_next.Nodup := sc_held_next.nd
    exact (dss_one (ds_ret (d_op op_addA v_add (d_op op_mod v_intC (d_op op_mulA v_mul d_int (d_var 2)) (d_call D_power_of_two hr (by decide) hgd (by rfl) (c_cons (d_var 0) c_nil))) (d_callTy call_int1 v_int1 (by rfl) T.z_int (by decide +kernel) (a_cons (d_call D_is_odd_together hr (by decide) hgd (by rfl) (c_cons (d_var 2) (c_cons (d_var 1) c_nil))) a_nil)))))) h
def N_held_round : List Str := ["maker", "word", "wide", "taps", "start", "found", "held"]
theorem sc_held_round : FnScope N_held_round ["maker"] (defScope s_held_round) := ⟨rfl, rfl, rfl, by decide +kernel, rfl, by decide +kernel, by decide +kernel⟩
theorem w_held_round (T : Txt w K mg) {sp_held_next : DSp} {sp : DSp} (D_held_next : Def P w K mg base 2 "held_next" 3 sp_held_next) (h : ∀ cs post, cs.length = 1 → sp cs post → runD 7 (b_held_round sp_held_next) cs post) : Def P w K mg base 3 "held_round" 1 sp :=
  def_of (N := N_held_round) T.i_held_round sc_held_round (by decide) (fun f cdv A outer s H hr hgd => by
    have nd : N_held_round.Nodup := sc_held_round.nd
    exact (dss_cons (ds_asg (d_var 0) (dg_tup' (n := 4) rfl (dgs_cons (dg_name (i := 1) nd rfl (by first | exact Or.inl rfl | exact Or.inr rfl)) (dgs_cons (dg_name (i := 2) nd rfl (by first | exact Or.inl rfl | exact Or.inr rfl)) (dgs_cons (dg_name (i := 3) nd rfl (by first | exact Or.inl rfl | exact Or.inr rfl)) (dgs_cons (dg_name (i := 4) nd rfl (by first | exact Or.inl rfl | exact Or.inr rfl)) dgs_nil))))))
    (dss_cons (ds_setO (i := 5) nd rfl (by first | exact Or.inl rfl | exact Or.inr rfl) (o_lst (a_cons (d_var 4) a_nil)))
    (dss_cons (ds_set (i := 6) nd rfl (by first | exact Or.inl rfl | exact Or.inr rfl) (d_call D_held_next hr (by decide) hgd (by rfl) (c_cons (d_var 2) (c_cons (d_var 3) (c_cons (d_var 4) c_nil)))))
    (dss_cons (ds_while PassesOwn.never (dt_cmp (op_neA hr.units) v_ne (d_var 6) (d_var 4) (nomark _)) (dss_cons (ds_expr (d_append 5 (a_cons (d_var 6) a_nil)))
    (dss_one (ds_set (i := 6) nd rfl (by first | exact Or.inl rfl | exact Or.inr rfl) (d_call D_held_next hr (by decide) hgd (by rfl) (c_cons (d_var 2) (c_cons (d_var 3) (c_cons (d_var 6) c_nil))))))))
    (dss_one (ds_ret (d_var 5)))))))) h
def N_round_of : List Str := ["maker", "word", "inner"]
theorem sc_round_of : FnScope N_round_of ["maker"] (defScope s_round_of) := ⟨rfl, rfl, rfl, by decide +kernel, rfl, by decide +kernel, by decide +kernel⟩
theorem w_round_of {j : Nat} (hj : 3 ≤ j) (T : Txt w K mg) {sp_common_divisor : DSp} {sp_held_round : DSp} {sp_power_of_two : DSp} {sp_round_of : DSp} {sp : DSp} (D_common_divisor : Def P w K mg base 1 "common_divisor" 2 sp_common_divisor) (D_held_round : Def P w K mg base 3 "held_round" 1 sp_held_round) (D_power_of_two : Def P w K mg base 1 "power_of_two" 1 sp_power_of_two) (D_round_of : Def P w K mg base j "round_of" 1 sp_round_of) (h : ∀ cs post, cs.length = 1 → sp cs post → runD 3 (b_round_of sp_common_divisor sp_held_round sp_power_of_two sp_round_of) cs post) : Def P w K mg base (j + 1) "round_of" 1 sp :=
  def_of (N := N_round_of) T.i_round_of sc_round_of (by decide) (fun f cdv A outer s H hr hgd => by
    have nd : N_round_of.Nodup := sc_round_of.nd
    exact (dss_cons (ds_set (i := 1) nd rfl (by first | exact Or.inl rfl | exact Or.inr rfl) (d_ixv 0 d_int (fun _ _ => rfl)))
    (dss_cons (ds_if (dt_cmp (op_eqA hr.units) v_eq (d_var 1) d_str (nomark _)) (dss_one (ds_ret (d_ixv 0 d_int (fun _ _ => rfl)))) dss_nil)
    (dss_cons (ds_if (dt_cmp (op_eqA hr.units) v_eq (d_var 1) d_str (nomark _)) (dss_one (ds_ret (d_call D_power_of_two hr (Nat.le_trans (by decide : 1 ≤ 3) hj) hgd (by rfl) (c_cons (d_ixv 0 d_int (fun _ _ => rfl)) c_nil)))) dss_nil)
    (dss_cons (ds_if (dt_cmp (op_eqA hr.units) v_eq (d_var 1) d_str (nomark _)) (dss_one (ds_ret (d_callB call_len v_len (by rfl) T.z_len (by decide +kernel) (a_cons (d_call D_held_round hr (Nat.le_trans (by decide : 3 ≤ 3) hj) hgd (by rfl) (c_cons (d_var 0) c_nil)) a_nil)))) dss_nil)
    (dss_cons (ds_if (dt_cmp (op_eqA hr.units) v_eq (d_var 1) d_str (nomark _)) (dss_one (ds_ret (d_callB call_len v_len (by rfl) T.z_len (by decide +kernel) (a_cons (d_ixv 0 d_int (fun _ _ => rfl)) a_nil)))) dss_nil)
    (dss_cons (ds_set (i := 2) nd rfl (by first | exact Or.inl rfl | exact Or.inr rfl) (d_call D_round_of hr (Nat.le_refl _) hgd (by rfl) (c_cons (d_ixv 0 d_int (fun _ _ => rfl)) c_nil)))
    (dss_cons (ds_if (dt_cmp (op_eqA hr.units) v_eq (d_var 1) d_str (nomark _)) (dss_one (ds_ret (d_op op_mulA v_mul (d_ixv 0 d_int (fun _ _ => rfl)) (d_var 2)))) dss_nil)
    (dss_cons (ds_if (dt_cmp (op_eqA hr.units) v_eq (d_var 1) d_str (nomark _)) (dss_one (ds_ret (d_op op_mulA v_mul (d_ixv 0 d_int (fun _ _ => rfl)) (d_op op_fdivD v_intC (d_var 2) (d_call D_common_divisor hr (Nat.le_trans (by decide : 1 ≤ 3) hj) hgd (by rfl) (c_cons (d_var 2) (c_cons (d_op op_addA v_add (d_ixv 0 d_int (fun _ _ => rfl)) d_int) c_nil))))))) dss_nil)
    (dss_one (ds_ret (d_var 2)))))))))))) h
def N_is_number_to : List Str := ["thing", "least", "most"]
theorem sc_is_number_to : FnScope N_is_number_to ["thing", "least", "most"] (defScope s_is_number_to) := ⟨rfl, rfl, rfl, by decide +kernel, rfl, by decide +kernel, by decide +kernel⟩
theorem w_is_number_to (T : Txt w K mg) {sp : DSp} (h : ∀ cs post, cs.length = 3 → sp cs post → runD 3 (b_is_number_to) cs post) : Def P w K mg base 1 "is_number_to" 3 sp :=
  def_of (N := N_is_number_to) T.i_is_number_to sc_is_number_to (by decide) (fun f cdv A outer s H hr hgd => by
    have nd : N_is_number_to.Nodup := sc_is_number_to.nd
    exact (dss_one (ds_ret (d_and (d_isi .int (d_var 0) (by rfl) T.z_isinstance (by decide +kernel) (by rfl) T.z_int (by decide +kernel) (by decide) (by decide)) (d_and (d_not (d_isi .bool (d_var 0) (by rfl) T.z_isinstance (by decide +kernel) (by rfl) T.z_bool (by decide +kernel) (by decide) (by decide))) (d_one (d_chain op_le v_intB op_le v_intB (d_var 1) (d_var 0) (d_var 2)))))))) h
def N_are_pieces : List Str := ["things", "many", "thing"]
theorem sc_are_pieces : FnScope N_are_pieces ["things", "many"] (defScope s_are_pieces) := ⟨rfl, rfl, rfl, by decide +kernel, rfl, by decide +kernel, by decide +kernel⟩
theorem w_are_pieces (T : Txt w K mg) {sp_is_number_to : DSp} {sp : DSp} (D_is_number_to : Def P w K mg base 1 "is_number_to" 3 sp_is_number_to) (h : ∀ cs post, cs.length = 2 → sp cs post → runD 3 (b_are_pieces sp_is_number_to) cs post) : Def P w K mg base 2 "are_pieces" 2 sp :=
  def_of (N := N_are_pieces) T.i_are_pieces sc_are_pieces (by decide) (fun f cdv A outer s H hr hgd => by
    have nd : N_are_pieces.Nodup := sc_are_pieces.nd
    exact (dss_one (ds_ret (d_callB (cr_all rfl) v_all (by rfl) T.z_all (by decide +kernel) (a_cons (d_frz (o_comp rfl nd (di_any (d_var 0)) (blkOk_by (own := [("thing", 2)]) (N := N_are_pieces) (sc := defScope s_are_pieces) (by decide +kernel)) rfl (fun _ _ _ _ _ => pg_name (i := 2) nd rfl (by first | exact Or.inl rfl | exact Or.inr rfl)) (fun _ _ _ _ _ => dts_nil) (fun _ _ _ _ _ => (d_call D_is_number_to hr (by decide) hgd (by rfl) (c_cons (d_var 2) (c_cons d_int (c_cons (d_op op_sub v_int (d_var 1) d_int) c_nil))))))) a_nil))))) h
def N_is_keeper : List Str := ["thing", "many"]
theorem sc_is_keeper : FnScope N_is_keeper ["thing", "many"] (defScope s_is_keeper) := ⟨rfl, rfl, rfl, by decide +kernel, rfl, by decide +kernel, by decide +kernel⟩
theorem w_is_keeper (T : Txt w K mg) {sp_are_pieces : DSp} {sp_is_maker : DSp} {sp_is_number_to : DSp} {sp : DSp} (D_are_pieces : Def P w K mg base 2 "are_pieces" 2 sp_are_pieces) (D_is_maker : Def P w K mg base 8 "is_maker" 1 sp_is_maker) (D_is_number_to : Def P w K mg base 1 "is_number_to" 3 sp_is_number_to) (h : ∀ cs post, cs.length = 2 → sp cs post → runD 2 (b_is_keeper sp_are_pieces sp_is_maker sp_is_number_to) cs post) : Def P w K mg base 9 "is_keeper" 2 sp :=
  def_of (N := N_is_keeper) T.i_is_keeper sc_is_keeper (by decide) (fun f cdv A outer s H hr hgd => by
    have nd : N_is_keeper.Nodup := sc_is_keeper.nd
    exact (dss_cons (ds_if (DW.dt (dw_or (dt_cmp (op_neA hr.units) v_ne (d_lenv 0 (by rfl) T.z_len) d_int (nomark _)) (dw_or (dt_not (dt_tru (d_call D_are_pieces hr (by decide) hgd (by rfl) (c_cons (d_slv 0 (dp_some d_int) (dp_some d_int)) (c_cons (d_var 1) c_nil))))) (dw_or1 (dt_not (dt_tru (d_call D_is_maker hr (by decide) hgd (by rfl) (c_cons (d_ixv 0 d_int (fun _ _ => rfl)) c_nil)))))))) (dss_one (ds_ret d_bl)) dss_nil)
    (dss_one (ds_ret (d_and (d_call D_is_number_to hr (by decide) hgd (by rfl) (c_cons (d_ixv 0 d_int (fun _ _ => rfl)) (c_cons d_int (c_cons (d_globD (by rfl) T.c_MOST_KEPT) c_nil)))) (d_one (d_call D_is_number_to hr (by decide) hgd (by rfl) (c_cons (d_ixv 0 d_int (fun _ _ => rfl)) (c_cons d_int (c_cons (d_ixv 0 d_int (fun _ _ => rfl)) c_nil)))))))))) h
def N_is_late : List Str := ["thing", "many", "bit"]
theorem sc_is_late : FnScope N_is_late ["thing", "many"] (defScope s_is_late) := ⟨rfl, rfl, rfl, by decide +kernel, rfl, by decide +kernel, by decide +kernel⟩
theorem w_is_late (T : Txt w K mg) {sp_are_pieces : DSp} {sp_is_number_to : DSp} {sp : DSp} (D_are_pieces : Def P w K mg base 2 "are_pieces" 2 sp_are_pieces) (D_is_number_to : Def P w K mg base 1 "is_number_to" 3 sp_is_number_to) (h : ∀ cs post, cs.length = 2 → sp cs post → runD 3 (b_is_late sp_are_pieces sp_is_number_to) cs post) : Def P w K mg base 3 "is_late" 2 sp :=
  def_of (N := N_is_late) T.i_is_late sc_is_late (by decide) (fun f cdv A outer s H hr hgd => by
    have nd : N_is_late.Nodup := sc_is_late.nd
    exact (dss_cons (ds_if (DW.dt (dw_or (dt_cmp (op_neA hr.units) v_ne (d_lenv 0 (by rfl) T.z_len) d_int (nomark _)) (dw_or (dt_not (dt_tru (d_call D_are_pieces hr (by decide) hgd (by rfl) (c_cons (d_slv 0 (dp_some d_int) (dp_some d_int)) (c_cons (d_var 1) c_nil))))) (dw_or1 (dt_not (dt_tru (d_isi .tuple (d_ixv 0 d_int (fun _ _ => rfl)) (by rfl) T.z_isinstance (by decide +kernel) (by rfl) T.z_tuple (by decide +kernel) (by decide) (by decide)))))))) (dss_one (ds_ret d_bl)) dss_nil)
    (dss_one (ds_ret (d_and (d_chain op_le v_intB op_le v_intB d_int (d_callB call_len v_len (by rfl) T.z_len (by decide +kernel) (a_cons (d_ixv 0 d_int (fun _ _ => rfl)) a_nil)) (d_globD (by rfl) T.c_MOST_LATE)) (d_one (d_callB (cr_all rfl) v_all (by rfl) T.z_all (by decide +kernel) (a_cons (d_frz (o_comp rfl nd (di_any (d_ixv 0 d_int (fun _ _ => rfl))) (blkOk_by (own := [("bit", 2)]) (N := N_is_late) (sc := defScope s_is_late) (by decide +kernel)) rfl (fun _ _ _ _ _ => pg_name (i := 2) nd rfl (by first | exact Or.inl rfl | exact Or.inr rfl)) (fun _ _ _ _ _ => dts_nil) (fun _ _ _ _ _ => (d_call D_is_number_to hr (by decide) hgd (by rfl) (c_cons (d_var 2) (c_cons d_int (c_cons d_int c_nil))))))) a_nil)))))))) h
def N_is_piece : List Str := ["thing", "ahead", "many"]
theorem sc_is_piece : FnScope N_is_piece ["thing", "ahead", "many"] (defScope s_is_piece) := ⟨rfl, rfl, rfl, by decide +kernel, rfl, by decide +kernel, by decide +kernel⟩
theorem w_is_piece (T : Txt w K mg) {sp_are_pieces : DSp} {sp_is_keeper : DSp} {sp_is_late : DSp} {sp_is_maker : DSp} {sp_is_number_to : DSp} {sp : DSp} (D_are_pieces : Def P w K mg base 2 "are_pieces" 2 sp_are_pieces) (D_is_keeper : Def P w K mg base 9 "is_keeper" 2 sp_is_keeper) (D_is_late : Def P w K mg base 3 "is_late" 2 sp_is_late) (D_is_maker : Def P w K mg base 8 "is_maker" 1 sp_is_maker) (D_is_number_to : Def P w K mg base 1 "is_number_to" 3 sp_is_number_to) (h : ∀ cs post, cs.length = 3 → sp cs post → runD 3 (b_is_piece sp_are_pieces sp_is_keeper sp_is_late sp_is_maker sp_is_number_to) cs post) : Def P w K mg base 10 "is_piece" 3 sp :=
  def_of (N := N_is_piece) T.i_is_piece sc_is_piece (by decide) (fun f cdv A outer s H hr hgd => by
    have nd : N_is_piece.Nodup := sc_is_piece.nd
    exact (dss_cons (ds_if (DW.dt (dw_or (dt_not (dt_tru (d_isi .tuple (d_var 0) (by rfl) T.z_isinstance (by decide +kernel) (by rfl) T.z_tuple (by decide +kernel) (by decide) (by decide)))) (dw_or (dt_cmp (op_eqA hr.units) v_eq (d_lenv 0 (by rfl) T.z_len) d_int (nomark _)) (dw_or1 (dt_not (dt_tru (d_isi .str (d_ixv 0 d_int (fun _ _ => rfl)) (by rfl) T.z_isinstance (by decide +kernel) (by rfl) T.z_str (by decide +kernel) (by decide) (by decide)))))))) (dss_one (ds_ret d_bl)) dss_nil)
    (dss_cons (ds_if (dt_inKD (d_ixv 0 d_int (fun _ _ => rfl)) (by rfl) T.d_PARTS) (dss_one (ds_ret (d_and (d_cmp (op_eqA hr.units) v_eq (d_lenv 0 (by rfl) T.z_len) (d_op op_addA v_add (d_ixKD (by rfl) T.d_PARTS (d_ixv 0 d_int (fun _ _ => rfl)) (fun _ _ => rfl)) d_int) (nomark _)) (d_one (d_call D_are_pieces hr (by decide) hgd (by rfl) (c_cons (d_slv 0 (dp_some d_int) dp_no) (c_cons (d_var 1) c_nil))))))) dss_nil)
    (dss_cons (ds_if (dt_cmp (op_eqA hr.units) v_eq (d_ixv 0 d_int (fun _ _ => rfl)) d_str (nomark _)) (dss_one (ds_ret (d_and (d_cmp (op_eqA hr.units) v_eq (d_lenv 0 (by rfl) T.z_len) d_int (nomark _)) (d_and (d_call D_is_maker hr (by decide) hgd (by rfl) (c_cons (d_ixv 0 d_int (fun _ _ => rfl)) c_nil)) (d_one (d_call D_is_number_to hr (by decide) hgd (by rfl) (c_cons (d_ixv 0 d_int (fun _ _ => rfl)) (c_cons d_int (c_cons (d_globD (by rfl) T.c_MOST_BELOW) c_nil))))))))) dss_nil)
    (dss_cons (ds_if (dt_cmp (op_eqA hr.units) v_eq (d_ixv 0 d_int (fun _ _ => rfl)) d_str (nomark _)) (dss_one (ds_ret (d_and (d_cmp (op_eqA hr.units) v_eq (d_lenv 0 (by rfl) T.z_len) d_int (nomark _)) (d_and (d_call D_are_pieces hr (by decide) hgd (by rfl) (c_cons (d_slv 0 (dp_some d_int) (dp_some d_int)) (c_cons (d_var 1) c_nil))) (d_one (d_call D_is_number_to hr (by decide) hgd (by rfl) (c_cons (d_ixv 0 d_int (fun _ _ => rfl)) (c_cons d_int (c_cons d_int c_nil))))))))) dss_nil)
    (dss_cons (ds_if (dt_cmp (op_eqA hr.units) v_eq (d_ixv 0 d_int (fun _ _ => rfl)) d_str (nomark _)) (dss_one (ds_ret (d_call D_is_late hr (by decide) hgd (by rfl) (c_cons (d_var 0) (c_cons (d_var 2) c_nil))))) dss_nil)
    (dss_one (ds_ret (d_and (d_cmp (op_eqA hr.units) v_eq (d_ixv 0 d_int (fun _ _ => rfl)) d_str (nomark _)) (d_one (d_call D_is_keeper hr (by decide) hgd (by rfl) (c_cons (d_var 0) (c_cons (d_var 2) c_nil))))))))))))) h
def N_is_machine : List Str := ["thing", "ahead", "piece"]
theorem sc_is_machine : FnScope N_is_machine ["thing"] (defScope s_is_machine) := ⟨rfl, rfl, rfl, by decide +kernel, rfl, by decide +kernel, by decide +kernel⟩
theorem w_is_machine (T : Txt w K mg) {sp_is_piece : DSp} {sp : DSp} (D_is_piece : Def P w K mg base 10 "is_piece" 3 sp_is_piece) (h : ∀ cs post, cs.length = 1 → sp cs post → runD 3 (b_is_machine sp_is_piece) cs post) : Def P w K mg base 11 "is_machine" 1 sp :=
  def_of (N := N_is_machine) T.i_is_machine sc_is_machine (by decide) (fun f cdv A outer s H hr hgd => by
    have nd : N_is_machine.Nodup := sc_is_machine.nd
    exact (dss_cons (ds_if (DW.dt (dw_or (dt_not (dt_tru (d_isi .tuple (d_var 0) (by rfl) T.z_isinstance (by decide +kernel) (by rfl) T.z_tuple (by decide +kernel) (by decide) (by decide)))) (dw_or1 (dt_not (dt_chain op_le v_intB op_le v_intB d_int (d_lenv 0 (by rfl) T.z_len) (d_globD (by rfl) T.c_MOST_PIECES)))))) (dss_one (ds_ret d_bl)) dss_nil)
    (dss_one (ds_ret (d_callB (cr_all rfl) v_all (by rfl) T.z_all (by decide +kernel) (a_cons (d_frz (o_comp rfl nd (di_enum' (by rfl) T.z_enumerate (a_cons (d_var 0) a_nil)) (blkOk_by (own := [("ahead", 1), ("piece", 2)]) (N := N_is_machine) (sc := defScope s_is_machine) (by decide +kernel)) rfl (fun _ _ _ _ _ => pg_tup rfl (pgs_cons (pg_name (i := 1) nd rfl (by first | exact Or.inl rfl | exact Or.inr rfl)) (pgs_cons (pg_name (i := 2) nd rfl (by first | exact Or.inl rfl | exact Or.inr rfl)) pgs_nil))) (fun _ _ _ _ _ => dts_nil) (fun _ _ _ _ _ => (d_call D_is_piece hr (by decide) hgd (by rfl) (c_cons (d_var 2) (c_cons (d_var 1) (c_cons (d_lenv 0 (by rfl) T.z_len) c_nil))))))) a_nil)))))) h
def N_law_box : List Str := ["_law_script", "_law_k", "_law_cell"]
theorem sc_law_box : FnScope N_law_box ["_law_script", "_law_k"] (defScope s_law_box) := ⟨rfl, rfl, rfl, by decide +kernel, rfl, by decide +kernel, by decide +kernel⟩
theorem w_law_box (T : Txt w K mg) {sp : DSp} (h : ∀ cs post, cs.length = 2 → sp cs post → runD 3 (b_law_box) cs post) : Def P w K mg base 1 "_law_box" 2 sp :=
  def_of (N := N_law_box) T.i_law_box sc_law_box (by decide) (fun f cdv A outer s H hr hgd => by
    have nd : N_law_box.Nodup := sc_law_box.nd
    exact (dss_cons (ds_set (i := 2) nd rfl (by first | exact Or.inl rfl | exact Or.inr rfl) d_int)
    (dss_cons (ds_if (dt_cmp op_lt v_intB (d_var 1) (d_lenv 0 (by rfl) T.z_len) (nomark _)) (dss_one (ds_set (i := 2) nd rfl (by first | exact Or.inl rfl | exact Or.inr rfl) (d_ixv 0 (d_var 1) (fun _ _ => rfl)))) dss_nil)
    (dss_one (ds_retO (o_lst (a_cons (d_op op_mulA v_mul (d_callB call_abs v_abs (by rfl) T.z_abs (by decide +kernel) (a_cons (d_var 2) a_nil)) (d_callTy call_int1 v_int1 (by rfl) T.z_int (by decide +kernel) (a_cons (d_cmp op_ge v_intB (d_callB call_abs v_abs (by rfl) T.z_abs (by decide +kernel) (a_cons (d_var 2) a_nil)) (d_op op_pow v_intC d_int d_int) (nomark _)) a_nil))) (a_cons (d_op op_mod v_intC (d_op op_addA v_add (d_var 2) (d_op op_mulA v_mul (d_op op_mulA v_mul d_int (d_var 1)) (d_var 1))) d_int) (a_cons d_int a_nil))))))))) h
def N_law_take : List Str := ["_law_box_here", "_law_many", "_law_once", "_law_found"]
theorem sc_law_take : FnScope N_law_take ["_law_box_here", "_law_many"] (defScope s_law_take) := ⟨rfl, rfl, rfl, by decide +kernel, rfl, by decide +kernel, by decide +kernel⟩
theorem w_law_take (T : Txt w K mg) {sp : DSp} (h : ∀ cs post, cs.length = 2 → sp cs post → runD 4 (b_law_take) cs post) : Def P w K mg base 1 "_law_take" 2 sp :=
  def_of (N := N_law_take) T.i_law_take sc_law_take (by decide) (fun f cdv A outer s H hr hgd => by
    have nd : N_law_take.Nodup := sc_law_take.nd
    exact (dss_cons (ds_if (dt_cmp op_gt v_intB (d_ixv 0 d_int (fun _ _ => rfl)) d_int (nomark _)) (dss_cons (ds_asg (d_callB call_divmodW v_dvm (by rfl) T.z_divmod (by decide +kernel) (a_cons (d_ixv 0 d_int (fun _ _ => rfl)) (a_cons (d_var 1) a_nil))) (dg_tup' (n := 2) rfl (dgs_cons (dg_sub 0 d_int) (dgs_cons (dg_name (i := 3) nd rfl (by first | exact Or.inl rfl | exact Or.inr rfl)) dgs_nil))))
    (dss_one (ds_ret (d_var 3)))) dss_nil)
    (dss_cons (ds_asg (d_op op_addA v_add (d_ixv 0 d_int (fun _ _ => rfl)) d_int) (dg_sub 0 d_int))
    (dss_cons (ds_set (i := 2) nd rfl (by first | exact Or.inl rfl | exact Or.inr rfl) (d_op op_mod v_intC (d_op op_pow v_intC (d_op op_addA v_add (d_ixv 0 d_int (fun _ _ => rfl)) (d_op op_mulA v_mul d_int (d_ixv 0 d_int (fun _ _ => rfl)))) d_int) d_int))
    (dss_one (ds_ret (d_op op_mod v_intC (d_op op_fdivD v_intC (d_op op_mod v_intC (d_op op_addA v_add (d_op op_mulA v_mul (d_var 2) d_int) (d_op op_mulA v_mul (d_op op_mulA v_mul (d_ixv 0 d_int (fun _ _ => rfl)) (d_ixv 0 d_int (fun _ _ => rfl))) d_int)) d_int) d_int) (d_var 1)))))))) h
def N_law_folded : List Str := ["_law_script", "_law_many", "_law_cells", "_law_k", "_law_cell"]
theorem sc_law_folded : FnScope N_law_folded ["_law_script", "_law_many"] (defScope s_law_folded) := ⟨rfl, rfl, rfl, by decide +kernel, rfl, by decide +kernel, by decide +kernel⟩
theorem w_law_folded (T : Txt w K mg) {sp : DSp} (h : ∀ cs post, cs.length = 2 → sp cs post → runD 5 (b_law_folded) cs post) : Def P w K mg base 1 "_law_folded" 2 sp :=
  def_of (N := N_law_folded) T.i_law_folded sc_law_folded (by decide) (fun f cdv A outer s H hr hgd => by
    have nd : N_law_folded.Nodup := sc_law_folded.nd
    exact (dss_cons (ds_setO (i := 2) nd rfl (by first | exact Or.inl rfl | exact Or.inr rfl) (o_list (d_slv 0 dp_no (dp_some (d_var 1))) (by rfl) T.z_list (by decide +kernel)))
    (dss_cons (ds_for PassesOwn.never rfl (di_enum' (by rfl) T.z_enumerate (a_cons (d_slv 0 (dp_some (d_var 1)) (dp_some d_int)) a_nil)) (dg_tup' (n := 2) rfl (dgs_cons (dg_name (i := 3) nd rfl (by first | exact Or.inl rfl | exact Or.inr rfl)) (dgs_cons (dg_name (i := 4) nd rfl (by first | exact Or.inl rfl | exact Or.inr rfl)) dgs_nil))) (dss_one (ds_asg (d_op op_addA v_add (d_ixv 2 (d_op op_mod v_intC (d_var 3) (d_var 1)) (fun _ _ => rfl)) (d_op op_mulA v_mul (d_var 4) (d_op op_addA v_add (d_var 3) d_int))) (dg_sub 2 (d_op op_mod v_intC (d_var 3) (d_var 1))))))
    (dss_one (ds_ret (d_var 2)))))) h
def N_law_alone : List Str := ["_law_one", "_law_other"]
theorem sc_law_alone : FnScope N_law_alone ["_law_one", "_law_other"] (defScope s_law_alone) := ⟨rfl, rfl, rfl, by decide +kernel, rfl, by decide +kernel, by decide +kernel⟩
theorem w_law_alone (T : Txt w K mg) {sp : DSp} (h : ∀ cs post, cs.length = 2 → sp cs post → runD 2 (b_law_alone) cs post) : Def P w K mg base 1 "_law_alone" 2 sp :=
  def_of (N := N_law_alone) T.i_law_alone sc_law_alone (by decide) (fun f cdv A outer s H hr hgd => by
    have nd : N_law_alone.Nodup := sc_law_alone.nd
    exact (dss_cons (ds_while PassesOwn.never (dt_cmp op_gt v_intB (d_var 1) d_int (nomark _)) (dss_one (ds_par (i := 0) (j := 1) rfl nd rfl rfl (by decide) rfl rfl (a_cons (d_var 1) (a_cons (d_op op_mod v_intC (d_var 0) (d_var 1)) a_nil)) (by rfl))))
    (dss_one (ds_ret (d_cmp (op_eqA hr.units) v_eq (d_var 0) d_int (nomark _)))))) h
def N_law_maker : List Str := ["_law_box_here", "_law_deep", "_law_most", "_law_way", "_law_many", "_law_twos", "_law_wides", "_law_wide", "_law_steps", "_law_word", "_law_taps", "_law_step", "_law_k"]
theorem sc_law_maker : FnScope N_law_maker ["_law_box_here", "_law_deep", "_law_most"] (defScope s_law_maker) := ⟨rfl, rfl, rfl, by decide +kernel, rfl, by decide +kernel, by decide +kernel⟩
theorem w_law_maker {j : Nat} (hj : 1 ≤ j) (T : Txt w K mg) {sp_law_alone : DSp} {sp_law_maker : DSp} {sp_law_take : DSp} {sp : DSp} (D_law_alone : Def P w K mg base 1 "_law_alone" 2 sp_law_alone) (D_law_maker : Def P w K mg base j "_law_maker" 3 sp_law_maker) (D_law_take : Def P w K mg base 1 "_law_take" 2 sp_law_take) (h : ∀ cs post, cs.length = 3 → sp cs post → runD 13 (b_law_maker sp_law_alone sp_law_maker sp_law_take) cs post) : Def P w K mg base (j + 1) "_law_maker" 3 sp :=
  def_of (N := N_law_maker) T.i_law_maker sc_law_maker (by decide) (fun f cdv A outer s H hr hgd => by
    have nd : N_law_maker.Nodup := sc_law_maker.nd
    exact (dss_cons (ds_asg (d_tup (a_cons (d_call D_law_take hr (Nat.le_trans (by decide : 1 ≤ 1) hj) hgd (by rfl) (c_io 0 (c_cons d_int c_nil))) (a_cons (d_op op_addA v_add d_int (d_call D_law_take hr (Nat.le_trans (by decide : 1 ≤ 1) hj) hgd (by rfl) (c_io 0 (c_cons (d_var 2) c_nil)))) a_nil))) (dg_tup' (n := 2) rfl (dgs_cons (dg_name (i := 3) nd rfl (by first | exact Or.inl rfl | exact Or.inr rfl)) (dgs_cons (dg_name (i := 4) nd rfl (by first | exact Or.inl rfl | exact Or.inr rfl)) dgs_nil))))
    (dss_cons (ds_if (DW.dt (dw_and (dt_cmp op_gt v_intB (d_var 3) d_int (nomark _)) (dw_and1 (dt_cmp op_gt v_intB (d_var 1) d_int (nomark _))))) (dss_cons (ds_set (i := 9) nd rfl (by first | exact Or.inl rfl | exact Or.inr rfl) (d_ix (d_frz (o_lst (a_cons d_str (a_cons d_str (a_cons d_str a_nil))))) (d_op op_sub v_int (d_var 3) d_int) (fun _ _ => rfl)))
    (dss_one (ds_ret (d_tup (a_cons (d_var 9) (a_cons (d_ix (d_frz (o_lst (a_cons (d_op op_addA v_add d_int (d_call D_law_take hr (Nat.le_trans (by decide : 1 ≤ 1) hj) hgd (by rfl) (c_io 0 (c_cons d_int c_nil)))) (a_cons (d_call D_law_take hr (Nat.le_trans (by decide : 1 ≤ 1) hj) hgd (by rfl) (c_io 0 (c_cons d_int c_nil))) a_nil)))) (d_callTy call_int1 v_int1 (by rfl) T.z_int (by decide +kernel) (a_cons (d_cmp (op_eqA hr.units) v_eq (d_var 9) d_str (nomark _)) a_nil)) (fun _ _ => rfl)) (a_cons (d_call D_law_maker hr (Nat.le_refl _) hgd (by rfl) (c_io 0 (c_cons (d_op op_sub v_int (d_var 1) d_int) (c_cons (d_var 2) c_nil)))) a_nil))))))) dss_nil)
    (dss_cons (ds_set (i := 5) nd rfl (by first | exact Or.inl rfl | exact Or.inr rfl) (d_frz (o_lst (a_cons d_int (a_cons d_int (a_cons d_int (a_cons d_int (a_cons d_int (a_cons d_int (a_cons d_int a_nil))))))))))
    (dss_cons (ds_setLc (i := 6) rfl nd rfl rfl (sw_true rfl rfl rfl (by decide +kernel)) (di_range2 (by rfl) T.z_range (a_cons d_int (a_cons d_int a_nil))) (blkOk_by (own := [("_law_wide", 7)]) (N := N_law_maker) (sc := defScope s_law_maker) (by decide +kernel)) rfl (fun _ _ _ _ _ => pg_name (i := 7) nd rfl (by first | exact Or.inl rfl | exact Or.inr rfl)) (fun _ _ _ _ _ => (dts_one (dt_cmp op_le v_intB (d_ixv 5 (d_var 7) (fun _ _ => rfl)) (d_callB (call_max2 rfl) v_max2 (by rfl) T.z_max (by decide +kernel) (a_cons (d_var 2) (a_cons d_int a_nil))) (nomark _)))) (fun _ _ _ _ _ => (d_var 7)))
    (dss_cons (ds_set (i := 7) nd rfl (by first | exact Or.inl rfl | exact Or.inr rfl) (d_ixv 6 (d_call D_law_take hr (Nat.le_trans (by decide : 1 ≤ 1) hj) hgd (by rfl) (c_io 0 (c_cons (d_lenv 6 (by rfl) T.z_len) c_nil))) (fun _ _ => rfl)))
    (dss_cons (ds_if (dt_cmp (op_eqA hr.units) v_eq (d_var 3) d_int (nomark _)) (dss_one (ds_ret (d_tup (a_cons d_str (a_cons (d_var 7) (a_cons (d_call D_law_take hr (Nat.le_trans (by decide : 1 ≤ 1) hj) hgd (by rfl) (c_io 0 (c_cons (d_ixv 5 (d_var 7) (fun _ _ => rfl)) c_nil))) a_nil)))))) dss_nil)
    (dss_cons (ds_if (DW.dt (dw_and (dt_cmp (op_eqA hr.units) v_eq (d_var 3) d_int (nomark _)) (dw_and1 (dt_cmp op_gt v_intB (d_var 7) d_int (nomark _))))) (dss_cons (ds_set (i := 10) nd rfl (by first | exact Or.inl rfl | exact Or.inr rfl) (d_op op_addA v_add (d_ixv 5 (d_op op_sub v_int (d_var 7) d_int) (fun _ _ => rfl)) (d_call D_law_take hr (Nat.le_trans (by decide : 1 ≤ 1) hj) hgd (by rfl) (c_io 0 (c_cons (d_ixv 5 (d_op op_sub v_int (d_var 7) d_int) (fun _ _ => rfl)) c_nil)))))
    (dss_one (ds_ret (d_tup (a_cons d_str (a_cons (d_var 7) (a_cons (d_var 10) (a_cons (d_op op_addA v_add d_int (d_call D_law_take hr (Nat.le_trans (by decide : 1 ≤ 1) hj) hgd (by rfl) (c_io 0 (c_cons (d_op op_sub v_int (d_ixv 5 (d_var 7) (fun _ _ => rfl)) d_int) c_nil)))) a_nil)))))))) dss_nil)
    (dss_cons (ds_if (dt_cmp (op_eqA hr.units) v_eq (d_var 3) d_int (nomark _)) (dss_one (ds_ret (d_tup (a_cons d_str (a_cons (d_callTy call_tuple_of v_tup (by rfl) T.z_tuple (by decide +kernel) (a_cons (d_frz (o_comp rfl nd (di_range1 (by rfl) T.z_range (a_cons (d_var 4) a_nil)) (blkOk_by (own := [("_law_k", 12)]) (N := N_law_maker) (sc := defScope s_law_maker) (by decide +kernel)) rfl (fun _ _ _ _ _ => pg_name (i := 12) nd rfl (by first | exact Or.inl rfl | exact Or.inr rfl)) (fun _ _ _ _ _ => dts_nil) (fun _ _ _ _ _ => (d_call D_law_take hr (Nat.le_trans (by decide : 1 ≤ 1) hj) hgd (by rfl) (c_io 0 (c_cons (d_ix (d_frz (o_lst (a_cons d_int (a_cons d_int a_nil)))) (d_call D_law_take hr (Nat.le_trans (by decide : 1 ≤ 1) hj) hgd (by rfl) (c_io 0 (c_cons d_int c_nil))) (fun _ _ => rfl)) c_nil)))))) a_nil)) a_nil))))) dss_nil)
    (dss_cons (ds_setLc (i := 8) rfl nd rfl rfl (sw_true rfl rfl rfl (by decide +kernel)) (di_range2 (by rfl) T.z_range (a_cons d_int (a_cons (d_op op_addA v_add (d_var 4) d_int) a_nil))) (blkOk_by (own := [("_law_step", 11)]) (N := N_law_maker) (sc := defScope s_law_maker) (by decide +kernel)) rfl (fun _ _ _ _ _ => pg_name (i := 11) nd rfl (by first | exact Or.inl rfl | exact Or.inr rfl)) (fun _ _ _ _ _ => (dts_one (dt_tru (d_call D_law_alone hr (Nat.le_trans (by decide : 1 ≤ 1) hj) hgd (by rfl) (c_cons (d_var 11) (c_cons (d_var 4) c_nil)))))) (fun _ _ _ _ _ => (d_var 11)))
    (dss_one (ds_ret (d_tup (a_cons d_str (a_cons (d_var 4) (a_cons (d_ixv 8 (d_call D_law_take hr (Nat.le_trans (by decide : 1 ≤ 1) hj) hgd (by rfl) (c_io 0 (c_cons (d_lenv 8 (by rfl) T.z_len) c_nil))) (fun _ _ => rfl)) (a_cons (d_call D_law_take hr (Nat.le_trans (by decide : 1 ≤ 1) hj) hgd (by rfl) (c_io 0 (c_cons (d_var 4) c_nil))) a_nil))))))))))))))))) h
def N_law_machine : List Str := ["_law_box_here", "_law_many", "_law_most", "_law_loops", "_law_pieces", "_law_bare", "_law_number_here", "_law_way", "_law_a", "_law_b", "_law_c", "_law_top", "_law_some", "_law_size", "_law_high", "_law_maker_here", "_law_turn"]
theorem sc_law_machine : FnScope N_law_machine ["_law_box_here", "_law_many", "_law_most", "_law_loops"] (defScope s_law_machine) := ⟨rfl, rfl, rfl, by decide +kernel, rfl, by decide +kernel, by decide +kernel⟩
theorem w_law_machine (T : Txt w K mg) {sp_law_maker : DSp} {sp_law_take : DSp} {sp : DSp} (D_law_maker : Def P w K mg base 5 "_law_maker" 3 sp_law_maker) (D_law_take : Def P w K mg base 1 "_law_take" 2 sp_law_take) (h : ∀ cs post, cs.length = 4 → sp cs post → runD 17 (b_law_machine sp_law_maker sp_law_take) cs post) : Def P w K mg base 6 "_law_machine" 4 sp :=
  def_of (N := N_law_machine) T.i_law_machine sc_law_machine (by decide) (fun f cdv A outer s H hr hgd => by
    have nd : N_law_machine.Nodup := sc_law_machine.nd
    exact (dss_cons (ds_parX (i := 4) (j := 5) rfl nd rfl rfl (by decide) rfl rfl (x_own (o_lst a_nil) (x_cons (d_op op_mulA v_mul (d_ix (d_frz (o_lst (a_cons d_int (a_cons d_int (a_cons d_int (a_cons d_int (a_cons d_int (a_cons d_int (a_cons d_int (a_cons d_int a_nil)))))))))) (d_call D_law_take hr (by decide) hgd (by rfl) (c_io 0 (c_cons d_int c_nil))) (fun _ _ => rfl)) (d_callTy call_int1 v_int1 (by rfl) T.z_int (by decide +kernel) (a_cons (d_var 3) a_nil))) x_nil)) (by rfl))
    (dss_cons (ds_for PassesOwn.never rfl (di_range1 (by rfl) T.z_range (a_cons (d_var 1) a_nil)) (dg_name (i := 6) nd rfl (by first | exact Or.inl rfl | exact Or.inr rfl)) (dss_cons (ds_set (i := 7) nd rfl (by first | exact Or.inl rfl | exact Or.inr rfl) (d_call D_law_take hr (by decide) hgd (by rfl) (c_io 0 (c_cons d_int c_nil))))
    (dss_cons (ds_if (DW.dt (dw_or (DW.dt (dw_and (dt_cmp (op_eqA hr.units) v_eq (d_var 5) d_int (nomark _)) (dw_and1 (dt_not (dt_chain op_le v_intB op_lt v_intB d_int (d_var 7) d_int))))) (dw_or1 (DW.dt (dw_and (dt_cmp op_gt v_intB (d_var 5) d_int (nomark _)) (dw_and1 (dt_cmp (op_eqA hr.units) v_eq (d_var 6) d_int (nomark _)))))))) (dss_one (ds_set (i := 7) nd rfl (by first | exact Or.inl rfl | exact Or.inr rfl) (d_op op_addA v_add d_int (d_op op_mod v_intC (d_var 7) (d_ix (d_frz (o_lst (a_cons d_int (a_cons d_int (a_cons d_int a_nil))))) (d_var 5) (fun _ _ => rfl)))))) dss_nil)
    (dss_cons (ds_if (DW.dt (dw_or (DW.dt (dw_and (dt_cmp (op_eqA hr.units) v_eq (d_var 6) d_int (nomark _)) (dw_and1 (dt_cmp (op_eqA hr.units) v_eq (d_var 5) d_int (nomark _))))) (dw_or1 (dt_cmp op_lt v_intB (d_var 7) d_int (nomark _))))) (dss_cons (ds_set (i := 11) nd rfl (by first | exact Or.inl rfl | exact Or.inr rfl) (d_ix (d_frz (o_lst (a_cons (d_op op_addA v_add (d_var 2) d_int) (a_cons d_int a_nil)))) (d_callTy call_int1 v_int1 (by rfl) T.z_int (by decide +kernel) (a_cons (d_cmp (op_eqA hr.units) v_eq (d_call D_law_take hr (by decide) hgd (by rfl) (c_io 0 (c_cons d_int c_nil))) d_int (nomark _)) a_nil)) (fun _ _ => rfl)))
    (dss_cons (ds_expr (d_append 4 (a_cons (d_tup (a_cons d_str (a_cons (d_call D_law_maker hr (by decide) hgd (by rfl) (c_io 0 (c_cons (d_call D_law_take hr (by decide) hgd (by rfl) (c_io 0 (c_cons d_int c_nil))) (c_cons (d_var 2) c_nil)))) (a_cons (d_call D_law_take hr (by decide) hgd (by rfl) (c_io 0 (c_cons (d_callB (call_min2 rfl) v_min2 (by rfl) T.z_min (by decide +kernel) (a_cons d_int (a_cons (d_var 11) a_nil))) c_nil))) a_nil)))) a_nil)))
    (dss_one ds_continue))) dss_nil)
    (dss_cons (ds_asg (d_frz (o_comp rfl nd (di_range1 (by rfl) T.z_range (a_cons d_int a_nil)) (blkOk_by (own := [("_law_turn", 16)]) (N := N_law_machine) (sc := defScope s_law_machine) (by decide +kernel)) rfl (fun _ _ _ _ _ => pg_name (i := 16) nd rfl (by first | exact Or.inl rfl | exact Or.inr rfl)) (fun _ _ _ _ _ => dts_nil) (fun _ _ _ _ _ => (d_call D_law_take hr (by decide) hgd (by rfl) (c_io 0 (c_cons (d_callB (call_max2 rfl) v_max2 (by rfl) T.z_max (by decide +kernel) (a_cons d_int (a_cons (d_var 6) a_nil))) c_nil)))))) (dg_tup' (n := 3) rfl (dgs_cons (dg_name (i := 8) nd rfl (by first | exact Or.inl rfl | exact Or.inr rfl)) (dgs_cons (dg_name (i := 9) nd rfl (by first | exact Or.inl rfl | exact Or.inr rfl)) (dgs_cons (dg_name (i := 10) nd rfl (by first | exact Or.inl rfl | exact Or.inr rfl)) dgs_nil)))))
    (dss_cons (ds_if (dt_cmp op_lt v_intB (d_var 7) d_int (nomark _)) (dss_cons (ds_set (i := 12) nd rfl (by first | exact Or.inl rfl | exact Or.inr rfl) (d_frz (o_lst (a_cons (d_tup (a_cons d_str (a_cons (d_var 8) a_nil))) (a_cons (d_tup (a_cons d_str (a_cons (d_var 8) (a_cons (d_var 9) a_nil)))) (a_cons (d_tup (a_cons d_str (a_cons (d_var 8) (a_cons (d_var 9) a_nil)))) (a_cons (d_tup (a_cons d_str (a_cons (d_var 8) (a_cons (d_var 9) a_nil)))) (a_cons (d_tup (a_cons d_str (a_cons (d_var 8) (a_cons (d_var 9) (a_cons (d_var 10) a_nil))))) a_nil))))))))
    (dss_cons (ds_expr (d_append 4 (a_cons (d_ix (d_op op_addA v_add (d_var 12) (d_frz (o_lst (a_cons (d_tup (a_cons d_str (a_cons (d_var 8) (a_cons (d_var 9) (a_cons (d_op op_mod v_intC (d_var 10) d_int) a_nil))))) a_nil)))) (d_op op_sub v_int (d_var 7) d_int) (fun _ _ => rfl)) a_nil)))
    (dss_one ds_continue))) dss_nil)
    (dss_cons (ds_asg (d_frz (o_comp rfl nd (di_range1 (by rfl) T.z_range (a_cons d_int a_nil)) (blkOk_by (own := [("_law_turn", 16)]) (N := N_law_machine) (sc := defScope s_law_machine) (by decide +kernel)) rfl (fun _ _ _ _ _ => pg_name (i := 16) nd rfl (by first | exact Or.inl rfl | exact Or.inr rfl)) (fun _ _ _ _ _ => dts_nil) (fun _ _ _ _ _ => (d_call D_law_take hr (by decide) hgd (by rfl) (c_io 0 (c_cons (d_if (dt_tru (d_var 3)) (d_var 1) (d_var 6)) c_nil)))))) (dg_tup' (n := 2) rfl (dgs_cons (dg_name (i := 8) nd rfl (by first | exact Or.inl rfl | exact Or.inr rfl)) (dgs_cons (dg_name (i := 9) nd rfl (by first | exact Or.inl rfl | exact Or.inr rfl)) dgs_nil))))
    (dss_one (ds_if (dt_cmp op_lt v_intB (d_var 7) d_int (nomark _)) (dss_cons (ds_set (i := 13) nd rfl (by first | exact Or.inl rfl | exact Or.inr rfl) (d_op op_addA v_add d_int (d_call D_law_take hr (by decide) hgd (by rfl) (c_io 0 (c_cons (d_ix (d_frz (o_lst (a_cons d_int (a_cons d_int a_nil)))) (d_op op_sub v_int (d_var 7) d_int) (fun _ _ => rfl)) c_nil)))))
    (dss_one (ds_expr (d_append 4 (a_cons (d_tup (a_cons d_str (a_cons (d_var 8) (a_cons (d_callTy call_tuple_of v_tup (by rfl) T.z_tuple (by decide +kernel) (a_cons (d_frz (o_comp rfl nd (di_range1 (by rfl) T.z_range (a_cons (d_var 13) a_nil)) (blkOk_by (own := [("_law_turn", 16)]) (N := N_law_machine) (sc := defScope s_law_machine) (by decide +kernel)) rfl (fun _ _ _ _ _ => pg_name (i := 16) nd rfl (by first | exact Or.inl rfl | exact Or.inr rfl)) (fun _ _ _ _ _ => dts_nil) (fun _ _ _ _ _ => (d_call D_law_take hr (by decide) hgd (by rfl) (c_io 0 (c_cons d_int c_nil)))))) a_nil)) a_nil)))) a_nil))))) (dss_cons (ds_set (i := 14) nd rfl (by first | exact Or.inl rfl | exact Or.inr rfl) (d_ix (d_frz (o_lst (a_cons d_int (a_cons d_int (a_cons (d_op op_addA v_add d_int (d_call D_law_take hr (by decide) hgd (by rfl) (c_io 0 (c_cons d_int c_nil)))) (a_cons (d_op op_addA v_add d_int (d_call D_law_take hr (by decide) hgd (by rfl) (c_io 0 (c_cons d_int c_nil)))) a_nil)))))) (d_call D_law_take hr (by decide) hgd (by rfl) (c_io 0 (c_cons d_int c_nil))) (fun _ _ => rfl)))
    (dss_cons (ds_set (i := 15) nd rfl (by first | exact Or.inl rfl | exact Or.inr rfl) (d_call D_law_maker hr (by decide) hgd (by rfl) (c_io 0 (c_cons (d_call D_law_take hr (by decide) hgd (by rfl) (c_io 0 (c_cons d_int c_nil))) (c_cons (d_var 2) c_nil)))))
    (dss_one (ds_expr (d_append 4 (a_cons (d_tup (a_cons d_str (a_cons (d_var 8) (a_cons (d_var 9) (a_cons (d_var 15) (a_cons (d_var 14) (a_cons (d_call D_law_take hr (by decide) hgd (by rfl) (c_io 0 (c_cons (d_op op_addA v_add (d_var 14) d_int) c_nil))) a_nil))))))) a_nil)))))))))))))))
    (dss_one (ds_ret (d_callTy call_tuple_of v_tup (by rfl) T.z_tuple (by decide +kernel) (a_cons (d_var 4) a_nil))))))) h
def N_law_number : List Str := ["_law_thing_here", "_law_least", "_law_most"]
theorem sc_law_number : FnScope N_law_number ["_law_thing_here", "_law_least", "_law_most"] (defScope s_law_number) := ⟨rfl, rfl, rfl, by decide +kernel, rfl, by decide +kernel, by decide +kernel⟩
theorem w_law_number (T : Txt w K mg) {sp : DSp} (h : ∀ cs post, cs.length = 3 → sp cs post → runD 3 (b_law_number) cs post) : Def P w K mg base 1 "_law_number" 3 sp :=
  def_of (N := N_law_number) T.i_law_number sc_law_number (by decide) (fun f cdv A outer s H hr hgd => by
    have nd : N_law_number.Nodup := sc_law_number.nd
    exact (dss_one (ds_ret (d_and (d_isi .int (d_var 0) (by rfl) T.z_isinstance (by decide +kernel) (by rfl) T.z_int (by decide +kernel) (by decide) (by decide)) (d_and (d_not (d_isi .bool (d_var 0) (by rfl) T.z_isinstance (by decide +kernel) (by rfl) T.z_bool (by decide +kernel) (by decide) (by decide))) (d_one (d_chain op_le v_intB op_le v_intB (d_var 1) (d_var 0) (d_var 2)))))))) h
def N_law_all : List Str := ["_law_things", "_law_least", "_law_most", "_law_thing_here"]
theorem sc_law_all : FnScope N_law_all ["_law_things", "_law_least", "_law_most"] (defScope s_law_all) := ⟨rfl, rfl, rfl, by decide +kernel, rfl, by decide +kernel, by decide +kernel⟩
theorem w_law_all (T : Txt w K mg) {sp_law_number : DSp} {sp : DSp} (D_law_number : Def P w K mg base 1 "_law_number" 3 sp_law_number) (h : ∀ cs post, cs.length = 3 → sp cs post → runD 4 (b_law_all sp_law_number) cs post) : Def P w K mg base 2 "_law_all" 3 sp :=
  def_of (N := N_law_all) T.i_law_all sc_law_all (by decide) (fun f cdv A outer s H hr hgd => by
    have nd : N_law_all.Nodup := sc_law_all.nd
    exact (dss_one (ds_ret (d_callB (cr_all rfl) v_all (by rfl) T.z_all (by decide +kernel) (a_cons (d_frz (o_comp rfl nd (di_any (d_var 0)) (blkOk_by (own := [("_law_thing_here", 3)]) (N := N_law_all) (sc := defScope s_law_all) (by decide +kernel)) rfl (fun _ _ _ _ _ => pg_name (i := 3) nd rfl (by first | exact Or.inl rfl | exact Or.inr rfl)) (fun _ _ _ _ _ => dts_nil) (fun _ _ _ _ _ => (d_call D_law_number hr (by decide) hgd (by rfl) (c_cons (d_var 3) (c_cons (d_var 1) (c_cons (d_var 2) c_nil))))))) a_nil))))) h
def N_law_is_piece : List Str := ["_law_thing_here", "_law_ahead", "_law_many", "_law_sizes"]
theorem sc_law_is_piece : FnScope N_law_is_piece ["_law_thing_here", "_law_ahead", "_law_many"] (defScope s_law_is_piece) := ⟨rfl, rfl, rfl, by decide +kernel, rfl, by decide +kernel, by decide +kernel⟩
theorem w_law_is_piece (T : Txt w K mg) {sp_law_all : DSp} {sp_law_number : DSp} {sp_is_maker : DSp} {sp : DSp} (D_law_all : Def P w K mg base 2 "_law_all" 3 sp_law_all) (D_law_number : Def P w K mg base 1 "_law_number" 3 sp_law_number) (D_is_maker : Def P w K mg base 8 "is_maker" 1 sp_is_maker) (h : ∀ cs post, cs.length = 3 → sp cs post → runD 4 (b_law_is_piece sp_law_all sp_law_number sp_is_maker) cs post) : Def P w K mg base 9 "_law_is_piece" 3 sp :=
  def_of (N := N_law_is_piece) T.i_law_is_piece sc_law_is_piece (by decide) (fun f cdv A outer s H hr hgd => by
    have nd : N_law_is_piece.Nodup := sc_law_is_piece.nd
    exact (dss_cons (ds_if (DW.dt (dw_or (dt_not (dt_tru (d_isi .tuple (d_var 0) (by rfl) T.z_isinstance (by decide +kernel) (by rfl) T.z_tuple (by decide +kernel) (by decide) (by decide)))) (dw_or (dt_cmp (op_eqA hr.units) v_eq (d_lenv 0 (by rfl) T.z_len) d_int (nomark _)) (dw_or1 (dt_not (dt_tru (d_isi .str (d_ixv 0 d_int (fun _ _ => rfl)) (by rfl) T.z_isinstance (by decide +kernel) (by rfl) T.z_str (by decide +kernel) (by decide) (by decide)))))))) (dss_one (ds_ret d_bl)) dss_nil)
    (dss_cons (ds_set (i := 3) nd rfl (by first | exact Or.inl rfl | exact Or.inr rfl) (d_dict (ddk_cons d_str d_int (ddk_cons d_str d_int (ddk_cons d_str d_int (ddk_cons d_str d_int (ddk_cons d_str d_int (ddk_cons d_str d_int (ddk_cons d_str d_int (ddk_cons d_str d_int (ddk_cons d_str d_int ddk_nil)))))))))))
    (dss_cons (ds_if (dt_cmp (op_neA hr.units) v_ne (d_lenv 0 (by rfl) T.z_len) (d_getK (units1 hr) (d_var 3) (d_ixv 0 d_int (fun _ _ => rfl)) d_int) (nomark _)) (dss_one (ds_ret d_bl)) dss_nil)
    (dss_cons (ds_if (dt_cmp (op_eqA hr.units) v_eq (d_ixv 0 d_int (fun _ _ => rfl)) d_str (nomark _)) (dss_one (ds_ret (d_and (d_cmp op_isA v_is (d_call D_is_maker hr (by decide) hgd (by rfl) (c_cons (d_ixv 0 d_int (fun _ _ => rfl)) c_nil)) d_bl (nomark _)) (d_one (d_call D_law_number hr (by decide) hgd (by rfl) (c_cons (d_ixv 0 d_int (fun _ _ => rfl)) (c_cons d_int (c_cons d_int c_nil)))))))) dss_nil)
    (dss_cons (ds_if (dt_cmp (op_eqA hr.units) v_eq (d_ixv 0 d_int (fun _ _ => rfl)) d_str (nomark _)) (dss_one (ds_ret (d_and (d_call D_law_all hr (by decide) hgd (by rfl) (c_cons (d_slv 0 (dp_some d_int) (dp_some d_int)) (c_cons d_int (c_cons (d_op op_sub v_int (d_var 1) d_int) c_nil)))) (d_one (d_call D_law_number hr (by decide) hgd (by rfl) (c_cons (d_ixv 0 d_int (fun _ _ => rfl)) (c_cons d_int (c_cons d_int c_nil)))))))) dss_nil)
    (dss_cons (ds_if (dt_cmp (op_eqA hr.units) v_eq (d_ixv 0 d_int (fun _ _ => rfl)) d_str (nomark _)) (dss_cons (ds_if (DW.dt (dw_or (dt_not (dt_tru (d_isi .tuple (d_ixv 0 d_int (fun _ _ => rfl)) (by rfl) T.z_isinstance (by decide +kernel) (by rfl) T.z_tuple (by decide +kernel) (by decide) (by decide)))) (dw_or1 (dt_not (dt_chain op_le v_intB op_le v_intB d_int (d_callB call_len v_len (by rfl) T.z_len (by decide +kernel) (a_cons (d_ixv 0 d_int (fun _ _ => rfl)) a_nil)) d_int))))) (dss_one (ds_ret d_bl)) dss_nil)
    (dss_one (ds_ret (d_and (d_call D_law_number hr (by decide) hgd (by rfl) (c_cons (d_ixv 0 d_int (fun _ _ => rfl)) (c_cons d_int (c_cons (d_op op_sub v_int (d_var 2) d_int) c_nil)))) (d_one (d_call D_law_all hr (by decide) hgd (by rfl) (c_cons (d_ixv 0 d_int (fun _ _ => rfl)) (c_cons d_int (c_cons d_int c_nil))))))))) dss_nil)
    (dss_cons (ds_if (dt_cmp (op_eqA hr.units) v_eq (d_ixv 0 d_int (fun _ _ => rfl)) d_str (nomark _)) (dss_cons (ds_if (DW.dt (dw_or (dt_not (dt_tru (d_call D_law_all hr (by decide) hgd (by rfl) (c_cons (d_slv 0 (dp_some d_int) (dp_some d_int)) (c_cons d_int (c_cons (d_op op_sub v_int (d_var 2) d_int) c_nil)))))) (dw_or1 (dt_cmp op_isNA v_isN (d_call D_is_maker hr (by decide) hgd (by rfl) (c_cons (d_ixv 0 d_int (fun _ _ => rfl)) c_nil)) d_bl (nomark _))))) (dss_one (ds_ret d_bl)) dss_nil)
    (dss_one (ds_ret (d_and (d_call D_law_number hr (by decide) hgd (by rfl) (c_cons (d_ixv 0 d_int (fun _ _ => rfl)) (c_cons d_int (c_cons d_int c_nil)))) (d_one (d_call D_law_number hr (by decide) hgd (by rfl) (c_cons (d_ixv 0 d_int (fun _ _ => rfl)) (c_cons d_int (c_cons (d_ixv 0 d_int (fun _ _ => rfl)) c_nil))))))))) dss_nil)
    (dss_one (ds_ret (d_call D_law_all hr (by decide) hgd (by rfl) (c_cons (d_slv 0 (dp_some d_int) dp_no) (c_cons d_int (c_cons (d_op op_sub v_int (d_var 1) d_int) c_nil)))))))))))))) h
def N_law_due : List Str := ["_law_thing_here", "_law_ahead", "_law_piece"]
theorem sc_law_due : FnScope N_law_due ["_law_thing_here"] (defScope s_law_due) := ⟨rfl, rfl, rfl, by decide +kernel, rfl, by decide +kernel, by decide +kernel⟩
theorem w_law_due (T : Txt w K mg) {sp_law_is_piece : DSp} {sp : DSp} (D_law_is_piece : Def P w K mg base 9 "_law_is_piece" 3 sp_law_is_piece) (h : ∀ cs post, cs.length = 1 → sp cs post → runD 3 (b_law_due sp_law_is_piece) cs post) : Def P w K mg base 10 "_law_due" 1 sp :=
  def_of (N := N_law_due) T.i_law_due sc_law_due (by decide) (fun f cdv A outer s H hr hgd => by
    have nd : N_law_due.Nodup := sc_law_due.nd
    exact (dss_cons (ds_if (DW.dt (dw_or (dt_not (dt_tru (d_isi .tuple (d_var 0) (by rfl) T.z_isinstance (by decide +kernel) (by rfl) T.z_tuple (by decide +kernel) (by decide) (by decide)))) (dw_or1 (dt_not (dt_chain op_le v_intB op_le v_intB d_int (d_lenv 0 (by rfl) T.z_len) d_int))))) (dss_one (ds_ret d_bl)) dss_nil)
    (dss_one (ds_ret (d_callB (cr_all rfl) v_all (by rfl) T.z_all (by decide +kernel) (a_cons (d_frz (o_comp rfl nd (di_enum' (by rfl) T.z_enumerate (a_cons (d_var 0) a_nil)) (blkOk_by (own := [("_law_ahead", 1), ("_law_piece", 2)]) (N := N_law_due) (sc := defScope s_law_due) (by decide +kernel)) rfl (fun _ _ _ _ _ => pg_tup rfl (pgs_cons (pg_name (i := 1) nd rfl (by first | exact Or.inl rfl | exact Or.inr rfl)) (pgs_cons (pg_name (i := 2) nd rfl (by first | exact Or.inl rfl | exact Or.inr rfl)) pgs_nil))) (fun _ _ _ _ _ => dts_nil) (fun _ _ _ _ _ => (d_call D_law_is_piece hr (by decide) hgd (by rfl) (c_cons (d_var 2) (c_cons (d_var 1) (c_cons (d_lenv 0 (by rfl) T.z_len) c_nil))))))) a_nil)))))) h
def N_law_thing : List Str := ["_law_box_here", "_law_part", "_law_way", "_law_few", "_law_bounds", "_law_words"]
theorem sc_law_thing : FnScope N_law_thing ["_law_box_here", "_law_part"] (defScope s_law_thing) := ⟨rfl, rfl, rfl, by decide +kernel, rfl, by decide +kernel, by decide +kernel⟩
theorem w_law_thing (T : Txt w K mg) {sp_law_take : DSp} {sp : DSp} (D_law_take : Def P w K mg base 1 "_law_take" 2 sp_law_take) (h : ∀ cs post, cs.length = 2 → sp cs post → runD 6 (b_law_thing sp_law_take) cs post) : Def P w K mg base 2 "_law_thing" 2 sp :=
  def_of (N := N_law_thing) T.i_law_thing sc_law_thing (by decide) (fun f cdv A outer s H hr hgd => by
    have nd : N_law_thing.Nodup := sc_law_thing.nd
    exact (dss_cons (ds_par (i := 2) (j := 3) rfl nd rfl rfl (by decide) rfl rfl (a_cons (d_call D_law_take hr (by decide) hgd (by rfl) (c_io 0 (c_cons d_int c_nil))) (a_cons (d_call D_law_take hr (by decide) hgd (by rfl) (c_io 0 (c_cons d_int c_nil))) a_nil)) (by rfl))
    (dss_cons (ds_if (DW.dt (dw_and (dt_tru (d_isi .int (d_var 1) (by rfl) T.z_isinstance (by decide +kernel) (by rfl) T.z_int (by decide +kernel) (by decide) (by decide))) (dw_and (dt_not (dt_tru (d_isi .bool (d_var 1) (by rfl) T.z_isinstance (by decide +kernel) (by rfl) T.z_bool (by decide +kernel) (by decide) (by decide)))) (dw_and1 (dt_cmp op_lt v_intB (d_var 2) d_int (nomark _)))))) (dss_cons (ds_set (i := 4) nd rfl (by first | exact Or.inl rfl | exact Or.inr rfl) (d_frz (o_lst (a_cons d_int (a_cons d_int (a_cons d_int (a_cons d_int (a_cons d_int (a_cons d_int (a_cons d_int (a_cons d_int (a_cons d_int (a_cons d_int (a_cons d_int (a_cons d_int (a_cons d_int (a_cons d_int (a_cons d_int (a_cons d_int (a_cons d_int (a_cons d_int a_nil)))))))))))))))))))))
    (dss_one (ds_ret (d_ix (d_frz (o_lst (a_cons (d_op op_sub v_int (d_var 1) d_int) (a_cons (d_op op_addA v_add (d_var 1) d_int) (a_cons (d_op op_sub v_int d_int (d_var 1)) (a_cons (d_op op_addA v_add (d_op op_mulA v_mul (d_var 1) d_int) d_int) (a_cons (d_ixv 4 (d_var 3) (fun _ _ => rfl)) a_nil))))))) (d_var 2) (fun _ _ => rfl))))) dss_nil)
    (dss_cons (ds_if (DW.dt (dw_and (dt_tru (d_isi .str (d_var 1) (by rfl) T.z_isinstance (by decide +kernel) (by rfl) T.z_str (by decide +kernel) (by decide) (by decide))) (dw_and1 (dt_cmp op_lt v_intB (d_var 2) d_int (nomark _))))) (dss_cons (ds_set (i := 5) nd rfl (by first | exact Or.inl rfl | exact Or.inr rfl) (d_frz (o_lst (a_cons d_str (a_cons d_str (a_cons d_str (a_cons d_str (a_cons d_str (a_cons d_str (a_cons d_str (a_cons d_str (a_cons d_str (a_cons d_str (a_cons d_str a_nil))))))))))))))
    (dss_one (ds_ret (d_ix (d_op op_addA v_add (d_var 5) (d_frz (o_lst (a_cons d_str (a_cons d_str (a_cons d_str (a_cons d_str (a_cons d_str (a_cons (d_op op_addA v_add (d_var 1) d_str) (a_cons (d_slv 1 dp_no (dp_some (d_un un_neg v_neg d_int))) a_nil)))))))))) (d_var 3) (fun _ _ => rfl))))) dss_nil)
    (dss_cons (ds_if (DW.dt (dw_and (dt_tru (d_isi .tuple (d_var 1) (by rfl) T.z_isinstance (by decide +kernel) (by rfl) T.z_tuple (by decide +kernel) (by decide) (by decide))) (dw_and1 (dt_cmp op_lt v_intB (d_var 2) d_int (nomark _))))) (dss_one (ds_ret (d_ix (d_frz (o_lst (a_cons (d_frz (o_list (d_var 1) (by rfl) T.z_list (by decide +kernel))) (a_cons (d_slv 1 (dp_some d_int) dp_no) (a_cons (d_op op_addA v_add (d_var 1) (d_slv 1 dp_no (dp_some d_int))) a_nil))))) (d_var 2) (fun _ _ => rfl)))) dss_nil)
    (dss_one (ds_ret (d_ix (d_frz (o_lst (a_cons d_non (a_cons d_bl (a_cons d_bl (a_cons d_str (a_cons (d_tup a_nil) (a_cons (d_frz (o_lst a_nil)) (a_cons (d_tup (a_cons d_int a_nil)) (a_cons (d_tup (a_cons d_str (a_cons d_int a_nil))) (a_cons (d_un un_neg v_neg d_int) (a_cons (d_tup (a_cons d_str (a_cons d_int (a_cons d_int (a_cons d_int a_nil))))) (a_cons d_int a_nil))))))))))))) (d_op op_mod v_intC (d_op op_addA v_add (d_var 2) (d_op op_mulA v_mul d_int (d_var 3))) d_int) (fun _ _ => rfl))))))))) h
def N_law_spoilt : List Str := ["_law_box_here", "_law_thing_here", "_law_way", "_law_at", "_law_deep", "_law_other", "_law_low", "_law_high"]
theorem sc_law_spoilt : FnScope N_law_spoilt ["_law_box_here", "_law_thing_here"] (defScope s_law_spoilt) := ⟨rfl, rfl, rfl, by decide +kernel, rfl, by decide +kernel, by decide +kernel⟩
theorem w_law_spoilt {j : Nat} (hj : 2 ≤ j) (T : Txt w K mg) {sp_law_spoilt : DSp} {sp_law_take : DSp} {sp_law_thing : DSp} {sp : DSp} (D_law_spoilt : Def P w K mg base j "_law_spoilt" 2 sp_law_spoilt) (D_law_take : Def P w K mg base 1 "_law_take" 2 sp_law_take) (D_law_thing : Def P w K mg base 2 "_law_thing" 2 sp_law_thing) (h : ∀ cs post, cs.length = 2 → sp cs post → runD 8 (b_law_spoilt sp_law_spoilt sp_law_take sp_law_thing) cs post) : Def P w K mg base (j + 1) "_law_spoilt" 2 sp :=
  def_of (N := N_law_spoilt) T.i_law_spoilt sc_law_spoilt (by decide) (fun f cdv A outer s H hr hgd => by
    have nd : N_law_spoilt.Nodup := sc_law_spoilt.nd
    exact (dss_cons (ds_par3' (i := 2) (j := 3) (l := 4) rfl nd rfl rfl rfl (by decide) (by decide) (by decide) rfl rfl rfl (a_cons (d_call D_law_take hr (Nat.le_trans (by decide : 1 ≤ 2) hj) hgd (by rfl) (c_io 0 (c_cons d_int c_nil))) (a_cons (d_call D_law_take hr (Nat.le_trans (by decide : 1 ≤ 2) hj) hgd (by rfl) (c_io 0 (c_cons (d_lenv 1 (by rfl) T.z_len) c_nil))) (a_cons (d_call D_law_take hr (Nat.le_trans (by decide : 1 ≤ 2) hj) hgd (by rfl) (c_io 0 (c_cons d_int c_nil))) a_nil))) (by rfl))
    (dss_cons (ds_if (DW.dt (dw_and (dt_tru (d_isi .tuple (d_ixv 1 (d_var 3) (fun _ _ => rfl)) (by rfl) T.z_isinstance (by decide +kernel) (by rfl) T.z_tuple (by decide +kernel) (by decide) (by decide))) (dw_and (dt_cmp op_gt v_intB (d_callB call_len v_len (by rfl) T.z_len (by decide +kernel) (a_cons (d_ixv 1 (d_var 3) (fun _ _ => rfl)) a_nil)) d_int (nomark _)) (dw_and1 (dt_cmp op_gt v_intB (d_var 4) d_int (nomark _)))))) (dss_one (ds_ret (d_op op_addA v_add (d_op op_addA v_add (d_slv 1 dp_no (dp_some (d_var 3))) (d_tup (a_cons (d_call D_law_spoilt hr (Nat.le_refl _) hgd (by rfl) (c_io 0 (c_cons (d_ixv 1 (d_var 3) (fun _ _ => rfl)) c_nil))) a_nil))) (d_slv 1 (dp_some (d_op op_addA v_add (d_var 3) d_int)) dp_no)))) dss_nil)
    (dss_cons (ds_if (dt_cmp (op_eqA hr.units) v_eq (d_var 2) d_int (nomark _)) (dss_one (ds_ret (d_op op_addA v_add (d_slv 1 dp_no (dp_some (d_var 3))) (d_slv 1 (dp_some (d_op op_addA v_add (d_var 3) d_int)) dp_no)))) dss_nil)
    (dss_cons (ds_if (dt_cmp (op_eqA hr.units) v_eq (d_var 2) d_int (nomark _)) (dss_one (ds_ret (d_op op_addA v_add (d_op op_addA v_add (d_slv 1 dp_no (dp_some (d_var 3))) (d_tup (a_cons (d_ixv 1 (d_var 3) (fun _ _ => rfl)) a_nil))) (d_slv 1 (dp_some (d_var 3)) dp_no)))) dss_nil)
    (dss_cons (ds_if (dt_cmp (op_eqA hr.units) v_eq (d_var 2) d_int (nomark _)) (dss_cons (ds_set (i := 5) nd rfl (by first | exact Or.inl rfl | exact Or.inr rfl) (d_call D_law_take hr (Nat.le_trans (by decide : 1 ≤ 2) hj) hgd (by rfl) (c_io 0 (c_cons (d_lenv 1 (by rfl) T.z_len) c_nil))))
    (dss_cons (ds_par (i := 6) (j := 7) rfl nd rfl rfl (by decide) rfl rfl (a_cons (d_callB (call_min2 rfl) v_min2 (by rfl) T.z_min (by decide +kernel) (a_cons (d_var 3) (a_cons (d_var 5) a_nil))) (a_cons (d_callB (call_max2 rfl) v_max2 (by rfl) T.z_max (by decide +kernel) (a_cons (d_var 3) (a_cons (d_var 5) a_nil))) a_nil)) (by rfl))
    (dss_one (ds_if (dt_cmp op_lt v_intB (d_var 6) (d_var 7) (nomark _)) (dss_one (ds_ret (d_op op_addA v_add (d_op op_addA v_add (d_op op_addA v_add (d_op op_addA v_add (d_slv 1 dp_no (dp_some (d_var 6))) (d_tup (a_cons (d_ixv 1 (d_var 7) (fun _ _ => rfl)) a_nil))) (d_slv 1 (dp_some (d_op op_addA v_add (d_var 6) d_int)) (dp_some (d_var 7)))) (d_tup (a_cons (d_ixv 1 (d_var 6) (fun _ _ => rfl)) a_nil))) (d_slv 1 (dp_some (d_op op_addA v_add (d_var 7) d_int)) dp_no)))) dss_nil)))) dss_nil)
    (dss_one (ds_ret (d_op op_addA v_add (d_op op_addA v_add (d_slv 1 dp_no (dp_some (d_var 3))) (d_tup (a_cons (d_call D_law_thing hr (Nat.le_trans (by decide : 2 ≤ 2) hj) hgd (by rfl) (c_io 0 (c_cons (d_ixv 1 (d_var 3) (fun _ _ => rfl)) c_nil))) a_nil))) (d_slv 1 (dp_some (d_op op_addA v_add (d_var 3) d_int)) dp_no)))))))))) h
def N_law_right : List Str := ["_law_thing_here", "_law_turn", "_law_found"]
theorem sc_law_right : FnScope N_law_right ["_law_thing_here"] (defScope s_law_right) := ⟨rfl, rfl, rfl, by decide +kernel, rfl, by decide +kernel, by decide +kernel⟩
theorem w_law_right (T : Txt w K mg) {sp_law_due : DSp} {sp_is_machine : DSp} {sp : DSp} (D_law_due : Def P w K mg base 10 "_law_due" 1 sp_law_due) (D_is_machine : Def P w K mg base 11 "is_machine" 1 sp_is_machine) (h : ∀ cs post, cs.length = 1 → sp cs post → runD 3 (b_law_right sp_law_due sp_is_machine) cs post) : Def P w K mg base 12 "_law_right" 1 sp :=
  def_of (N := N_law_right) T.i_law_right sc_law_right (by decide) (fun f cdv A outer s H hr hgd => by
    have nd : N_law_right.Nodup := sc_law_right.nd
    exact (dss_cons (ds_for PassesOwn.never rfl (di_range1 (by rfl) T.z_range (a_cons d_int a_nil)) (dg_name (i := 1) nd rfl (by first | exact Or.inl rfl | exact Or.inr rfl)) (dss_cons (ds_set (i := 2) nd rfl (by first | exact Or.inl rfl | exact Or.inr rfl) (d_call D_is_machine hr (by decide) hgd (by rfl) (c_cons (d_var 0) c_nil)))
    (dss_one (ds_if (DW.dt (dw_or (dt_not (dt_tru (d_isi .bool (d_var 2) (by rfl) T.z_isinstance (by decide +kernel) (by rfl) T.z_bool (by decide +kernel) (by decide) (by decide)))) (dw_or1 (dt_cmp (op_neA hr.units) v_ne (d_var 2) (d_call D_law_due hr (by decide) hgd (by rfl) (c_cons (d_var 0) c_nil)) (nomark _))))) (dss_one (ds_ret d_bl)) dss_nil))))
    (dss_one (ds_ret d_bl)))) h
def N_law : List Str := ["_law_script", "_law_cells", "_law_k", "_law_box_here", "_law_pieces", "_law_turn", "_law_thing_here"]
theorem sc_law : FnScope N_law ["_law_script"] (defScope s_law) := ⟨rfl, rfl, rfl, by decide +kernel, rfl, by decide +kernel, by decide +kernel⟩
theorem w_law (T : Txt w K mg) {sp_law_box : DSp} {sp_law_folded : DSp} {sp_law_machine : DSp} {sp_law_right : DSp} {sp_law_spoilt : DSp} {sp_law_take : DSp} {sp_is_machine : DSp} {sp : DSp} (D_law_box : Def P w K mg base 1 "_law_box" 2 sp_law_box) (D_law_folded : Def P w K mg base 1 "_law_folded" 2 sp_law_folded) (D_law_machine : Def P w K mg base 6 "_law_machine" 4 sp_law_machine) (D_law_right : Def P w K mg base 12 "_law_right" 1 sp_law_right) (D_law_spoilt : Def P w K mg base 12 "_law_spoilt" 2 sp_law_spoilt) (D_law_take : Def P w K mg base 1 "_law_take" 2 sp_law_take) (D_is_machine : Def P w K mg base 11 "is_machine" 1 sp_is_machine) (h : ∀ cs post, cs.length = 1 → sp cs post → runD 7 (b_law sp_law_box sp_law_folded sp_law_machine sp_law_right sp_law_spoilt sp_law_take sp_is_machine) cs post) : Def P w K mg base 13 "law" 1 sp :=
  def_of (N := N_law) T.i_law sc_law (by decide) (fun f cdv A outer s H hr hgd => by
    have nd : N_law.Nodup := sc_law.nd
    exact (dss_cons (ds_set (i := 1) nd rfl (by first | exact Or.inl rfl | exact Or.inr rfl) (d_call D_law_folded hr (by decide) hgd (by rfl) (c_cons (d_var 0) (c_cons d_int c_nil))))
    (dss_cons (ds_for PassesOwn.never rfl (di_range1 (by rfl) T.z_range (a_cons (d_callB (call_max2 rfl) v_max2 (by rfl) T.z_max (by decide +kernel) (a_cons d_int (a_cons (d_lenv 1 (by rfl) T.z_len) a_nil))) a_nil)) (dg_name (i := 2) nd rfl (by first | exact Or.inl rfl | exact Or.inr rfl)) (dss_cons (ds_setO (i := 3) nd rfl (by first | exact Or.inl rfl | exact Or.inr rfl) (o_call D_law_box hr (by decide) hgd (by rfl) (c_cons (d_var 1) (c_cons (d_var 2) c_nil))))
    (dss_cons (ds_set (i := 4) nd rfl (by first | exact Or.inl rfl | exact Or.inr rfl) (d_call D_law_machine hr (by decide) hgd (by rfl) (c_io 3 (c_cons (d_op op_addA v_add d_int (d_call D_law_take hr (by decide) hgd (by rfl) (c_io 3 (c_cons (d_if (dt_cmp (op_eqA hr.units) v_eq (d_call D_law_take hr (by decide) hgd (by rfl) (c_io 3 (c_cons d_int c_nil))) d_int (nomark _)) d_int d_int) c_nil)))) (c_cons d_int (c_cons d_bl c_nil))))))
    (dss_cons (ds_if (DW.dt (dw_or (dt_not (dt_tru (d_call D_law_right hr (by decide) hgd (by rfl) (c_cons (d_var 4) c_nil)))) (dw_or1 (dt_cmp op_isNA v_isN (d_call D_is_machine hr (by decide) hgd (by rfl) (c_cons (d_var 4) c_nil)) d_bl (nomark _))))) (dss_one (ds_ret d_bl)) dss_nil)
    (dss_cons (ds_for PassesOwn.never rfl (di_range1 (by rfl) T.z_range (a_cons d_int a_nil)) (dg_name (i := 5) nd rfl (by first | exact Or.inl rfl | exact Or.inr rfl)) (dss_cons (ds_set (i := 6) nd rfl (by first | exact Or.inl rfl | exact Or.inr rfl) (d_call D_law_spoilt hr (by decide) hgd (by rfl) (c_io 3 (c_cons (d_var 4) c_nil))))
    (dss_cons (ds_if (DW.dt (dw_and (dt_cmp (op_eqA hr.units) v_eq (d_call D_law_take hr (by decide) hgd (by rfl) (c_io 3 (c_cons d_int c_nil))) d_int (nomark _)) (dw_and1 (dt_cmp (op_neA hr.units) v_ne (d_var 6) (d_tup a_nil) (nomark _))))) (dss_one (ds_set (i := 6) nd rfl (by first | exact Or.inl rfl | exact Or.inr rfl) (d_call D_law_spoilt hr (by decide) hgd (by rfl) (c_io 3 (c_cons (d_var 6) c_nil))))) dss_nil)
    (dss_one (ds_if (dt_not (dt_tru (d_call D_law_right hr (by decide) hgd (by rfl) (c_cons (d_var 6) c_nil)))) (dss_one (ds_ret d_bl)) dss_nil)))))
    (dss_one (ds_for PassesOwn.never rfl (di_any (d_tup (a_cons d_non (a_cons d_bl (a_cons d_int (a_cons d_str (a_cons (d_tup a_nil) (a_cons (d_frz (o_lst a_nil)) (a_cons (d_frz (o_list (d_var 4) (by rfl) T.z_list (by decide +kernel))) (a_cons (d_tup (a_cons (d_var 4) a_nil)) (a_cons (d_ixv 4 d_int (fun _ _ => rfl)) (a_cons (d_op op_mulA v_mul (d_var 4) d_int) (a_cons (d_tup (a_cons (d_tup a_nil) a_nil)) a_nil))))))))))))) (dg_name (i := 6) nd rfl (by first | exact Or.inl rfl | exact Or.inr rfl)) (dss_one (ds_if (dt_not (dt_tru (d_call D_law_right hr (by decide) hgd (by rfl) (c_cons (d_var 6) c_nil)))) (dss_one (ds_ret d_bl)) dss_nil)))))))))
    (dss_one (ds_ret d_bl))))) h
end
end K47
end

section
set_option Elab.async false
set_option linter.all false
set_option maxRecDepth 100000
set_option maxHeartbeats 2000000
/-! ## what is a machine -/
namespace DL
open PySem PySem.Spec PyProof.Rows L2 MK
noncomputable def mkB (d : D) : Bool := @decide (Maker d) (Classical.propDecidable _)
theorem mkB_iff {d : D} : mkB d = true ↔ Maker d := @decide_eq_true_iff _ (Classical.propDecidable _)
theorem yn_mk {d : D} {post : Cell → List M → Prop} (q : post (.sh (.bool (mkB d))) []) : YN (Maker d) post :=
  ⟨fun h => by rw [mkB_iff.2 h] at q; exact q, fun h => by
    have e : mkB d = false := by
      cases e : mkB d with
      | false => rfl
      | true => exact absurd (mkB_iff.1 e) h
    rw [e] at q; exact q⟩
def allIn (xs : List D) (lo hi : Int) : Bool := xs.all fun x => isIn x lo hi
def dIn (e f : D) : Bool := match e with
  | .int i => isIn f 0 i
  | _ => false
noncomputable def makeB : List D → Bool
  | [a, b] => mkB a && isIn b 0 64
  | _ => false
def keepB (xs : List D) (ahead : Int) : Bool := match xs with
  | [a, b, c] => allIn [a, b] 0 (ahead - 1) && isIn c 0 1
  | _ => false
def bitsB (d : D) : Bool := match d with
  | .tuple bs => (decide (1 ≤ (bs.length : Int)) && decide ((bs.length : Int) ≤ 16)) && allIn bs 0 1
  | _ => false
def lateB (xs : List D) (many : Int) : Bool := match xs with
  | [a, b] => allIn [a] 0 (many - 1) && bitsB b
  | _ => false
noncomputable def kprB (xs : List D) (many : Int) : Bool := match xs with
  | [a, b, c, e, f] => ((allIn [a, b] 0 (many - 1) && mkB c) && isIn e 1 64) && dIn e f
  | _ => false
noncomputable def pieceX (z : Str) (xs : List D) (ahead many : Int) : Bool := match kdGet sidesK z with
  | some n => decide ((xs.length : Int) = n) && allIn xs 0 (ahead - 1)
  | none => if z = "make" then makeB xs else if z = "keep" then keepB xs ahead else if z = "late" then lateB xs many else if z = "keeper" then kprB xs many else false
noncomputable def pieceB (d : D) (ahead many : Int) : Bool := match d with
  | .tuple (.str z :: xs) => pieceX z xs ahead many
  | _ => false
noncomputable def machB (d : D) : Bool := match d with
  | .tuple xs => (decide (1 ≤ (xs.length : Int)) && decide ((xs.length : Int) ≤ 24)) && xs.zipIdx.all fun p => pieceB p.1 (p.2 : Nat) (xs.length : Nat)
  | _ => false
theorem pieceB_no {d : D} {a m : Int} (h : ∀ z xs, d ≠ .tuple (.str z :: xs)) : pieceB d a m = false := by
  unfold pieceB
  split
  · exact absurd rfl (h _ _)
  · rfl
theorem makeB_len {xs : List D} (h : xs.length ≠ 2) : makeB xs = false := by
  unfold makeB; split
  · exact absurd rfl h
  · rfl
theorem keepB_len {xs : List D} {a : Int} (h : xs.length ≠ 3) : keepB xs a = false := by
  unfold keepB; split
  · exact absurd rfl h
  · rfl
theorem lateB_len {xs : List D} {a : Int} (h : xs.length ≠ 2) : lateB xs a = false := by
  unfold lateB; split
  · exact absurd rfl h
  · rfl
theorem kprB_len {xs : List D} {a : Int} (h : xs.length ≠ 5) : kprB xs a = false := by
  unfold kprB; split
  · exact absurd rfl h
  · rfl
theorem lens2 {xs : List D} (h : xs.length = 2) : ∃ a b, xs = [a, b] := match xs, h with
  | [a, b], _ => ⟨a, b, rfl⟩
theorem lens3 {xs : List D} (h : xs.length = 3) : ∃ a b c, xs = [a, b, c] := match xs, h with
  | [a, b, c], _ => ⟨a, b, c, rfl⟩
theorem lens5 {xs : List D} (h : xs.length = 5) : ∃ a b c e f, xs = [a, b, c, e, f] := match xs, h with
  | [a, b, c, e, f], _ => ⟨a, b, c, e, f, rfl⟩
def b_is_number_to : DTS :=
  (sRet (eAnd (eIsi .int (eVar 0)) (eAnd (eNot (eIsi .bool (eVar 0))) (eChain pLe pLe (eVar 1) (eVar 0) (eVar 2)))))
def sp_is_number_to : DSp := sp_is_between
theorem p_is_number_to (cs post) (h : sp_is_number_to cs post) : runD 3 b_is_number_to cs post := by
  obtain ⟨d, lo, hi, rfl, h, q⟩ := h
  cases d with
  | int i =>
    have q' : post (.sh (.bool (decide (lo ≤ i) && decide (i ≤ hi)))) [] := q
    refine ⟨rfl, rfl, ?_⟩
    refine ifD (fun h => ?_) (fun h => ?_)
    · rw [decide_eq_true h, Bool.true_and] at q'
      exact q'
    · rw [decide_eq_false h, Bool.false_and] at q'
      exact q'
  | bool b => exact ⟨rfl, rfl, q⟩
  | dict _ => cases h
  | _ => exact ⟨rfl, q⟩
theorem all_eq (xs : List D) (lo hi : Int) : allIn xs lo hi = (xs.map fun x => isIn x lo hi).all id := by unfold allIn; rw [List.all_map]; rfl
def b_are_pieces (sp_is_number_to : DSp) : DTS :=
  (sRet (eCall pAll (aCons (eFrz (oComp true [2] (iAny (eVar 0)) tYesD (eCallF 3 sp_is_number_to (cCons (eVar 2) (cCons (eC (.int 0)) (cCons (eOp2 pSub (eVar 1) (eC (.int 1))) cNil)))))) aNil)))
def sp_are_pieces : DSp := fun cs post => ∃ (xs : List D) (n : Int), cs = [.sh (.tuple xs), .sh (.int n)] ∧ ndAll xs ∧ xs.length ≤ sizeLine ∧ post (.sh (.bool (allIn xs 0 (n - 1)))) []
theorem p_are_pieces (cs post) (h : sp_are_pieces cs post) : runD 3 (b_are_pieces sp_is_number_to) cs post := by
  obtain ⟨xs, n, rfl, hnd, hl, q⟩ := h
  rw [all_eq] at q
  refine ⟨hl, ?_⟩
  refine comp_map xs _ (fun x => .bool (isIn x 0 (n - 1))) (fun x hx q hq => ⟨rfl, .nil, x, 0, n - 1, rfl, hnd x hx, hq _ rfl⟩) ?_
  exact ⟨xs.map fun x => isIn x 0 (n - 1), by rw [List.map_map]; rfl, q⟩
def b_is_keeper (sp_are_pieces : DSp) (sp_is_maker : DSp) (sp_is_number_to : DSp) : DTS :=
  (sSeq (sIf (tOr' (tBl (eOp2 pNe (eLenV 0) (eC (.int 6)))) (tOr' (tNt (tTru (eCallF 2 sp_are_pieces (cCons (eSlV 0 (pSome (eC (.int 1))) (pSome (eC (.int 3)))) (cCons (eVar 1) cNil))))) (tNt (tTru (eCallF 1 sp_is_maker (cCons (eIxV 0 (eC (.int 3))) cNil)))))) (sRet (eC (.bool false))) sNext)
  (sRet (eAnd (eCallF 3 sp_is_number_to (cCons (eIxV 0 (eC (.int 4))) (cCons (eC (.int 1)) (cCons (eC (.int 64)) cNil)))) (eCallF 3 sp_is_number_to (cCons (eIxV 0 (eC (.int 5))) (cCons (eC (.int 0)) (cCons (eIxV 0 (eC (.int 4))) cNil)))))))
/-- what stands behind a word -/
def Behind (B S : Nat) (xs : List D) : Prop := gdAll B S xs = true ∧ wtAll xs + 3 ≤ sizeLine
theorem Behind.nd {B S : Nat} {xs : List D} (h : Behind B S xs) : ndAll xs := fun x hx => gd_nd (gd_all.1 h.1 x hx)
theorem Behind.len {B S : Nat} {xs : List D} (h : Behind B S xs) : xs.length + 1 ≤ sizeLine := by have := wt_len xs; have := h.2; omega
theorem Behind.wt {B S : Nat} {xs : List D} (h : Behind B S xs) {x : D} (hx : x ∈ xs) : wt x ≤ sizeLine := by have := wt_mem hx; have := h.2; omega
theorem Behind.gd {B S : Nat} {xs : List D} (h : Behind B S xs) {x : D} (hx : x ∈ xs) : gd B S x = true := gd_all.1 h.1 x hx
def sp_is_keeper : DSp := fun cs post => ∃ (B S : Nat) (z : Str) (xs : List D) (n : Int), cs = [.sh (.tuple (.str z :: xs)), .sh (.int n)] ∧ Behind B S xs ∧ post (.sh (.bool (kprB xs n))) []
theorem p_is_keeper (cs post) (h : sp_is_keeper cs post) : runD 2 (b_is_keeper sp_are_pieces sp_is_maker sp_is_number_to) cs post := by
  obtain ⟨B, S, z, xs, n, rfl, hb, q⟩ := h
  have hbig := line_big
  refine nrm_in ?_
  show sSeq _ _ _ [_, _]
  by_cases h5 : xs.length = 5
  case neg =>
    refine seq_on [] (fun _ => False) (fun N hN => ?_) (fun cs h => h.elim)
    rw [kprB_len h5] at q
    exact ifN (p := (((PyData.str z :: xs).length : Nat) : Int) = 6) (fun _ => q) (fun h => absurd h (by rw [List.length_cons]; omega))
  obtain ⟨a, b, c, e, f, rfl⟩ := lens5 h5
  have q' : post (.sh (.bool (((allIn [a, b] 0 (n - 1) && mkB c) && isIn e 1 64) && dIn e f))) [] := q
  by_cases h1 : allIn [a, b] 0 (n - 1) = true
  case neg =>
    have h1 : allIn [a, b] 0 (n - 1) = false := by simpa using h1
    refine seq_on [] (fun _ => False) (fun N hN => ?_) (fun cs h => h.elim)
    refine ⟨rfl, .nil, [a, b], n, rfl, fun x hx => hb.nd x (by simp at hx ⊢; rcases hx with h | h <;> simp [h]), by show 2 ≤ _; omega, ?_⟩
    rw [h1] at q' ⊢
    exact q'
  by_cases h2 : mkB c = true
  case neg =>
    have h2 : mkB c = false := by simpa using h2
    refine seq_on [] (fun _ => False) (fun N hN => ?_) (fun cs h => h.elim)
    refine ⟨rfl, .nil, [a, b], n, rfl, fun x hx => hb.nd x (by simp at hx ⊢; rcases hx with h | h <;> simp [h]), by show 2 ≤ _; omega, ?_⟩
    rw [h1, h2] at q'
    rw [h1]
    refine ⟨rfl, .nil, B, S, c, rfl, hb.gd (by simp), hb.wt (by simp), yn_mk ?_⟩
    rw [h2]
    exact q'
  refine seq_on [] (fun cs => cs = []) (fun N hN => ?_) ?_
  · refine ⟨rfl, .nil, [a, b], n, rfl, fun x hx => hb.nd x (by simp at hx ⊢; rcases hx with h | h <;> simp [h]), by show 2 ≤ _; omega, ?_⟩
    rw [h1]
    refine ⟨rfl, .nil, B, S, c, rfl, hb.gd (by simp), hb.wt (by simp), yn_mk ?_⟩
    rw [h2]
    exact hN [] rfl
  rintro cs rfl
  show sRet _ _ [_, _]
  rw [h1, h2] at q'
  refine ⟨rfl, .nil, e, 1, 64, rfl, hb.nd e (by simp), ?_⟩
  by_cases h3 : isIn e 1 64 = true
  · rw [h3] at q' ⊢
    obtain ⟨i, rfl, _⟩ := isIn_iff.1 h3
    exact ⟨rfl, .nil, f, 0, i, rfl, hb.nd f (by simp), q'⟩
  · have h3 : isIn e 1 64 = false := by simpa using h3
    rw [h3] at q' ⊢
    exact q'
def b_is_late (sp_are_pieces : DSp) (sp_is_number_to : DSp) : DTS :=
  (sSeq (sIf (tOr' (tBl (eOp2 pNe (eLenV 0) (eC (.int 3)))) (tOr' (tNt (tTru (eCallF 2 sp_are_pieces (cCons (eSlV 0 (pSome (eC (.int 1))) (pSome (eC (.int 2)))) (cCons (eVar 1) cNil))))) (tNt (tTru (eIsi .tuple (eIxV 0 (eC (.int 2)))))))) (sRet (eC (.bool false))) sNext)
  (sRet (eAnd (eChain pLe pLe (eC (.int 1)) (eCall pLen (aCons (eIxV 0 (eC (.int 2))) aNil)) (eC (.int 16))) (eCall pAll (aCons (eFrz (oComp true [2] (iAny (eIxV 0 (eC (.int 2)))) tYesD (eCallF 3 sp_is_number_to (cCons (eVar 2) (cCons (eC (.int 0)) (cCons (eC (.int 1)) cNil)))))) aNil)))))
def sp_is_late : DSp := fun cs post => ∃ (B S : Nat) (z : Str) (xs : List D) (n : Int), cs = [.sh (.tuple (.str z :: xs)), .sh (.int n)] ∧ Behind B S xs ∧ post (.sh (.bool (lateB xs n))) []
theorem p_is_late (cs post) (h : sp_is_late cs post) : runD 3 (b_is_late sp_are_pieces sp_is_number_to) cs post := by
  obtain ⟨B, S, z, xs, n, rfl, hb, q⟩ := h
  have hbig := line_big
  refine nrm_in ?_
  show sSeq _ _ _ [_, _, _]
  by_cases h5 : xs.length = 2
  case neg =>
    refine seq_on [] (fun _ => False) (fun N hN => ?_) (fun cs h => h.elim)
    rw [lateB_len h5] at q
    exact ifN (p := (((PyData.str z :: xs).length : Nat) : Int) = 3) (fun _ => q) (fun h => absurd h (by rw [List.length_cons]; omega))
  obtain ⟨a, b, rfl⟩ := lens2 h5
  have q' : post (.sh (.bool (allIn [a] 0 (n - 1) && bitsB b))) [] := q
  by_cases h1 : allIn [a] 0 (n - 1) = true
  case neg =>
    have h1 : allIn [a] 0 (n - 1) = false := by simpa using h1
    refine seq_on [] (fun _ => False) (fun N hN => ?_) (fun cs h => h.elim)
    refine ⟨rfl, .nil, [a], n, rfl, fun x hx => hb.nd x (by simp at hx ⊢; simp [hx]), by show 1 ≤ _; omega, ?_⟩
    rw [h1] at q' ⊢
    exact q'
  have hbn := hb.nd b (by simp)
  rw [h1, Bool.true_and] at q'
  by_cases ht : ∃ bs, b = .tuple bs
  case neg =>
    refine seq_on [] (fun _ => False) (fun N hN => ?_) (fun cs h => h.elim)
    refine ⟨rfl, .nil, [a], n, rfl, fun x hx => hb.nd x (by simp at hx ⊢; simp [hx]), by show 1 ≤ _; omega, ?_⟩
    rw [h1]
    cases b with
    | tuple bs => exact absurd ⟨bs, rfl⟩ ht
    | dict _ => cases hbn
    | _ => exact ⟨rfl, q'⟩
  obtain ⟨bs, rfl⟩ := ht
  refine seq_on [] (fun cs => cs = []) (fun N hN => ?_) ?_
  · refine ⟨rfl, .nil, [a], n, rfl, fun x hx => hb.nd x (by simp at hx ⊢; simp [hx]), by show 1 ≤ _; omega, ?_⟩
    rw [h1]
    exact ⟨rfl, hN [] rfl⟩
  rintro cs rfl
  show sRet _ _ [_, _, _]
  have gb := hb.gd (x := .tuple bs) (by simp)
  have wb := hb.wt (x := .tuple bs) (by simp)
  have gbs : gdAll B S bs = true := by rw [gd] at gb; exact gb
  have lbs : bs.length ≤ sizeLine := by rw [wt] at wb; have := wt_len bs; omega
  have q2 : post (.sh (.bool ((decide (1 ≤ (bs.length : Int)) && decide ((bs.length : Int) ≤ 16)) && allIn bs 0 1))) [] := q'
  refine ifD (p := 1 ≤ ((bs.length : Nat) : Int)) (fun h => ?_) (fun h => ?_)
  · rw [decide_eq_true h, Bool.true_and] at q2
    refine ifD (p := ((bs.length : Nat) : Int) ≤ 16) (fun h => ?_) (fun h => ?_)
    · rw [decide_eq_true h, Bool.true_and] at q2
      rw [all_eq] at q2
      refine ⟨lbs, ?_⟩
      refine comp_map bs _ (fun x => .bool (isIn x 0 1)) (fun x hx q hq => ⟨rfl, .nil, x, 0, 1, rfl, gd_nd (gd_all.1 gbs x hx), hq _ rfl⟩) ?_
      exact ⟨bs.map fun x => isIn x 0 1, by rw [List.map_map]; rfl, q2⟩
    · rw [decide_eq_false h, Bool.false_and] at q2
      exact q2
  · rw [decide_eq_false h, Bool.false_and, Bool.false_and] at q2
    exact q2
def b_is_piece (sp_are_pieces : DSp) (sp_is_keeper : DSp) (sp_is_late : DSp) (sp_is_maker : DSp) (sp_is_number_to : DSp) : DTS :=
  (sSeq (sIf (tOr' (tNt (tTru (eIsi .tuple (eVar 0)))) (tOr' (tBl (eOp2 pEq (eLenV 0) (eC (.int 0)))) (tNt (tTru (eIsi .str (eIxV 0 (eC (.int 0)))))))) (sRet (eC (.bool false))) sNext)
  (sSeq (sIf (tBl (eInK false sidesK (eIxV 0 (eC (.int 0))))) (sRet (eAnd (eOp2 pEq (eLenV 0) (eOp2 pAdd (eIxKD sidesK (eIxV 0 (eC (.int 0)))) (eC (.int 1)))) (eCallF 2 sp_are_pieces (cCons (eSlV 0 (pSome (eC (.int 1))) pNo) (cCons (eVar 1) cNil))))) sNext)
  (sSeq (sIf (tBl (eOp2 pEq (eIxV 0 (eC (.int 0))) (eC (.str "make")))) (sRet (eAnd (eOp2 pEq (eLenV 0) (eC (.int 3))) (eAnd (eCallF 1 sp_is_maker (cCons (eIxV 0 (eC (.int 1))) cNil)) (eCallF 3 sp_is_number_to (cCons (eIxV 0 (eC (.int 2))) (cCons (eC (.int 0)) (cCons (eC (.int 64)) cNil))))))) sNext)
  (sSeq (sIf (tBl (eOp2 pEq (eIxV 0 (eC (.int 0))) (eC (.str "keep")))) (sRet (eAnd (eOp2 pEq (eLenV 0) (eC (.int 4))) (eAnd (eCallF 2 sp_are_pieces (cCons (eSlV 0 (pSome (eC (.int 1))) (pSome (eC (.int 3)))) (cCons (eVar 1) cNil))) (eCallF 3 sp_is_number_to (cCons (eIxV 0 (eC (.int 3))) (cCons (eC (.int 0)) (cCons (eC (.int 1)) cNil))))))) sNext)
  (sSeq (sIf (tBl (eOp2 pEq (eIxV 0 (eC (.int 0))) (eC (.str "late")))) (sRet (eCallF 2 sp_is_late (cCons (eVar 0) (cCons (eVar 2) cNil)))) sNext)
  (sRet (eAnd (eOp2 pEq (eIxV 0 (eC (.int 0))) (eC (.str "keeper"))) (eCallF 2 sp_is_keeper (cCons (eVar 0) (cCons (eVar 2) cNil))))))))))
def sp_is_piece : DSp := fun cs post => ∃ (B S : Nat) (d : D) (ahead many : Int), cs = [.sh d, .sh (.int ahead), .sh (.int many)] ∧ gd B S d = true ∧ wt d ≤ sizeLine ∧ post (.sh (.bool (pieceB d ahead many))) []
theorem behind_of {B S : Nat} {z : Str} {xs : List D} (hg : gd B S (.tuple (.str z :: xs)) = true) (hw : wt (.tuple (.str z :: xs)) ≤ sizeLine) : Behind B S xs := by
  have ga : gdAll B S (.str z :: xs) = true := by rw [gd] at hg; exact hg
  refine ⟨by rw [gdAll, Bool.and_eq_true] at ga; exact ga.2, ?_⟩
  rw [wt, wtAll] at hw; omega
theorem p_is_piece (cs post) (h : sp_is_piece cs post) : runD 3 (b_is_piece sp_are_pieces sp_is_keeper sp_is_late sp_is_maker sp_is_number_to) cs post := by
  obtain ⟨B, S, d, ahead, many, rfl, hg, hw, q⟩ := h
  have nd := gd_nd hg
  have hbig := line_big
  by_cases hd : ∃ z xs, d = .tuple (.str z :: xs)
  case neg =>
    rw [pieceB_no fun z xs e => hd ⟨z, xs, e⟩] at q
    cases d with
    | tuple ds =>
      cases ds with
      | nil => exact ⟨rfl, q⟩
      | cons x xs =>
        have gx : gd B S x = true := gd_all.1 (by rw [gd] at hg; exact hg) x (by simp)
        refine ⟨rfl, ?_⟩
        refine ifD (p := (((x :: xs).length : Nat) : Int) = 0) (fun h => absurd h (by rw [List.length_cons]; omega)) (fun _ => ?_)
        refine optD_of (at_hd _ _) ⟨gd_nd gx, ?_⟩
        cases x with
        | str z => exact absurd ⟨z, xs, rfl⟩ hd
        | _ => exact q
    | dict _ => cases nd
    | _ => exact ⟨rfl, q⟩
  obtain ⟨z, xs, rfl⟩ := hd
  have hb := behind_of hg hw
  refine nrm_in ?_
  show sSeq _ _ _ [_, _, _]
  refine seq_on [] (fun cs => cs = []) (fun N hN => ?_) ?_
  · refine ⟨rfl, ?_⟩
    refine ifD (p := (((PyData.str z :: xs).length : Nat) : Int) = 0) (fun h => absurd h (by rw [List.length_cons]; omega)) (fun _ => ?_)
    exact optD_of (at_hd _ _) ⟨rfl, hN [] rfl⟩
  rintro cs rfl
  show sSeq _ _ _ [_, _, _]
  have q0 : post (.sh (.bool (pieceX z xs ahead many))) [] := q
  unfold pieceX at q0
  cases hs : kdGet sidesK z with
  | some m =>
    rw [hs] at q0
    have q1 : post (.sh (.bool (decide ((xs.length : Int) = m) && allIn xs 0 (ahead - 1)))) [] := q0
    refine seq_on [] (fun _ => False) (fun N hN => ?_) (fun cs h => h.elim)
    refine optD_of (at_hd _ _) ?_
    show if (kdGet sidesK z).isSome = true then _ else _
    rw [hs]
    refine optD_of (at_hd _ _) ?_
    show optD (kdGet sidesK z) _
    rw [hs]
    refine ifD (p := (((PyData.str z :: xs).length : Nat) : Int) = m + 1) (fun h => ?_) (fun h => ?_)
    · rw [List.length_cons] at h
      rw [decide_eq_true (show (xs.length : Int) = m by omega), Bool.true_and] at q1
      refine ⟨rfl, .nil, xs, ahead, ?_, hb.nd, by have := hb.len; omega, q1⟩
      show [Cell.sh (.tuple (cutD (PyData.str z :: xs) (some 1) none)), _] = _
      rw [drop_one]
    · rw [List.length_cons] at h
      rw [decide_eq_false (show ¬ (xs.length : Int) = m by omega), Bool.false_and] at q1
      exact q1
  | none =>
    rw [hs] at q0
    have q1 : post (.sh (.bool (if z = "make" then makeB xs else if z = "keep" then keepB xs ahead else if z = "late" then lateB xs many else if z = "keeper" then kprB xs many else false))) [] := q0
    refine seq_on [] (fun cs => cs = []) (fun N hN => ?_) ?_
    · refine optD_of (at_hd _ _) ?_
      show if (kdGet sidesK z).isSome = true then _ else _
      rw [hs]
      exact hN [] rfl
    rintro cs rfl
    show sSeq _ _ _ [_, _, _]
    by_cases z1 : z = "make"
    · rw [if_pos z1] at q1
      refine seq_on [] (fun _ => False) (fun N hN => ?_) (fun cs h => h.elim)
      refine optD_of (at_hd _ _) (ifD (fun _ => ?_) (fun h => absurd z1 h))
      refine ifD (p := (((PyData.str z :: xs).length : Nat) : Int) = 3) (fun h => ?_) (fun h => ?_)
      · obtain ⟨a, b, rfl⟩ := lens2 (xs := xs) (by rw [List.length_cons] at h; omega)
        have q2 : post (.sh (.bool (mkB a && isIn b 0 64))) [] := q1
        refine ⟨rfl, .nil, B, S, a, rfl, hb.gd (by simp), hb.wt (by simp), yn_mk ?_⟩
        cases h1 : mkB a with
        | true => rw [h1] at q2; exact ⟨rfl, .nil, b, 0, 64, rfl, hb.nd b (by simp), q2⟩
        | false => rw [h1] at q2; exact q2
      · rw [makeB_len (by rw [List.length_cons] at h; omega)] at q1
        exact q1
    rw [if_neg z1] at q1
    refine seq_on [] (fun cs => cs = []) (fun N hN => optD_of (at_hd _ _) (ifD (fun h => absurd h z1) (fun _ => hN [] rfl))) ?_
    rintro cs rfl
    show sSeq _ _ _ [_, _, _]
    by_cases z2 : z = "keep"
    · rw [if_pos z2] at q1
      refine seq_on [] (fun _ => False) (fun N hN => ?_) (fun cs h => h.elim)
      refine optD_of (at_hd _ _) (ifD (fun _ => ?_) (fun h => absurd z2 h))
      refine ifD (p := (((PyData.str z :: xs).length : Nat) : Int) = 4) (fun h => ?_) (fun h => ?_)
      · obtain ⟨a, b, c, rfl⟩ := lens3 (xs := xs) (by rw [List.length_cons] at h; omega)
        have q2 : post (.sh (.bool (allIn [a, b] 0 (ahead - 1) && isIn c 0 1))) [] := q1
        refine ⟨rfl, .nil, [a, b], ahead, rfl, fun x hx => hb.nd x (by simp at hx ⊢; rcases hx with h | h <;> simp [h]), by show 2 ≤ _; omega, ?_⟩
        cases h1 : allIn [a, b] 0 (ahead - 1) with
        | true => rw [h1] at q2; exact ⟨rfl, .nil, c, 0, 1, rfl, hb.nd c (by simp), q2⟩
        | false => rw [h1] at q2; exact q2
      · rw [keepB_len (by rw [List.length_cons] at h; omega)] at q1
        exact q1
    rw [if_neg z2] at q1
    refine seq_on [] (fun cs => cs = []) (fun N hN => optD_of (at_hd _ _) (ifD (fun h => absurd h z2) (fun _ => hN [] rfl))) ?_
    rintro cs rfl
    show sSeq _ _ _ [_, _, _]
    by_cases z3 : z = "late"
    · rw [if_pos z3] at q1
      refine seq_on [] (fun _ => False) (fun N hN => ?_) (fun cs h => h.elim)
      refine optD_of (at_hd _ _) (ifD (fun _ => ?_) (fun h => absurd z3 h))
      exact ⟨rfl, .nil, B, S, z, xs, many, rfl, hb, q1⟩
    rw [if_neg z3] at q1
    refine seq_on [] (fun cs => cs = []) (fun N hN => optD_of (at_hd _ _) (ifD (fun h => absurd h z3) (fun _ => hN [] rfl))) ?_
    rintro cs rfl
    show sRet _ _ [_, _, _]
    refine optD_of (at_hd _ _) (ifD (p := z = "keeper") (fun h => ?_) (fun h => ?_))
    · rw [if_pos h] at q1
      exact ⟨rfl, .nil, B, S, z, xs, many, rfl, hb, q1⟩
    · rw [if_neg h] at q1
      exact q1
def b_is_machine (sp_is_piece : DSp) : DTS :=
  (sSeq (sIf (tOr' (tNt (tTru (eIsi .tuple (eVar 0)))) (tNt (tBl (eChain pLe pLe (eC (.int 1)) (eLenV 0) (eC (.int 24)))))) (sRet (eC (.bool false))) sNext)
  (sRet (eCall pAll (aCons (eFrz (oComp false [1, 2] (iEnm' (aCons (eVar 0) aNil)) tYesD (eCallF 3 sp_is_piece (cCons (eVar 2) (cCons (eVar 1) (cCons (eLenV 0) cNil)))))) aNil))))
def sp_is_machine : DSp := fun cs post => ∃ (B S : Nat) (d : D), cs = [.sh d] ∧ gd B S d = true ∧ wt d ≤ sizeLine ∧ post (.sh (.bool (machB d))) []
/-- all pieces, by any look at one piece that tells the same -/
theorem all_pieces {sp : DSp} {post : Cell → List M → Prop} (hsp : ∀ (B S : Nat) (d : D) (ahead many : Int) (P : Cell → List M → Prop), gd B S d = true → wt d ≤ sizeLine → P (.sh (.bool (pieceB d ahead many))) [] → sp [.sh d, .sh (.int ahead), .sh (.int many)] P)
    {B S : Nat} {d : D} (hg : gd B S d = true) (hw : wt d ≤ sizeLine) (q : post (.sh (.bool (machB d))) []) : runD 3 (b_is_machine sp) [.sh d] post := by
  have nd := gd_nd hg
  have hbig := line_big
  refine nrm_in ?_
  show sSeq _ _ _ [_, _, _]
  cases d with
  | tuple xs =>
    have ga : gdAll B S xs = true := by rw [gd] at hg; exact hg
    have hl : xs.length ≤ sizeLine := by rw [wt] at hw; have := wt_len xs; omega
    have q1 : post (.sh (.bool ((decide (1 ≤ (xs.length : Int)) && decide ((xs.length : Int) ≤ 24)) && xs.zipIdx.all fun p => pieceB p.1 (p.2 : Nat) (xs.length : Nat)))) [] := q
    by_cases h1 : 1 ≤ ((xs.length : Nat) : Int)
    case neg =>
      refine seq_on [] (fun _ => False) (fun N hN => ?_) (fun cs h => h.elim)
      rw [decide_eq_false h1, Bool.false_and, Bool.false_and] at q1
      refine ⟨rfl, ?_⟩
      refine ifD (p := 1 ≤ ((xs.length : Nat) : Int)) (fun h => absurd h h1) (fun _ => ?_)
      exact q1
    by_cases h2 : ((xs.length : Nat) : Int) ≤ 24
    case neg =>
      refine seq_on [] (fun _ => False) (fun N hN => ?_) (fun cs h => h.elim)
      rw [decide_eq_true h1, Bool.true_and, decide_eq_false h2, Bool.false_and] at q1
      refine ⟨rfl, ?_⟩
      refine ifD (p := 1 ≤ ((xs.length : Nat) : Int)) (fun _ => ?_) (fun h => absurd h1 h)
      refine ifN (p := ((xs.length : Nat) : Int) ≤ 24) (fun _ => ?_) (fun h => absurd h h2)
      exact q1
    refine seq_on [] (fun cs => cs = []) (fun N hN => ?_) ?_
    · refine ⟨rfl, ?_⟩
      refine ifD (p := 1 ≤ ((xs.length : Nat) : Int)) (fun _ => ?_) (fun h => absurd h1 h)
      refine ifN (p := ((xs.length : Nat) : Int) ≤ 24) (fun h => absurd h2 h) (fun _ => ?_)
      exact hN [] rfl
    rintro cs rfl
    show sRet _ _ [_, _, _]
    rw [decide_eq_true h1, decide_eq_true h2, Bool.true_and, Bool.true_and] at q1
    show (enumD 0 xs).length ≤ sizeLine ∧ compD false [1, 2] tYesD _ (enumD 0 xs) [] [_, _, _] _
    have em : enumD 0 xs = (xs.zipIdx).map fun p => PyData.tuple [.int (p.2 : Nat), p.1] := by
      have := enumD_map id xs 0
      rw [List.map_id] at this
      exact this
    rw [em]
    refine ⟨by rw [List.length_map, List.length_zipIdx]; exact hl, ?_⟩
    refine comp_mapA xs.zipIdx (fun p => PyData.tuple [.int (p.2 : Nat), p.1]) _ (fun p => .bool (pieceB p.1 (p.2 : Nat) (xs.length : Nat))) (fun p hp q hq => ?_) ?_
    · have hx : p.1 ∈ xs := List.fst_mem_of_mem_zipIdx hp
      exact ⟨rfl, rfl, .nil, hsp B S p.1 (p.2 : Nat) (xs.length : Nat) _ (gd_all.1 ga _ hx) (by have := wt_mem hx; rw [wt] at hw; omega) (hq _ rfl)⟩
    · refine ⟨xs.zipIdx.map fun p => pieceB p.1 (p.2 : Nat) (xs.length : Nat), by rw [List.map_map]; rfl, ?_⟩
      rw [List.all_map]
      exact q1
  | dict _ => cases nd
  | _ =>
    refine seq_on [] (fun _ => False) (fun N hN => ?_) (fun cs h => h.elim)
    exact ⟨rfl, q⟩
theorem p_is_machine (cs post) (h : sp_is_machine cs post) : runD 3 (b_is_machine sp_is_piece) cs post := by
  obtain ⟨B, S, d, rfl, hg, hw, q⟩ := h
  exact all_pieces (fun B S d a m P h1 h2 h3 => ⟨B, S, d, a, m, rfl, h1, h2, h3⟩) hg hw q
end DL
end

section
set_option Elab.async false
set_option linter.all false
set_option maxRecDepth 100000
set_option maxHeartbeats 2000000
namespace K47
open PySem PySem.Spec PyProof.Rows DL L2 MK
def sp_law_number : DSp := sp_is_between
theorem p_law_number (cs post) (h : sp_law_number cs post) : runD 3 b_law_number cs post := p_is_number_to cs post h
def sp_law_all : DSp := fun cs post => ∃ (xs : List D) (lo hi : Int), cs = [.sh (.tuple xs), .sh (.int lo), .sh (.int hi)] ∧ ndAll xs ∧ xs.length ≤ sizeLine ∧ post (.sh (.bool (allIn xs lo hi))) []
theorem p_law_all (cs post) (h : sp_law_all cs post) : runD 4 (b_law_all sp_law_number) cs post := by
  obtain ⟨xs, lo, hi, rfl, hnd, hl, q⟩ := h
  rw [all_eq] at q
  refine ⟨hl, ?_⟩
  refine comp_map xs _ (fun x => .bool (isIn x lo hi)) (fun x hx q hq => ⟨rfl, .nil, x, lo, hi, rfl, hnd x hx, hq _ rfl⟩) ?_
  exact ⟨xs.map fun x => isIn x lo hi, by rw [List.map_map]; rfl, q⟩
theorem all_one (a : D) (lo hi : Int) : allIn [a] lo hi = isIn a lo hi := by unfold allIn; simp
def sizesK : List (Str × Int) := [("make", 3), ("less", 2), ("both", 3), ("either", 3), ("oneof", 3), ("pick", 4), ("keep", 4), ("late", 3), ("keeper", 6)]
def sizesD : List (D × D) := [(.str "make", .int 3), (.str "less", .int 2), (.str "both", .int 3), (.str "either", .int 3), (.str "oneof", .int 3), (.str "pick", .int 4), (.str "keep", .int 4), (.str "late", .int 3), (.str "keeper", .int 6)]
theorem look_size (z : Str) : (dLook sizesD (.str z)).getD (.int 0) = .int ((kdGet sizesK z).getD 0) := by
  unfold dLook sizesD sizesK
  simp only [kdGet, List.find?_cons, keyEq]
  repeat' split
  all_goals simp_all
theorem size_of (z : Str) : (kdGet sizesK z).getD 0 = match kdGet sidesK z with
    | some n => n + 1
    | none => if z = "make" then 3 else if z = "keep" then 4 else if z = "late" then 3 else if z = "keeper" then 6 else 0 := by
  have d : ∀ z : Str, z = "make" ∨ z = "less" ∨ z = "both" ∨ z = "either" ∨ z = "oneof" ∨ z = "pick" ∨ z = "keep" ∨ z = "late" ∨ z = "keeper" ∨
      (z ≠ "make" ∧ z ≠ "less" ∧ z ≠ "both" ∧ z ≠ "either" ∧ z ≠ "oneof" ∧ z ≠ "pick" ∧ z ≠ "keep" ∧ z ≠ "late" ∧ z ≠ "keeper") := fun z => by
    by_cases h1 : z = "make"; exact .inl h1
    by_cases h2 : z = "less"; exact .inr (.inl h2)
    by_cases h3 : z = "both"; exact .inr (.inr (.inl h3))
    by_cases h4 : z = "either"; exact .inr (.inr (.inr (.inl h4)))
    by_cases h5 : z = "oneof"; exact .inr (.inr (.inr (.inr (.inl h5))))
    by_cases h6 : z = "pick"; exact .inr (.inr (.inr (.inr (.inr (.inl h6)))))
    by_cases h7 : z = "keep"; exact .inr (.inr (.inr (.inr (.inr (.inr (.inl h7))))))
    by_cases h8 : z = "late"; exact .inr (.inr (.inr (.inr (.inr (.inr (.inr (.inl h8)))))))
    by_cases h9 : z = "keeper"; exact .inr (.inr (.inr (.inr (.inr (.inr (.inr (.inr (.inl h9))))))))
    exact .inr (.inr (.inr (.inr (.inr (.inr (.inr (.inr (.inr ⟨h1, h2, h3, h4, h5, h6, h7, h8, h9⟩))))))))
  rcases d z with rfl | rfl | rfl | rfl | rfl | rfl | rfl | rfl | rfl | ⟨h1, h2, h3, h4, h5, h6, h7, h8, h9⟩
  · rfl
  · rfl
  · rfl
  · rfl
  · rfl
  · rfl
  · rfl
  · rfl
  · rfl
  · have e1 : kdGet sidesK z = none := by
      simp [sidesK, kdGet, h2.symm, h3.symm, h4.symm, h5.symm, h6.symm]
    have e2 : kdGet sizesK z = none := by
      simp [sizesK, kdGet, h1.symm, h2.symm, h3.symm, h4.symm, h5.symm, h6.symm, h7.symm, h8.symm, h9.symm]
    rw [e1, e2, if_neg h1, if_neg h7, if_neg h8, if_neg h9]
    rfl
def sp_law_is_piece : DSp := sp_is_piece
theorem p_law_is_piece (cs post) (h : sp_law_is_piece cs post) : runD 4 (b_law_is_piece sp_law_all sp_law_number sp_is_maker) cs post := by
  obtain ⟨B, S, d, ahead, many, rfl, hg, hw, q⟩ := h
  have nd := gd_nd hg
  have hbig := line_big
  by_cases hd : ∃ z xs, d = .tuple (.str z :: xs)
  case neg =>
    rw [pieceB_no fun z xs e => hd ⟨z, xs, e⟩] at q
    cases d with
    | tuple ds =>
      cases ds with
      | nil => exact ⟨rfl, q⟩
      | cons x xs =>
        have gx : gd B S x = true := gd_all.1 (by rw [gd] at hg; exact hg) x (by simp)
        refine ⟨rfl, ?_⟩
        refine ifD (p := (((x :: xs).length : Nat) : Int) = 0) (fun h => absurd h (by rw [List.length_cons]; omega)) (fun _ => ?_)
        refine optD_of (at_hd _ _) ⟨gd_nd gx, ?_⟩
        cases x with
        | str z => exact absurd ⟨z, xs, rfl⟩ hd
        | _ => exact q
    | dict _ => cases nd
    | _ => exact ⟨rfl, q⟩
  obtain ⟨z, xs, rfl⟩ := hd
  have hb := behind_of hg hw
  have hlen := hb.len
  refine nrm_in ?_
  show sSeq _ _ _ [_, _, _, _]
  refine seq_on [] (fun cs => cs = []) (fun N hN => ?_) ?_
  · refine ⟨rfl, ?_⟩
    refine ifD (p := (((PyData.str z :: xs).length : Nat) : Int) = 0) (fun h => absurd h (by rw [List.length_cons]; omega)) (fun _ => ?_)
    exact optD_of (at_hd _ _) ⟨rfl, hN [] rfl⟩
  rintro cs rfl
  show sSeq _ _ _ [_, _, _, _]
  refine seq_on [3] (fun cs => cs = [some (.sh (.dict sizesD))]) (fun N hN => ⟨⟨[.inr "make", .inr "less", .inr "both", .inr "either", .inr "oneof", .inr "pick", .inr "keep", .inr "late", .inr "keeper"], rfl, by decide, by decide⟩, nrm_in (hN [_] rfl)⟩) ?_
  rintro cs rfl
  show sSeq _ _ _ [_, _, _, _]
  have hns : notScr sizesD := fun ⟨l, e⟩ => by cases e
  have q0 : post (.sh (.bool (pieceX z xs ahead many))) [] := q
  unfold pieceX at q0
  have hsz := size_of z
  by_cases hl : ((xs.length : Nat) : Int) + 1 = (kdGet sizesK z).getD 0
  case neg =>
    refine seq_on [] (fun _ => False) (fun N hN => ?_) (fun cs h => h.elim)
    refine ⟨hns, optD_of (at_hd _ _) ⟨⟨.inr z, rfl⟩, ?_⟩⟩
    rw [look_size]
    refine ifN (p := (((PyData.str z :: xs).length : Nat) : Int) = (kdGet sizesK z).getD 0) (fun _ => ?_) (fun h => absurd h (by rw [List.length_cons]; omega))
    cases hs : kdGet sidesK z with
    | some n =>
      rw [hs] at q0 hsz
      have q1 : post (.sh (.bool (decide ((xs.length : Int) = n) && allIn xs 0 (ahead - 1)))) [] := q0
      have hsz : (kdGet sizesK z).getD 0 = n + 1 := hsz
      rw [decide_eq_false (by omega), Bool.false_and] at q1
      exact q1
    | none =>
      rw [hs] at q0 hsz
      have q1 : post (.sh (.bool (if z = "make" then makeB xs else if z = "keep" then keepB xs ahead else if z = "late" then lateB xs many else if z = "keeper" then kprB xs many else false))) [] := q0
      have hsz : (kdGet sizesK z).getD 0 = (if z = "make" then 3 else if z = "keep" then 4 else if z = "late" then 3 else if z = "keeper" then 6 else 0) := hsz
      by_cases z1 : z = "make"
      · rw [if_pos z1] at q1 hsz; rw [makeB_len (by omega)] at q1; exact q1
      rw [if_neg z1] at q1 hsz
      by_cases z2 : z = "keep"
      · rw [if_pos z2] at q1 hsz; rw [keepB_len (by omega)] at q1; exact q1
      rw [if_neg z2] at q1 hsz
      by_cases z3 : z = "late"
      · rw [if_pos z3] at q1 hsz; rw [lateB_len (by omega)] at q1; exact q1
      rw [if_neg z3] at q1 hsz
      by_cases z4 : z = "keeper"
      · rw [if_pos z4] at q1 hsz; rw [kprB_len (by omega)] at q1; exact q1
      rw [if_neg z4] at q1
      exact q1
  refine seq_on [] (fun cs => cs = []) (fun N hN => ?_) ?_
  · refine ⟨hns, optD_of (at_hd _ _) ⟨⟨.inr z, rfl⟩, ?_⟩⟩
    rw [look_size]
    exact ifN (p := (((PyData.str z :: xs).length : Nat) : Int) = (kdGet sizesK z).getD 0) (fun h => absurd (by rw [List.length_cons]; omega) h) (fun _ => hN [] rfl)
  rintro cs rfl
  show sSeq _ _ _ [_, _, _, _]
  by_cases z1 : z = "make"
  · subst z1
    obtain ⟨a, b, rfl⟩ := lens2 (xs := xs) (by have e : (kdGet sizesK "make").getD 0 = 3 := rfl
                                               omega)
    have q2 : post (.sh (.bool (mkB a && isIn b 0 64))) [] := q
    refine seq_on [] (fun _ => False) (fun N hN => ?_) (fun cs h => h.elim)
    refine ⟨rfl, .nil, B, S, a, rfl, hb.gd (by simp), hb.wt (by simp), yn_mk ?_⟩
    cases h1 : mkB a with
    | true => rw [h1] at q2; exact ⟨rfl, .nil, b, 0, 64, rfl, hb.nd b (by simp), q2⟩
    | false => rw [h1] at q2; exact q2
  refine seq_on [] (fun cs => cs = []) (fun N hN => optD_of (at_hd _ _) (ifD (fun h => absurd h z1) (fun _ => hN [] rfl))) ?_
  rintro cs rfl
  show sSeq _ _ _ [_, _, _, _]
  by_cases z2 : z = "keep"
  · subst z2
    obtain ⟨a, b, c, rfl⟩ := lens3 (xs := xs) (by have e : (kdGet sizesK "keep").getD 0 = 4 := rfl
                                                  omega)
    have q2 : post (.sh (.bool (allIn [a, b] 0 (ahead - 1) && isIn c 0 1))) [] := q
    refine seq_on [] (fun _ => False) (fun N hN => ?_) (fun cs h => h.elim)
    refine ⟨rfl, .nil, [a, b], 0, ahead - 1, rfl, fun x hx => hb.nd x (by simp at hx ⊢; rcases hx with h | h <;> simp [h]), by show 2 ≤ _; omega, ?_⟩
    cases h1 : allIn [a, b] 0 (ahead - 1) with
    | true => rw [h1] at q2; exact ⟨rfl, .nil, c, 0, 1, rfl, hb.nd c (by simp), q2⟩
    | false => rw [h1] at q2; exact q2
  refine seq_on [] (fun cs => cs = []) (fun N hN => optD_of (at_hd _ _) (ifD (fun h => absurd h z2) (fun _ => hN [] rfl))) ?_
  rintro cs rfl
  show sSeq _ _ _ [_, _, _, _]
  by_cases z3 : z = "late"
  · obtain ⟨a, b, rfl⟩ := lens2 (xs := xs) (by
      have e : (kdGet sizesK z).getD 0 = 3 := by subst z3; rfl
      omega)
    have q2 : post (.sh (.bool (allIn [a] 0 (many - 1) && bitsB b))) [] := by subst z3; exact q
    rw [all_one] at q2
    refine seq_on [] (fun _ => False) (fun N hN => ?_) (fun cs h => h.elim)
    have gb := hb.gd (x := b) (by simp)
    have wb := hb.wt (x := b) (by simp)
    have nb := gd_nd gb
    refine ifD (p := z = "late") (fun _ => ?_) (fun h => absurd z3 h)
    show sSeq _ _ _ [_, _, _, _]
    cases b with
    | tuple bs =>
      have gbs : gdAll B S bs = true := by rw [gd] at gb; exact gb
      have lbs : bs.length ≤ sizeLine := by rw [wt] at wb; have := wt_len bs; omega
      have q3 : post (.sh (.bool (isIn a 0 (many - 1) && ((decide (1 ≤ (bs.length : Int)) && decide ((bs.length : Int) ≤ 16)) && allIn bs 0 1)))) [] := q2
      by_cases h1 : 1 ≤ ((bs.length : Nat) : Int)
      case neg =>
        refine seq_on [] (fun _ => False) (fun N hN => ?_) (fun cs h => h.elim)
        rw [decide_eq_false h1, Bool.false_and, Bool.false_and, Bool.and_false] at q3
        refine ⟨rfl, ?_⟩
        refine ifD (p := 1 ≤ ((bs.length : Nat) : Int)) (fun h => absurd h h1) (fun _ => ?_)
        exact q3
      by_cases h2 : ((bs.length : Nat) : Int) ≤ 16
      case neg =>
        refine seq_on [] (fun _ => False) (fun N hN => ?_) (fun cs h => h.elim)
        rw [decide_eq_true h1, Bool.true_and, decide_eq_false h2, Bool.false_and, Bool.and_false] at q3
        refine ⟨rfl, ?_⟩
        refine ifD (p := 1 ≤ ((bs.length : Nat) : Int)) (fun _ => ?_) (fun h => absurd h1 h)
        refine ifN (p := ((bs.length : Nat) : Int) ≤ 16) (fun _ => ?_) (fun h => absurd h h2)
        exact q3
      refine seq_on [] (fun cs => cs = []) (fun N hN => ?_) ?_
      · refine ⟨rfl, ?_⟩
        refine ifD (p := 1 ≤ ((bs.length : Nat) : Int)) (fun _ => ?_) (fun h => absurd h1 h)
        refine ifN (p := ((bs.length : Nat) : Int) ≤ 16) (fun h => absurd h2 h) (fun _ => ?_)
        exact hN [] rfl
      rintro cs rfl
      show sRet _ _ [_, _, _, _]
      rw [decide_eq_true h1, decide_eq_true h2, Bool.true_and, Bool.true_and] at q3
      refine ⟨rfl, .nil, a, 0, many - 1, rfl, hb.nd a (by simp), ?_⟩
      cases h3 : isIn a 0 (many - 1) with
      | true => rw [h3] at q3; exact ⟨rfl, .nil, bs, 0, 1, rfl, fun x hx => gd_nd (gd_all.1 gbs x hx), lbs, q3⟩
      | false => rw [h3] at q3; exact q3
    | dict _ => cases nb
    | _ =>
      refine seq_on [] (fun _ => False) (fun N hN => ?_) (fun cs h => h.elim)
      rw [show bitsB _ = false from rfl, Bool.and_false] at q2
      exact ⟨rfl, q2⟩
  refine seq_on [] (fun cs => cs = []) (fun N hN => optD_of (at_hd _ _) (ifD (fun h => absurd h z3) (fun _ => hN [] rfl))) ?_
  rintro cs rfl
  show sSeq _ _ _ [_, _, _, _]
  by_cases z4 : z = "keeper"
  · obtain ⟨a, b, c, e, f, rfl⟩ := lens5 (xs := xs) (by
      have e : (kdGet sizesK z).getD 0 = 6 := by subst z4; rfl
      omega)
    have q' : post (.sh (.bool (((allIn [a, b] 0 (many - 1) && mkB c) && isIn e 1 64) && dIn e f))) [] := by subst z4; exact q
    refine seq_on [] (fun _ => False) (fun N hN => ?_) (fun cs h => h.elim)
    refine ifD (p := z = "keeper") (fun _ => ?_) (fun h => absurd z4 h)
    show sSeq _ _ _ [_, _, _, _]
    have nab : ndAll [a, b] := fun x hx => hb.nd x (by simp at hx ⊢; rcases hx with h | h <;> simp [h])
    by_cases h1 : allIn [a, b] 0 (many - 1) = true
    case neg =>
      have h1 : allIn [a, b] 0 (many - 1) = false := by simpa using h1
      refine seq_on [] (fun _ => False) (fun N hN => ?_) (fun cs h => h.elim)
      refine ⟨rfl, .nil, [a, b], 0, many - 1, rfl, nab, by show 2 ≤ _; omega, ?_⟩
      rw [h1] at q' ⊢
      exact q'
    by_cases h2 : mkB c = true
    case neg =>
      have h2 : mkB c = false := by simpa using h2
      refine seq_on [] (fun _ => False) (fun N hN => ?_) (fun cs h => h.elim)
      refine ⟨rfl, .nil, [a, b], 0, many - 1, rfl, nab, by show 2 ≤ _; omega, ?_⟩
      rw [h1, h2] at q'
      rw [h1]
      refine ⟨rfl, .nil, B, S, c, rfl, hb.gd (by simp), hb.wt (by simp), yn_mk ?_⟩
      rw [h2]
      exact q'
    refine seq_on [] (fun cs => cs = []) (fun N hN => ?_) ?_
    · refine ⟨rfl, .nil, [a, b], 0, many - 1, rfl, nab, by show 2 ≤ _; omega, ?_⟩
      rw [h1]
      refine ⟨rfl, .nil, B, S, c, rfl, hb.gd (by simp), hb.wt (by simp), yn_mk ?_⟩
      rw [h2]
      exact hN [] rfl
    rintro cs rfl
    show sRet _ _ [_, _, _, _]
    rw [h1, h2] at q'
    refine ⟨rfl, .nil, e, 1, 64, rfl, hb.nd e (by simp), ?_⟩
    by_cases h3 : isIn e 1 64 = true
    · rw [h3] at q' ⊢
      obtain ⟨i, rfl, _⟩ := isIn_iff.1 h3
      exact ⟨rfl, .nil, f, 0, i, rfl, hb.nd f (by simp), q'⟩
    · have h3 : isIn e 1 64 = false := by simpa using h3
      rw [h3] at q' ⊢
      exact q'
  refine seq_on [] (fun cs => cs = []) (fun N hN => optD_of (at_hd _ _) (ifD (fun h => absurd h z4) (fun _ => hN [] rfl))) ?_
  rintro cs rfl
  show sRet _ _ [_, _, _, _]
  cases hs : kdGet sidesK z with
  | none =>
    rw [hs] at hsz
    have hsz : (kdGet sizesK z).getD 0 = (if z = "make" then 3 else if z = "keep" then 4 else if z = "late" then 3 else if z = "keeper" then 6 else 0) := hsz
    rw [if_neg z1, if_neg z2, if_neg z3, if_neg z4] at hsz
    omega
  | some n =>
    rw [hs] at hsz q0
    have q1 : post (.sh (.bool (decide ((xs.length : Int) = n) && allIn xs 0 (ahead - 1)))) [] := q0
    have hsz : (kdGet sizesK z).getD 0 = n + 1 := hsz
    rw [decide_eq_true (by omega), Bool.true_and] at q1
    refine ⟨rfl, .nil, xs, 0, ahead - 1, ?_, hb.nd, by omega, q1⟩
    show [Cell.sh (.tuple (cutD (PyData.str z :: xs) (some 1) none)), _, _] = _
    rw [drop_one]
def sp_law_due : DSp := sp_is_machine
theorem p_law_due (cs post) (h : sp_law_due cs post) : runD 3 (b_law_due sp_law_is_piece) cs post := by
  obtain ⟨B, S, d, rfl, hg, hw, q⟩ := h
  exact all_pieces (fun B S d a m P h1 h2 h3 => ⟨B, S, d, a, m, rfl, h1, h2, h3⟩) hg hw q
def sp_law_right : DSp := fun cs post => ∃ (B S : Nat) (d : D), cs = [.sh d] ∧ gd B S d = true ∧ wt d ≤ sizeLine ∧ post (.sh (.bool true)) []
theorem p_law_right (cs post) (h : sp_law_right cs post) : runD 3 (b_law_right sp_law_due sp_is_machine) cs post := by
  obtain ⟨B, S, d, rfl, hg, hw, q⟩ := h
  have hbig := line_big
  refine nrm_in ?_
  show sSeq _ _ _ [_, _, _]
  refine seq_on [1, 2] (fun cs => ∃ c1 c2, cs = [c1, c2]) (fun N hN => ?_) ?_
  · refine ⟨by decide, by decide, ?_⟩
    refine rng_on 0 2 [1, 2] _ (fun i cs => ∃ c1 c2, cs = [c1, c2]) ?_ ?_ ⟨_, _, rfl⟩
    · rintro i hi cs N2 ⟨c1, c2, rfl⟩ hN2
      refine nrm_in ?_
      show sSeq _ _ _ [_, _, _]
      refine seq_on [2] (fun cs => cs = [some (.sh (.bool (machB d)))]) (fun N hN => ⟨rfl, .nil, B, S, d, rfl, hg, hw, nrm_in (hN [_] rfl)⟩) ?_
      rintro cs rfl
      show sIf _ _ _ _ [_, _, _]
      refine ⟨rfl, rfl, .nil, B, S, d, rfl, hg, hw, ?_⟩
      refine ifN (p := machB d = machB d) (fun h => absurd rfl h) (fun _ => hN2 [_, _] ⟨_, _, rfl⟩)
    · rintro cs ⟨c1, c2, rfl⟩
      exact hN [_, _] ⟨_, _, rfl⟩
  rintro cs ⟨c1, c2, rfl⟩
  exact q
end K47
namespace K47
open PySem PySem.Spec PyProof.Rows DL L2 MK
/-! ### one part otherwise -/
structure Sp1 (B S : Nat) (d d' : D) : Prop where
  good : gd (1000 * B + 5000) (S + 1) d' = true
  long : wt d' ≤ 2 * wt d + 300
  deep : d'.depth ≤ d.depth + 1
theorem sp1_word {B S : Nat} {d : D} {z : Str} (h0 : PyData.strOk z = true) (h1 : z.length ≤ S + 1) (h2 : 10 * z.length + 2 ≤ 2 * wt d + 300) : Sp1 B S d (.str z) := ⟨by rw [gd, h0, decide_eq_true h1]; rfl, by rw [wt]; exact h2, by rw [PyData.depth]; exact Nat.zero_le _⟩
theorem sp1_int {B S : Nat} {d : D} {i : Int} (h : i.natAbs ≤ 1000 * B + 5000) : Sp1 B S d (.int i) := ⟨by rw [gd, decide_eq_true h], by rw [wt]; omega, by rw [PyData.depth]; exact Nat.zero_le _⟩
def sp_law_thing : DSp := fun cs post => ∃ (m : M) (n : Int) (B S : Nat) (d : D), cs = [.io m, .sh d] ∧ Box n m ∧ n + 2 < farB ∧ 20 ≤ S ∧ S ≤ 1000 ∧ gd B S d = true ∧ wt d ≤ 2 ^ 22 ∧ ∀ d' m', Sp1 B S d d' → Box (n + 2) m' → post (.sh d') [m']
theorem p_law_thing (cs post) (h : sp_law_thing cs post) : runD 6 (b_law_thing sp_take) cs post := by
  obtain ⟨m, n, B, S, d, rfl, bm, hn, hS, hS2, hg, hw, q⟩ := h
  have hf : farB = 1099511627776 := by decide
  have hbig := line_big
  have nd := gd_nd hg
  refine nrm_in ?_
  show sSeq _ _ _ [_, _, _, _, _, _]
  refine seq_on [0, 2, 3] (fun cs => ∃ (m : M) (way few : Int), cs = [some (.io m), some (.sh (.int way)), some (.sh (.int few))] ∧ 0 ≤ way ∧ way < 8 ∧ 0 ≤ few ∧ few < 18 ∧ Box (n + 2) m) (fun N hN => ?_) ?_
  · refine ⟨rfl, rfl, nd1 0, m, n, 8, rfl, bm, by omega, by decide, by decide, fun v m1 v0 v1 b1 => ?_⟩
    exact ⟨rfl, rfl, nd1 0, m1, n + 1, 18, rfl, b1, by omega, by decide, by decide, fun u m2 u0 u1 b2 => hN [_, _, _] ⟨m2, v, u, rfl, v0, v1, u0, u1, b2.le (by omega)⟩⟩
  rintro cs ⟨m1, way, few, rfl, w0, w1, f0, f1, b1⟩
  show sSeq _ _ _ [_, _, _, _, _, _]
  refine seq_on [] (fun cs => cs = []) (fun N hN => ?_) ?_
  · cases d with
    | int i =>
      have hi : i.natAbs ≤ B := by rw [gd, decide_eq_true_eq] at hg; exact hg
      refine ⟨rfl, rfl, ?_⟩
      refine ifD (p := way < 5) (fun h5 => ?_) (fun _ => hN [] rfl)
      show sSeq _ _ _ [_, _, _, _, _, _]
      refine seq_on [4] (fun cs => cs = [some (.sh (.list [.int 0, .int 1, .int 2, .int 5, .int 6, .int 7, .int 15, .int 16, .int 17, .int 23, .int 24, .int 25, .int 31, .int 63, .int 64, .int 65, .int 4096, .int 4097]))]) (fun N hN => ⟨sz18, nrm_in (hN [_] rfl)⟩) ?_
      rintro cs rfl
      show sRet _ _ [_, _, _, _, _, _]
      refine ⟨MulOk.right (by decide), at_all f0 (by exact f1) fun b hb => ⟨sz5, ?_⟩⟩
      refine at_all w0 (by exact h5) fun x hx => q x m1 ?_ b1
      simp only [List.mem_cons, List.not_mem_nil, or_false] at hx
      rcases hx with rfl | rfl | rfl | rfl | rfl
      · exact sp1_int (by omega)
      · exact sp1_int (by omega)
      · exact sp1_int (by omega)
      · exact sp1_int (by omega)
      · simp only [List.mem_cons, List.not_mem_nil, or_false] at hb
        rcases hb with rfl | rfl | rfl | rfl | rfl | rfl | rfl | rfl | rfl | rfl | rfl | rfl | rfl | rfl | rfl | rfl | rfl | rfl <;> exact sp1_int (by omega)
    | bool b => exact ⟨rfl, rfl, hN [] rfl⟩
    | dict _ => cases nd
    | _ => exact ⟨rfl, hN [] rfl⟩
  rintro cs rfl
  show sSeq _ _ _ [_, _, _, _, _, _]
  refine seq_on [] (fun cs => cs = []) (fun N hN => ?_) ?_
  · cases d with
    | str z =>
      have hz : z.length ≤ S ∧ PyData.strOk z = true := by rw [gd, Bool.and_eq_true, decide_eq_true_eq] at hg; exact hg
      have hzs : ("s" : Str).length = 1 := by decide
      have hzl : z.length + ("s" : Str).length ≤ sizeLine := by rw [hzs]; omega
      have e : wt (.str z) = 10 * z.length + 2 := by rw [wt]
      refine ⟨rfl, ?_⟩
      refine ifD (p := way < 5) (fun h5 => ?_) (fun _ => hN [] rfl)
      show sSeq _ _ _ [_, _, _, _, _, _]
      refine seq_on [5] (fun cs => cs = [some (.sh (.list [.str "make", .str "less", .str "both", .str "either", .str "oneof", .str "pick", .str "keep", .str "late", .str "keeper", .str "counter", .str "turned"]))]) (fun N hN => ⟨sz11, nrm_in (hN [_] rfl)⟩) ?_
      rintro cs rfl
      show sRet _ _ [_, _, _, _, _, _]
      refine ⟨hzl, by omega, sz7, sz18, ?_⟩
      refine at_all f0 (by exact f1) fun x hx => q x m1 ?_ b1
      have word : ∀ {z' : Str}, PyData.strOk z' = true → z'.length ≤ 10 → Sp1 B S (.str z) (.str z') := fun h1 h2 => sp1_word h1 (by omega) (by omega)
      simp only [List.cons_append, List.nil_append, List.mem_cons, List.not_mem_nil, or_false] at hx
      rcases hx with rfl | rfl | rfl | rfl | rfl | rfl | rfl | rfl | rfl | rfl | rfl | rfl | rfl | rfl | rfl | rfl | rfl | rfl
      · exact word (by decide +kernel) (by decide)
      · exact word (by decide +kernel) (by decide)
      · exact word (by decide +kernel) (by decide)
      · exact word (by decide +kernel) (by decide)
      · exact word (by decide +kernel) (by decide)
      · exact word (by decide +kernel) (by decide)
      · exact word (by decide +kernel) (by decide)
      · exact word (by decide +kernel) (by decide)
      · exact word (by decide +kernel) (by decide)
      · exact word (by decide +kernel) (by decide)
      · exact word (by decide +kernel) (by decide)
      · exact word (by decide +kernel) (by decide)
      · exact word (by decide +kernel) (by decide)
      · exact word (by decide +kernel) (by decide)
      · exact word (by decide +kernel) (by decide)
      · exact word (by decide +kernel) (by decide)
      · exact sp1_word (strOk_app hz.2 (by decide +kernel)) (by rw [len_app, hzs]; omega) (by rw [len_app, hzs, e]; omega)
      · exact sp1_word (strOk_cut hz.2 _ _).1 (Nat.le_trans (strOk_cut hz.2 _ _).2 (by omega)) (by have := (strOk_cut hz.2 none (some (-1))).2; rw [e]; omega)
    | dict _ => cases nd
    | _ => exact ⟨rfl, hN [] rfl⟩
  rintro cs rfl
  show sSeq _ _ _ [_, _, _, _, _, _]
  refine seq_on [] (fun cs => cs = []) (fun N hN => ?_) ?_
  · cases d with
    | tuple ds =>
      have gds : gdAll B S ds = true := by rw [gd] at hg; exact hg
      have wds : wt (.tuple ds) = wtAll ds + 3 := by rw [wt]
      have dds : (PyData.tuple ds).depth = PyData.depthAll ds + 1 := by rw [PyData.depth]
      have lds := wt_len ds
      have up : ∀ x ∈ ds, gd (1000 * B + 5000) (S + 1) x = true := fun x hx => gd_mono (by omega) (by omega) x (gd_all.1 gds x hx)
      refine ⟨rfl, ?_⟩
      refine ifD (p := way < 3) (fun h5 => ?_) (fun _ => hN [] rfl)
      have s1 : cutD ds (some 1) none = ds.drop 1 := cut_from _ _ (by decide)
      have s2 : cutD ds none (some 1) = ds.take 1 := cut_hi _ _ (by decide)
      have sp : wtAll (ds.take 1) + wtAll (ds.drop 1) = wtAll ds := by rw [← wt_app, List.take_append_drop]
      have sd : max (PyData.depthAll (ds.take 1)) (PyData.depthAll (ds.drop 1)) = PyData.depthAll ds := by rw [← depth_app, List.take_append_drop]
      have sl : (ds.take 1).length ≤ ds.length := by rw [List.length_take]; omega
      refine ⟨by rw [s2]; omega, sz3, ?_⟩
      refine at_all w0 (by exact h5) fun x hx => q x m1 ?_ b1
      simp only [List.mem_cons, List.not_mem_nil, or_false] at hx
      rcases hx with rfl | rfl | rfl
      · refine ⟨by rw [gd]; exact gd_all.2 up, by rw [wt, wds]; omega, by rw [PyData.depth, dds]; omega⟩
      · rw [s1]
        refine ⟨by rw [gd]; exact gd_all.2 fun x hx => up x (List.mem_of_mem_drop hx), by rw [wt, wds]; omega, by rw [PyData.depth, dds]; omega⟩
      · rw [s2]
        refine ⟨by rw [gd]; exact gd_all.2 fun x hx => (List.mem_append.1 hx).elim (up x) (fun h => up x (List.mem_of_mem_take h)), by rw [wt, wds, wt_app]; omega, by rw [PyData.depth, dds, depth_app]; omega⟩
    | dict _ => cases nd
    | _ => exact ⟨rfl, hN [] rfl⟩
  rintro cs rfl
  show sRet _ _ [_, _, _, _, _, _]
  refine ⟨sz0, sz0, sz1, sz2, sz4, sz11, MulOk.left (by decide), (show (0 : Int) < 11 by decide), ?_⟩
  refine at_all (by omega) (show (way + 3 * few) % 11 < 11 by omega) fun x hx => q x m1 ?_ b1
  simp only [List.mem_cons, List.not_mem_nil, or_false] at hx
  have small : gd 5000 1 x = true ∧ False → True := fun _ => trivial
  have up : ∀ {y : D}, gd 5000 20 y = true → wt y ≤ 300 → y.depth ≤ 1 → Sp1 B S d y := fun {y} h1 h2 h3 => ⟨gd_mono (by omega) (by omega) y h1, by omega, by omega⟩
  rcases hx with rfl | rfl | rfl | rfl | rfl | rfl | rfl | rfl | rfl | rfl | rfl <;> exact up (by simp only [gd, gdAll] <;> decide +kernel) (by simp only [wt, wtAll] <;> decide +kernel) (by simp only [PyData.depth, PyData.depthAll] <;> decide +kernel)
/-! ### one place otherwise -/
def sp_law_spoilt : Nat → DSp
  | 0 => fun _ _ => False
  | k + 1 => fun cs post => ∃ (m : M) (n : Int) (B S : Nat) (ds : List D), cs = [.io m, .sh (.tuple ds)] ∧ Box n m ∧ n + 10 * (k + 1 : Nat) < farB ∧ 20 ≤ S ∧ S ≤ 1000 ∧ 0 < ds.length ∧ gdAll B S ds = true ∧ wtAll ds ≤ 2 ^ 21 ∧ PyData.depthAll ds ≤ k ∧
    ∀ xs m', gdAll (1000 * B + 5000) (S + 1) xs = true → wtAll xs ≤ 2 * wtAll ds + 300 → PyData.depthAll xs ≤ PyData.depthAll ds + 1 → Box (n + 10 * (k + 1 : Nat)) m' → post (.sh (.tuple xs)) [m']
theorem sp_law_spoilt_none (cs post) (h : sp_law_spoilt 0 cs post) : False := h
theorem two_places {i j : Nat} {ds : List D} (h : i < j) (hj : j < ds.length) : ds = ds.take i ++ [ds[i]] ++ (ds.take j).drop (i + 1) ++ [ds[j]] ++ ds.drop (j + 1) := by
  have h1 : ds.take j = ds.take i ++ [ds[i]] ++ (ds.take j).drop (i + 1) := by
    have hl : i < (ds.take j).length := by rw [List.length_take]; omega
    have e := List.take_append_drop i (ds.take j)
    rw [List.drop_eq_getElem_cons hl, List.take_take, Nat.min_eq_left (by omega), List.getElem_take] at e
    rw [List.append_assoc, List.singleton_append]
    exact e.symm
  have h2 := List.take_append_drop j ds
  rw [List.drop_eq_getElem_cons hj] at h2
  rw [← h1, List.append_assoc, List.singleton_append]
  exact h2.symm
theorem p_law_spoilt (k : Nat) (cs post) (h : sp_law_spoilt (k + 1) cs post) : runD 8 (b_law_spoilt (sp_law_spoilt k) sp_take sp_law_thing) cs post := by
  obtain ⟨m, n, B, S, ds, rfl, bm, hn, hS, hS2, hl0, hg, hw, hd, q⟩ := h
  have hf : farB = 1099511627776 := by decide
  have hbig := line_big
  have lds := wt_len ds
  have hp : n + 10 ≤ n + 10 * (k + 1 : Nat) := by omega
  have up : ∀ x ∈ ds, gd (1000 * B + 5000) (S + 1) x = true := fun x hx => gd_mono (by omega) (by omega) x (gd_all.1 hg x hx)
  refine nrm_in ?_
  show sSeq _ _ _ [_, _, _, _, _, _, _, _]
  refine seq_on [0, 2, 3, 4] (fun cs => ∃ (m : M) (way deep : Int) (a : Nat), cs = [some (.io m), some (.sh (.int way)), some (.sh (.int (a : Nat))), some (.sh (.int deep))] ∧ a < ds.length ∧ Box (n + 3) m) (fun N hN => ?_) ?_
  · refine ⟨rfl, rfl, nd1 0, m, n, 6, rfl, bm, by omega, by decide, by decide, fun v m1 v0 v1 b1 => ?_⟩
    refine ⟨rfl, rfl, nd1 0, m1, n + 1, ((ds.length : Nat) : Int), rfl, b1, by omega, by omega, by omega, fun a m2 a0 a1 b2 => ?_⟩
    obtain ⟨a, rfl⟩ := Int.eq_ofNat_of_zero_le a0
    exact ⟨rfl, rfl, nd1 0, m2, n + 1 + 1, 4, rfl, b2, by omega, by decide, by decide, fun u m3 u0 u1 b3 => hN [_, _, _, _] ⟨m3, v, u, a, rfl, by omega, b3.le (by omega)⟩⟩
  rintro cs ⟨m1, way, deep, a, rfl, ha, b1⟩
  have ha0 : atI ds ((a : Nat) : Int) = some ds[a] := by rw [at_in (by omega) (by omega)]; simp
  have mc : ds[a] ∈ ds := List.getElem_mem ha
  generalize hc : ds[a] = c at *
  have gc := gd_all.1 hg c mc
  have wc := wt_mem mc
  have dc := depth_mem mc
  have s1 : cutD ds none (some ((a : Nat) : Int)) = ds.take a := by rw [cut_hi _ _ (by omega)]; rfl
  have s3 : cutD ds (some (((a : Nat) : Int) + 1)) none = ds.drop (a + 1) := by rw [cut_from _ _ (by omega), show (((a : Nat) : Int) + 1).toNat = a + 1 by omega]
  have s4 : cutD ds (some ((a : Nat) : Int)) none = ds.drop a := by rw [cut_from _ _ (by omega)]; rfl
  have l1 : (ds.take a).length = a := by rw [List.length_take]; omega
  have l3 : (ds.drop (a + 1)).length = ds.length - (a + 1) := List.length_drop
  have l4 : (ds.drop a).length = ds.length - a := List.length_drop
  have w1 : wtAll (ds.take a) + wtAll (ds.drop a) = wtAll ds := by rw [← wt_app, List.take_append_drop]
  have e4 : ds.drop a = c :: ds.drop (a + 1) := by rw [List.drop_eq_getElem_cons ha, hc]
  have w4 : wtAll (ds.drop a) = wt c + 2 + wtAll (ds.drop (a + 1)) := by rw [e4, wtAll]
  have d1 : max (PyData.depthAll (ds.take a)) (PyData.depthAll (ds.drop a)) = PyData.depthAll ds := by rw [← depth_app, List.take_append_drop]
  have d4 : PyData.depthAll (ds.drop a) = max c.depth (PyData.depthAll (ds.drop (a + 1))) := by rw [e4, PyData.depthAll]
  have wo : ∀ x : D, wtAll [x] = wt x + 2 := fun x => by rw [wtAll, wtAll]
  have dpo : ∀ x : D, PyData.depthAll [x] = x.depth := fun x => by rw [PyData.depthAll, PyData.depthAll]; omega
  have put : ∀ (c' : D) (m' : M), gd (1000 * B + 5000) (S + 1) c' = true → wt c' ≤ 2 * wt c + 300 → c'.depth ≤ PyData.depthAll ds + 1 → Box (n + 10 * (k + 1 : Nat)) m' → post (.sh (.tuple (ds.take a ++ [c'] ++ ds.drop (a + 1)))) [m'] := fun c' m' h1 h2 h3 h4 => by
    refine q _ m' (gd_all.2 fun x hx => ?_) ?_ ?_ h4
    · simp only [List.mem_append, List.mem_singleton] at hx
      rcases hx with (hx | hx) | hx
      · exact up x (List.mem_of_mem_take hx)
      · exact hx ▸ h1
      · exact up x (List.mem_of_mem_drop hx)
    · rw [wt_app, wt_app, wo]; omega
    · rw [depth_app, depth_app, dpo]; omega
  show sSeq _ _ _ [_, _, _, _, _, _, _, _]
  have nc := gd_nd gc
  -- deeper
  refine seq_on [] (fun cs => cs = []) (fun N hN => ?_) ?_
  · refine optD_of ha0 ?_
    cases c with
    | tuple ts =>
      refine ⟨rfl, optD_of ha0 ?_⟩
      refine ifD (p := ((ts.length : Nat) : Int) > 0) (fun ht => ?_) (fun _ => hN [] rfl)
      refine ifD (p := deep > 0) (fun hdp => ?_) (fun _ => hN [] rfl)
      have gts : gdAll B S ts = true := by rw [gd] at gc; exact gc
      have wts : wt (.tuple ts) = wtAll ts + 3 := by rw [wt]
      have dts : (PyData.tuple ts).depth = PyData.depthAll ts + 1 := by rw [PyData.depth]
      cases k with
      | zero => omega
      | succ k =>
        refine ⟨rfl, optD_of ha0 ⟨rfl, nd1 0, m1, n + 3, B, S, ts, rfl, b1, by omega, hS, hS2, by omega, gts, by omega, by omega, fun xs m' g1 g2 g3 g4 => ?_⟩⟩
        refine ⟨sz1, by rw [s1, l1]; show a + 1 ≤ _; omega, by rw [s1, s3]; simp only [List.length_append, List.length_cons, List.length_nil, l1, l3]; omega, ?_⟩
        rw [s1, s3]
        exact put (.tuple xs) m' (by rw [gd]; exact g1) (by rw [wt]; omega) (by rw [PyData.depth]; omega) (g4.le (by omega))
    | dict _ => cases nc
    | _ => exact ⟨rfl, hN [] rfl⟩
  rintro cs rfl
  show sSeq _ _ _ [_, _, _, _, _, _, _, _]
  refine seq_on [] (fun cs => cs = []) (fun N hN => ?_) ?_
  · refine ifD (fun _ => ?_) (fun _ => hN [] rfl)
    refine ⟨by rw [s1, s3, l1, l3]; omega, ?_⟩
    rw [s1, s3]
    refine q _ m1 (gd_all.2 fun x hx => ?_) (by rw [wt_app]; omega) (by rw [depth_app]; omega) (b1.le (by omega))
    exact (List.mem_append.1 hx).elim (fun h => up x (List.mem_of_mem_take h)) (fun h => up x (List.mem_of_mem_drop h))
  rintro cs rfl
  show sSeq _ _ _ [_, _, _, _, _, _, _, _]
  refine seq_on [] (fun cs => cs = []) (fun N hN => ?_) ?_
  · refine ifD (fun _ => ?_) (fun _ => hN [] rfl)
    refine optD_of ha0 ⟨sz1, by rw [s1, l1]; show a + 1 ≤ _; omega, by rw [s1, s4]; simp only [List.length_append, List.length_cons, List.length_nil, l1, l4]; omega, ?_⟩
    rw [s1, s4]
    refine q _ m1 (gd_all.2 fun x hx => ?_) (by rw [wt_app, wt_app, wo]; omega) (by rw [depth_app, depth_app, dpo]; omega) (b1.le (by omega))
    simp only [List.mem_append, List.mem_singleton] at hx
    rcases hx with (hx | hx) | hx
    · exact up x (List.mem_of_mem_take hx)
    · exact hx ▸ up c mc
    · exact up x (List.mem_of_mem_drop hx)
  rintro cs rfl
  show sSeq _ _ _ [_, _, _, _, _, _, _, _]
  refine seq_on [0, 5, 6, 7] (fun cs => ∃ (m : M) (c5 c6 c7 : Option Cell), cs = [some (.io m), c5, c6, c7] ∧ Box (n + 4) m) (fun N hN => ?_) ?_
  · refine ifD (fun _ => ?_) (fun _ => hN [_, _, _, _] ⟨m1, _, _, _, rfl, b1.le (by omega)⟩)
    show sSeq _ _ _ [_, _, _, _, _, _, _, _]
    refine seq_on [0, 5] (fun cs => ∃ (m : M) (b : Nat), cs = [some (.io m), some (.sh (.int (b : Nat)))] ∧ b < ds.length ∧ Box (n + 4) m) (fun N hN => ?_) ?_
    · refine ⟨rfl, rfl, nd1 0, m1, n + 3, ((ds.length : Nat) : Int), rfl, b1, by omega, by omega, by omega, fun b m2 b0 b1' b2 => ?_⟩
      obtain ⟨b, rfl⟩ := Int.eq_ofNat_of_zero_le b0
      exact nrm_in (hN [_, _] ⟨m2, b, rfl, by omega, b2.le (by omega)⟩)
    rintro cs ⟨m2, b, rfl, hb, b2⟩
    show sSeq _ _ _ [_, _, _, _, _, _, _, _]
    refine seq_on [6, 7] (fun cs => ∃ i j : Nat, cs = [some (.sh (.int (i : Nat))), some (.sh (.int (j : Nat)))] ∧ i < ds.length ∧ j < ds.length) (fun N hN => ?_) ?_
    · obtain ⟨i, hi, e1⟩ : ∃ i : Nat, i < ds.length ∧ (if ((b : Nat) : Int) < ((a : Nat) : Int) then ((b : Nat) : Int) else ((a : Nat) : Int)) = (i : Nat) := by
        split
        · exact ⟨b, hb, rfl⟩
        · exact ⟨a, ha, rfl⟩
      obtain ⟨j, hj, e2⟩ : ∃ j : Nat, j < ds.length ∧ (if ((b : Nat) : Int) > ((a : Nat) : Int) then ((b : Nat) : Int) else ((a : Nat) : Int)) = (j : Nat) := by
        split
        · exact ⟨b, hb, rfl⟩
        · exact ⟨a, ha, rfl⟩
      have := hN [_, _] ⟨i, j, rfl, hi, hj⟩
      rw [← e1, ← e2] at this
      exact this
    rintro cs ⟨i, j, rfl, hi, hj⟩
    show sIf _ _ _ _ [_, _, _, _, _, _, _, _]
    refine ifD (p := ((i : Nat) : Int) < ((j : Nat) : Int)) (fun hij => ?_) (fun _ => hN [_, _, _, _] ⟨m2, _, _, _, rfl, b2⟩)
    have hij : i < j := by omega
    have i0 : atI ds ((i : Nat) : Int) = some ds[i] := by rw [at_in (by omega) (by omega)]; simp
    have j0 : atI ds ((j : Nat) : Int) = some ds[j] := by rw [at_in (by omega) (by omega)]; simp
    have t1 : cutD ds none (some ((i : Nat) : Int)) = ds.take i := by rw [cut_hi _ _ (by omega)]; rfl
    have t2 : cutD ds (some (((i : Nat) : Int) + 1)) (some ((j : Nat) : Int)) = (ds.take j).drop (i + 1) := by
      rw [cut_lo _ _ _ (by omega) (by omega), show (((i : Nat) : Int) + 1).toNat = i + 1 by omega]; rfl
    have t3 : cutD ds (some (((j : Nat) : Int) + 1)) none = ds.drop (j + 1) := by rw [cut_from _ _ (by omega), show (((j : Nat) : Int) + 1).toNat = j + 1 by omega]
    have tp := two_places hij hj
    have tw := congrArg wtAll tp
    have tl := congrArg List.length tp
    have td := congrArg PyData.depthAll tp
    rw [wt_app, wt_app, wt_app, wt_app, wo, wo] at tw
    rw [depth_app, depth_app, depth_app, depth_app, dpo, dpo] at td
    simp only [List.length_append, List.length_cons, List.length_nil] at tl
    refine optD_of j0 ⟨sz1, by rw [t1]; show _ + 1 ≤ _; omega, by rw [t1, t2]; simp only [List.length_append, List.length_cons, List.length_nil]; omega, optD_of i0 ⟨sz1, by rw [t1, t2]; simp only [List.length_append, List.length_cons, List.length_nil]; omega, by rw [t1, t2, t3]; simp only [List.length_append, List.length_cons, List.length_nil]; omega, ?_⟩⟩
    rw [t1, t2, t3]
    refine q _ m2 (gd_all.2 fun x hx => ?_) (by rw [wt_app, wt_app, wt_app, wt_app, wo, wo]; omega) (by rw [depth_app, depth_app, depth_app, depth_app, dpo, dpo]; omega) (b2.le (by omega))
    simp only [List.mem_append, List.mem_singleton] at hx
    rcases hx with (((hx | hx) | hx) | hx) | hx
    · exact up x (List.mem_of_mem_take hx)
    · exact hx ▸ up _ (List.getElem_mem hj)
    · exact up x (List.mem_of_mem_take (List.mem_of_mem_drop hx))
    · exact hx ▸ up _ (List.getElem_mem hi)
    · exact up x (List.mem_of_mem_drop hx)
  rintro cs ⟨m2, c5, c6, c7, rfl, b2⟩
  show sRet _ _ [_, _, _, _, _, _, _, _]
  refine ⟨rfl, optD_of ha0 ⟨rfl, nd1 0, m2, n + 4, B, S, c, rfl, b2, by omega, hS, hS2, gc, by omega, fun c' m3 hc' b3 => ?_⟩⟩
  refine ⟨sz1, by rw [s1, l1]; show a + 1 ≤ _; omega, by rw [s1, s3]; simp only [List.length_append, List.length_cons, List.length_nil, l1, l3]; omega, ?_⟩
  rw [s1, s3]
  exact put c' m3 hc'.good hc'.long (by have := hc'.deep; omega) (b3.le (by omega))
end K47
namespace K47
open PySem PySem.Spec PyProof.Rows DL L2 MK
/-! ### machines drawn -/
theorem allIn_of {xs : List D} {lo hi : Int} (h : ∀ x ∈ xs, ∃ k : Int, x = .int k ∧ lo ≤ k ∧ k ≤ hi) : allIn xs lo hi = true := by
  unfold allIn
  rw [List.all_eq_true]
  intro x hx
  obtain ⟨k, rfl, h1, h2⟩ := h x hx
  exact isIn_iff.2 ⟨k, rfl, h1, h2⟩
abbrev PT (d : D) : Prop := Thing (10 ^ 20) 50 4000 5 d
theorem mk_maker {m : Mk} (ok : m.Ok) (hw : m.wraps ≤ 1) (hi : m.In (32 : Nat)) : Maker (mD m) ∧ Thing (10 ^ 20) 50 3300 3 (mD m) := by
  have h1 := wt_maker ok
  have h2 := depth_maker m
  have h3 : (m.round : Int) ≤ (32 : Nat) := In.round hi
  exact ⟨⟨m, rfl, ok, by omega, by omega⟩, ⟨gd_maker ok, by omega, by omega⟩⟩
theorem gdw {z : Str} (h : z.length ≤ 10) (h2 : PyData.strOk z = true) : gd (10 ^ 20) 50 (.str z) = true := by
  rw [gd, h2, decide_eq_true (by omega)]; rfl
theorem gdi {i : Int} (h : i.natAbs ≤ 10000) : gd (10 ^ 20) 50 (.int i) = true := by rw [gd, decide_eq_true_eq]; omega
theorem pt_of {z : Str} {xs : List D} (h1 : z.length ≤ 10) (h2 : PyData.strOk z = true) (h : gdAll (10 ^ 20) 50 xs = true) (hw : wtAll xs ≤ 3800) (hd : PyData.depthAll xs ≤ 4) : PT (.tuple (.str z :: xs)) := by
  refine ⟨by rw [gd, gdAll, gdw h1 h2, h]; rfl, by rw [wt, wtAll, wt]; omega, by rw [PyData.depth, PyData.depthAll, PyData.depth]; omega⟩
theorem ints_thing (ns : List Int) (h : ∀ i ∈ ns, i.natAbs ≤ 10000) : gdAll (10 ^ 20) 50 (ns.map PyData.int) = true ∧ wtAll (ns.map PyData.int) = 46 * ns.length ∧ PyData.depthAll (ns.map PyData.int) = 0 := by
  refine ⟨gd_all.2 fun x hx => ?_, ?_, depth_ints0 ns⟩
  · obtain ⟨i, hi, rfl⟩ := List.mem_map.1 hx
    exact gdi (h i hi)
  · clear h
    induction ns with
    | nil => rfl
    | cons n ns ih => rw [List.map_cons, wtAll, ih, wt, List.length_cons]; omega
/-- a piece of numbers alone -/
theorem pt_ints {z : Str} (ns : List Int) (h1 : z.length ≤ 10) (h2 : PyData.strOk z = true) (h : ∀ i ∈ ns, i.natAbs ≤ 10000) (hl : ns.length ≤ 6) : PT (.tuple (.str z :: ns.map PyData.int)) := by
  obtain ⟨a, b, c⟩ := ints_thing ns h
  exact pt_of h1 h2 a (by omega) (by omega)
theorem side_piece {z : Str} {n : Int} (hs : kdGet sidesK z = some n) (ns : List Int) (hl : (ns.length : Int) = n) {ahead many : Int} (h : ∀ k ∈ ns, 0 ≤ k ∧ k ≤ ahead - 1) : pieceB (.tuple (.str z :: ns.map PyData.int)) ahead many = true := by
  show pieceX z _ _ _ = true
  unfold pieceX
  rw [hs]
  show (decide (((ns.map PyData.int).length : Int) = n) && allIn (ns.map PyData.int) 0 (ahead - 1)) = true
  rw [List.length_map, decide_eq_true hl, Bool.true_and]
  refine allIn_of fun x hx => ?_
  obtain ⟨k, hk, rfl⟩ := List.mem_map.1 hx
  exact ⟨k, rfl, h k hk⟩
theorem ints_of {vs : List D} {P : Int → Prop} (h : ∀ v ∈ vs, ∃ k : Int, v = .int k ∧ P k) : ∃ ns : List Int, vs = ns.map PyData.int ∧ ∀ k ∈ ns, P k := by
  induction vs with
  | nil => exact ⟨[], rfl, fun k hk => (by cases hk)⟩
  | cons v vs ih =>
    obtain ⟨k, rfl, hk⟩ := h v List.mem_cons_self
    obtain ⟨ns, rfl, hn⟩ := ih fun v hv => h v (List.mem_cons_of_mem _ hv)
    refine ⟨k :: ns, rfl, fun j hj => ?_⟩
    rcases List.mem_cons.1 hj with rfl | hj
    · exact hk
    · exact hn j hj
def sp_law_machine : DSp := fun cs post => ∃ (m : M) (n : Int) (many : Nat), cs = [.io m, .sh (.int (many : Nat)), .sh (.int 8), .sh (.bool true)] ∧ Box n m ∧ n + 20000 < farB ∧ 1 ≤ many ∧ many ≤ 24 ∧
  ∀ xs m', xs.length = many → (xs.zipIdx.all fun p => pieceB p.1 (p.2 : Nat) (many : Nat)) = true → (∀ x ∈ xs, PT x) → Box (n + 20000) m' → post (.sh (.tuple xs)) [m']
theorem p_law_machine (cs post) (h : sp_law_machine cs post) : runD 17 (b_law_machine (sp_maker_c 4) sp_take) cs post := by
  obtain ⟨m, n, many, rfl, bm, hn, hm1, hm2, q⟩ := h
  have hf : farB = 1099511627776 := by decide
  have hbig := line_big
  refine nrm_in ?_
  show sSeq _ _ _ [_, _, _, _, _, _, _, _, _, _, _, _, _, _, _, _, _]
  refine seq_on [0, 4, 5] (fun cs => ∃ (m : M) (bare : Int), cs = [some (.io m), some (.own (.lst [])), some (.sh (.int bare))] ∧ 0 ≤ bare ∧ bare ≤ 2 ∧ Box (n + 1) m) (fun N hN => ?_) ?_
  · refine ⟨sz0, sz8, rfl, rfl, nd1 0, m, n, 8, rfl, bm, by omega, by decide, by decide, fun v m1 v0 v1 b1 => ?_⟩
    refine at_all v0 (by exact v1) fun x hx => ?_
    simp only [List.mem_cons, List.not_mem_nil, or_false] at hx
    rcases hx with rfl | rfl | rfl | rfl | rfl | rfl | rfl | rfl <;> exact ⟨MulOk.left (by decide), rfl, hN [_, _, _] ⟨m1, _, rfl, by decide, by decide, b1⟩⟩
  rintro cs ⟨m1, bare, rfl, hb0, hb2, b1⟩
  show sSeq _ _ _ [_, _, _, _, _, _, _, _, _, _, _, _, _, _, _, _, _]
  refine seq_on [0, 4, 6, 7, 8, 9, 10, 11, 12, 13, 14, 15, 16] (fun cs => ∃ (m : M) (xs : List D) (c6 c7 c8 c9 c10 c11 c12 c13 c14 c15 c16 : Option Cell), cs = [some (.io m), some (.own (.lst xs)), c6, c7, c8, c9, c10, c11, c12, c13, c14, c15, c16] ∧ xs.length = many ∧ (xs.zipIdx.all fun p => pieceB p.1 (p.2 : Nat) (many : Nat)) = true ∧ (∀ x ∈ xs, PT x) ∧ Box (n + 20000) m) (fun N hN => ?_) ?_
  · refine ⟨by omega, by omega, ?_⟩
    refine rng_on 0 many [0, 4, 6, 7, 8, 9, 10, 11, 12, 13, 14, 15, 16] _ (fun i cs => ∃ (m : M) (xs : List D) (c6 c7 c8 c9 c10 c11 c12 c13 c14 c15 c16 : Option Cell), cs = [some (.io m), some (.own (.lst xs)), c6, c7, c8, c9, c10, c11, c12, c13, c14, c15, c16] ∧ xs.length = i ∧ (xs.zipIdx.all fun p => pieceB p.1 (p.2 : Nat) (many : Nat)) = true ∧ (∀ x ∈ xs, PT x) ∧ Box (n + 1 + 600 * (i : Int)) m) ?_ ?_ ⟨m1, [], _, _, _, _, _, _, _, _, _, _, _, rfl, rfl, rfl, fun x hx => (by cases hx), b1.le (by omega)⟩
    · rintro i hi cs N2 ⟨m2, xs, c6, c7, c8, c9, c10, c11, c12, c13, c14, c15, c16, rfl, hl, hall, hpt, b2⟩ hN2
      rw [Int.zero_add]
      -- one piece more
      have add : ∀ (p : D) (m' : M) (c6 c7 c8 c9 c10 c11 c12 c13 c14 c15 c16 : Option Cell), pieceB p (i : Nat) (many : Nat) = true → PT p → Box (n + 1 + 600 * (i : Int) + 600) m' →
          N2 (putsC [0, 4, 6, 7, 8, 9, 10, 11, 12, 13, 14, 15, 16] [some (.io m'), some (.own (.lst (xs ++ [p]))), c6, c7, c8, c9, c10, c11, c12, c13, c14, c15, c16] [some (.io m1), some (.sh (.int (many : Nat))), some (.sh (.int 8)), some (.sh (.bool true)), some (.own (.lst [])), some (.sh (.int bare)), none, none, none, none, none, none, none, none, none, none, none]) := fun p m' c6 c7 c8 c9 c10 c11 c12 c13 c14 c15 c16 h1 h2 h3 => by
        refine hN2 [_, _, _, _, _, _, _, _, _, _, _, _, _] ⟨m', xs ++ [p], _, _, _, _, _, _, _, _, _, _, _, rfl, by rw [List.length_append, hl]; rfl, ?_, ?_, h3.le (by omega)⟩
        · rw [List.zipIdx_append, List.all_append, hall, Bool.true_and]
          simp only [List.zipIdx_cons, List.zipIdx_nil, List.all_cons, List.all_nil, Bool.and_true]
          rw [Nat.zero_add, hl]
          exact h1
        · intro x hx
          rcases List.mem_append.1 hx with h | h
          · exact hpt x h
          · rw [List.mem_singleton.1 h]; exact h2
      have hxl : xs.length < sizeLine := by omega
      refine nrm_in ?_
      show sSeq _ _ _ [_, _, _, _, _, _, _, _, _, _, _, _, _, _, _, _, _]
      refine seq_on [0, 7] (fun cs => ∃ (m : M) (way : Int), cs = [some (.io m), some (.sh (.int way))] ∧ 0 ≤ way ∧ way < 12 ∧ Box (n + 1 + 600 * (i : Int) + 1) m) (fun N hN => ?_) ?_
      · exact ⟨rfl, rfl, nd1 0, m2, _, 12, rfl, b2, by omega, by decide, by decide, fun v m3 v0 v1 b3 => nrm_in (hN [_, _] ⟨m3, v, rfl, v0, v1, b3⟩)⟩
      rintro cs ⟨m3, way0, rfl, w0, w1, b3⟩
      show sSeq _ _ _ [_, _, _, _, _, _, _, _, _, _, _, _, _, _, _, _, _]
      refine seq_on [7] (fun cs => ∃ (way : Int), cs = [some (.sh (.int way))] ∧ 0 ≤ way ∧ way < 12 ∧ (i = 0 → bare > 0 → 8 ≤ way)) (fun N hN => ?_) ?_
      · have hN : ∀ w : Int, 0 ≤ w → w < 12 → (i = 0 → bare > 0 → 8 ≤ w) → N [some (.io m3), some (.sh (.int (many : Nat))), some (.sh (.int 8)), some (.sh (.bool true)), some (.own (.lst xs)), some (.sh (.int bare)), some (.sh (.int (i : Nat))), some (.sh (.int w)), c8, c9, c10, c11, c12, c13, c14, c15, c16] := fun w h1 h2 h3 => hN [_] ⟨w, rfl, h1, h2, h3⟩
        have setC : 0 = 0 → 3 ≤ sizeLine ∧ optD (atI [PyData.int 2, .int 4, .int 2] bare) fun x => pMod (.int way0) x fun y => pAdd (.int 8) y fun z => N [some (.io m3), some (.sh (.int (many : Nat))), some (.sh (.int 8)), some (.sh (.bool true)), some (.own (.lst xs)), some (.sh (.int bare)), some (.sh (.int (i : Nat))), some (.sh z), c8, c9, c10, c11, c12, c13, c14, c15, c16] := fun _ => by
          refine ⟨sz3, at_all (l := [PyData.int 2, .int 4, .int 2]) hb0 (show bare < 3 by omega) fun x hx => ?_⟩
          simp only [List.mem_cons, List.not_mem_nil, or_false] at hx
          rcases hx with rfl | rfl | rfl
          · exact ⟨(show (0 : Int) < 2 by decide), hN _ (by omega) (by omega) (by omega)⟩
          · exact ⟨(show (0 : Int) < 4 by decide), hN _ (by omega) (by omega) (by omega)⟩
          · exact ⟨(show (0 : Int) < 2 by decide), hN _ (by omega) (by omega) (by omega)⟩
        refine ifD (p := bare = 2) (fun h2 => ?_) (fun h2 => ?_)
        · refine ifD (p := 2 ≤ way0) (fun h3 => ?_) (fun h3 => setC rfl)
          refine ifN (p := way0 < 10) (fun h4 => setC rfl) (fun h4 => ?_)
          refine ifD (p := bare > 0) (fun h5 => ?_) (fun h5 => absurd (by omega) h5)
          exact ifD (p := ((i : Nat) : Int) = 0) (fun h6 => setC rfl) (fun h6 => hN way0 w0 w1 (by omega))
        · refine ifD (p := bare > 0) (fun h5 => ?_) (fun h5 => hN way0 w0 w1 (by omega))
          exact ifD (p := ((i : Nat) : Int) = 0) (fun h6 => setC rfl) (fun h6 => hN way0 w0 w1 (by omega))
      clear w0 w1
      rintro cs ⟨way, rfl, w0, w1, hw8⟩
      show sSeq _ _ _ [_, _, _, _, _, _, _, _, _, _, _, _, _, _, _, _, _]
      refine seq_on [] (fun cs => cs = [] ∧ 2 ≤ way ∧ (i = 0 → 8 ≤ way)) (fun N hN => ?_) ?_
      · have make : ∀ E : DEnds, E.ct = N2 → sSeq (sSet 11 (eOp2 pIx (eFrz (oLst (aCons (eOp2 pAdd (eVar 2) (eC (.int 2))) (aCons (eC (.int 65)) aNil)))) (eCall pInt (aCons (eOp2 pEq (eCallF 2 sp_take (cIo 0 (cCons (eC (.int 8)) cNil))) (eC (.int 0))) aNil))))
            (sSeq (sDrop (eMutL 4 pApp (aCons (eTup (aCons (eC (.str "make")) (aCons (eCallF 3 (sp_maker_c 4) (cIo 0 (cCons (eCallF 2 sp_take (cIo 0 (cCons (eC (.int 2)) cNil))) (cCons (eVar 2) cNil)))) (aCons (eCallF 2 sp_take (cIo 0 (cCons (eCall pMin2 (aCons (eC (.int 65)) (aCons (eVar 11) aNil))) cNil))) aNil)))) aNil)))
              sCont) E [some (.io m3), some (.sh (.int (many : Nat))), some (.sh (.int 8)), some (.sh (.bool true)), some (.own (.lst xs)), some (.sh (.int bare)), some (.sh (.int (i : Nat))), some (.sh (.int way)), c8, c9, c10, c11, c12, c13, c14, c15, c16] := fun E hE => by
          refine seq_on [0, 11] (fun cs => ∃ (m : M) (top : Int), cs = [some (.io m), some (.sh (.int top))] ∧ 10 ≤ top ∧ top ≤ 65 ∧ Box (n + 1 + 600 * (i : Int) + 2) m) (fun N hN => ?_) ?_
          · refine ⟨sz2, rfl, rfl, nd1 0, m3, _, 8, rfl, b3, by omega, by decide, by decide, fun v m4 v0 v1 b4 => ?_⟩
            refine at_all (l := [PyData.int (8 + 2), .int 65]) (by split <;> decide) (by show (if _ then (1 : Int) else 0) < 2; split <;> decide) fun x hx => ?_
            simp only [List.mem_cons, List.not_mem_nil, or_false] at hx
            rcases hx with rfl | rfl <;> exact nrm_in (hN [_, _] ⟨m4, _, rfl, by decide, by decide, b4.le (by omega)⟩)
          rintro cs ⟨m4, top, rfl, t0, t1, b4⟩
          show sSeq _ _ _ [_, _, _, _, _, _, _, _, _, _, _, _, _, _, _, _, _]
          refine seq_on [0, 4] (fun cs => ∃ (m : M) (p : D), cs = [some (.io m), some (.own (.lst (xs ++ [p])))] ∧ pieceB p (i : Nat) (many : Nat) = true ∧ PT p ∧ Box (n + 1 + 600 * (i : Int) + 600) m) (fun N hN => ?_) ?_
          · refine ⟨rfl, rfl, rfl, rfl, rfl, nd1 0, m4, _, 2, rfl, b4, by omega, by decide, by decide, fun v m5 v0 v1 b5 => ?_⟩
            obtain ⟨v, rfl⟩ := Int.eq_ofNat_of_zero_le v0
            refine ⟨rfl, nd1 0, m5, _, v, 8, rfl, b5, by omega, show v ≤ 3 by omega, by omega, by decide, by decide, fun mk m6 ok wr ir b6 => ?_⟩
            obtain ⟨k1, k2⟩ := mk_maker ok (by omega) (In.mono ir (by unfold bnd; have : 4 ^ v ≤ 4 ^ 1 := Nat.pow_le_pow_right (by decide) (by omega)
                                                                      have h8 : max 8 4 = 8 := by decide
                                                                      rw [h8]; omega))
            refine ⟨rfl, rfl, nd1 0, m6, _, (if top < 65 then top else 65), rfl, b6, by omega, by split <;> omega, by split <;> omega, fun u m7 u0 u1 b7 => ?_⟩
            have hu : u < 65 := by
              have : (if top < 65 then top else 65) ≤ 65 := by split <;> omega
              omega
            refine ⟨sz3, hxl, hN [_, _] ⟨m7, _, rfl, ?_, ?_, b7.le (by omega)⟩⟩
            · show (mkB (mD mk) && isIn (.int u) 0 64) = true
              rw [mkB_iff.2 k1, Bool.true_and]
              exact isIn_iff.2 ⟨u, rfl, u0, by omega⟩
            · refine pt_of (by decide) (by decide +kernel) (by rw [gdAll, gdAll, gdAll, k2.good, gdi (by omega)]; rfl) ?_ ?_
              · have := k2.long
                simp only [wtAll, wt]; omega
              · have := k2.deep
                simp only [PyData.depthAll, PyData.depth]; omega
          rintro cs ⟨m5, p, rfl, p1, p2, b5⟩
          show E.ct _
          rw [hE]
          exact add p m5 _ _ _ _ _ _ _ _ _ _ _ p1 p2 b5
        have mkk : ∀ {E : DEnds}, E.ct = N2 → _ := fun {E} h => make E h
        refine ifD (p := ((i : Nat) : Int) = 0) (fun h1 => ?_) (fun h1 => ?_)
        · refine ifD (p := bare = 0) (fun h2 => mkk rfl) (fun h2 => ?_)
          exact ifD (p := way < 2) (fun h3 => mkk rfl) (fun h3 => hN [] ⟨rfl, by omega, fun h => hw8 h (by omega)⟩)
        · exact ifD (p := way < 2) (fun h3 => mkk rfl) (fun h3 => hN [] ⟨rfl, by omega, fun h => absurd h (by omega)⟩)
      rintro cs ⟨rfl, w2, hi8⟩
      show sSeq _ _ _ [_, _, _, _, _, _, _, _, _, _, _, _, _, _, _, _, _]
      refine seq_on [0, 8, 9, 10, 16] (fun cs => ∃ (m : M) (a b c : Int) (c16 : Option Cell), cs = [some (.io m), some (.sh (.int a)), some (.sh (.int b)), some (.sh (.int c)), c16] ∧ (0 ≤ a ∧ 0 ≤ b ∧ 0 ≤ c) ∧ (a < 24 ∧ b < 24) ∧ (1 ≤ i → a < (i : Nat) ∧ b < (i : Nat) ∧ c < (i : Nat)) ∧ Box (n + 1 + 600 * (i : Int) + 10) m) (fun N hN => ?_) ?_
      · have hmax : ∃ x : Nat, 1 ≤ x ∧ x ≤ 24 ∧ (1 ≤ i → x = i) ∧ (if ((i : Nat) : Int) > 1 then ((i : Nat) : Int) else 1) = (x : Nat) := by
          by_cases h : i ≤ 1
          · exact ⟨1, by omega, by omega, by omega, by rw [if_neg (by omega)]; rfl⟩
          · exact ⟨i, by omega, by omega, by omega, by rw [if_pos (by omega)]⟩
        obtain ⟨x, x1, x2, xi, ex⟩ := hmax
        refine ⟨by decide, by decide, by rw [rngD_len]; exact sz3, ?_⟩
        refine comp_draw 0 (n + 1 + 600 * (i : Int) + 1) (fun d => ∃ k : Int, d = .int k ∧ 0 ≤ k ∧ k < (x : Nat)) m3 b3 rfl (fun d hd k m q hk1 hk2 hb hq => ?_) (fun vs m' hl2 hP hb' => ?_)
        · rw [rngD_len] at hk2
          have hk3 : k < n + 1 + 600 * (i : Int) + 1 + 3 := hk2
          refine ⟨rfl, rfl, nd1 0, m, k, (if ((i : Nat) : Int) > 1 then ((i : Nat) : Int) else 1), rfl, hb, by omega, by omega, by omega, fun v m4 v0 v1 b4 => hq _ m4 ⟨v, rfl, v0, by omega⟩ b4 _ rfl⟩
        · rw [rngD_len] at hl2 hb'
          have hb2 : Box (n + 1 + 600 * (i : Int) + 1 + 3) m' := hb'
          match vs, hl2, hP with
          | [y1, y2, y3], _, hP =>
            obtain ⟨a, rfl, a0, a1⟩ := hP y1 (by simp)
            obtain ⟨b, rfl, b0, b1'⟩ := hP y2 (by simp)
            obtain ⟨c, rfl, c0, c1⟩ := hP y3 (by simp)
            refine ⟨rfl, nrm_in (nrm_in (nrm_in ?_))⟩
            unfold gsNil
            exact hN [_, _, _, _, _] ⟨m', a, b, c, _, rfl, ⟨a0, b0, c0⟩, ⟨by omega, by omega⟩, fun h => by have := xi h; omega, hb2.le (by omega)⟩
      rintro cs ⟨m4, a, b, c, c16', rfl, ⟨a0, bb0, c0⟩, ⟨a24, b24⟩, habc, b4⟩
      show sSeq _ _ _ [_, _, _, _, _, _, _, _, _, _, _, _, _, _, _, _, _]
      refine seq_on [] (fun cs => cs = [] ∧ 8 ≤ way) (fun N hN => ?_) ?_
      · refine ifD (p := way < 8) (fun h8 => ?_) (fun h8 => hN [] ⟨rfl, by omega⟩)
        have hi1 : 1 ≤ i := by omega
        obtain ⟨a1, bb1, c1⟩ := habc hi1
        show sSeq _ _ _ [_, _, _, _, _, _, _, _, _, _, _, _, _, _, _, _, _]
        refine seq_on [12] (fun cs => cs = [some (.sh (.list [.tuple [.str "less", .int a], .tuple [.str "both", .int a, .int b], .tuple [.str "either", .int a, .int b], .tuple [.str "oneof", .int a, .int b], .tuple [.str "pick", .int a, .int b, .int c]]))]) (fun N hN => ⟨sz2, sz3, sz3, sz3, sz4, sz5, nrm_in (hN [_] rfl)⟩) ?_
        rintro cs rfl
        show sSeq _ _ _ [_, _, _, _, _, _, _, _, _, _, _, _, _, _, _, _, _]
        refine seq_on [4] (fun cs => ∃ (p : D), cs = [some (.own (.lst (xs ++ [p])))] ∧ pieceB p (i : Nat) (many : Nat) = true ∧ PT p) (fun N hN => ?_) ?_
        · refine ⟨rfl, rfl, (show (0 : Int) < 2 by decide), sz4, sz1, sz6, ?_⟩
          refine at_all (l := [.tuple [.str "less", .int a], .tuple [.str "both", .int a, .int b], .tuple [.str "either", .int a, .int b], .tuple [.str "oneof", .int a, .int b], .tuple [.str "pick", .int a, .int b, .int c], .tuple [.str "keep", .int a, .int b, .int (c % 2)]]) (by omega) (show way - 2 < 6 by omega) fun p hp => ⟨hxl, hN [_] ⟨p, rfl, ?_⟩⟩
          have ia : ∀ ns : List Int, (∀ k ∈ ns, k = a ∨ k = b ∨ k = c) → ∀ k ∈ ns, 0 ≤ k ∧ k ≤ ((i : Nat) : Int) - 1 := fun ns h k hk => by rcases h k hk with rfl | rfl | rfl <;> omega
          have il : ∀ ns : List Int, (∀ k ∈ ns, k = a ∨ k = b ∨ k = c) → ∀ k ∈ ns, k.natAbs ≤ 10000 := fun ns h k hk => by rcases h k hk with rfl | rfl | rfl <;> omega
          simp only [List.mem_cons, List.not_mem_nil, or_false] at hp
          rcases hp with rfl | rfl | rfl | rfl | rfl | rfl
          · exact ⟨side_piece (z := "less") (n := 1) rfl [a] rfl (ia [a] (by simp)), pt_ints (z := "less") [a] (by decide) (by decide +kernel) (il [a] (by simp)) (by simp)⟩
          · exact ⟨side_piece (z := "both") (n := 2) rfl [a, b] rfl (ia [a, b] (by simp)), pt_ints (z := "both") [a, b] (by decide) (by decide +kernel) (il [a, b] (by simp)) (by simp)⟩
          · exact ⟨side_piece (z := "either") (n := 2) rfl [a, b] rfl (ia [a, b] (by simp)), pt_ints (z := "either") [a, b] (by decide) (by decide +kernel) (il [a, b] (by simp)) (by simp)⟩
          · exact ⟨side_piece (z := "oneof") (n := 2) rfl [a, b] rfl (ia [a, b] (by simp)), pt_ints (z := "oneof") [a, b] (by decide) (by decide +kernel) (il [a, b] (by simp)) (by simp)⟩
          · exact ⟨side_piece (z := "pick") (n := 3) rfl [a, b, c] rfl (ia [a, b, c] (by simp)), pt_ints (z := "pick") [a, b, c] (by decide) (by decide +kernel) (il [a, b, c] (by simp)) (by simp)⟩
          · refine ⟨?_, pt_ints (z := "keep") [a, b, c % 2] (by decide) (by decide +kernel) (fun k hk => by simp at hk; omega) (by simp)⟩
            show (allIn [.int a, .int b] 0 (((i : Nat) : Int) - 1) && isIn (.int (c % 2)) 0 1) = true
            rw [allIn_of (xs := [.int a, .int b]) (fun x hx => by
              simp only [List.mem_cons, List.not_mem_nil, or_false] at hx
              rcases hx with rfl | rfl
              · exact ⟨a, rfl, by omega, by omega⟩
              · exact ⟨b, rfl, by omega, by omega⟩), Bool.true_and]
            exact isIn_iff.2 ⟨_, rfl, by omega, by omega⟩
        rintro cs ⟨p, rfl, p1, p2⟩
        exact add p m4 _ _ _ _ _ _ _ _ _ _ _ p1 p2 (b4.le (by omega))
      rintro cs ⟨rfl, w8⟩
      show sSeq _ _ _ [_, _, _, _, _, _, _, _, _, _, _, _, _, _, _, _, _]
      refine seq_on [0, 8, 9, 16] (fun cs => ∃ (m : M) (a b : Int) (c16 : Option Cell), cs = [some (.io m), some (.sh (.int a)), some (.sh (.int b)), c16] ∧ (0 ≤ a ∧ 0 ≤ b) ∧ (a < (many : Nat) ∧ b < (many : Nat)) ∧ Box (n + 1 + 600 * (i : Int) + 20) m) (fun N hN => ?_) ?_
      · refine ⟨by decide, by decide, by rw [rngD_len]; exact sz2, ?_⟩
        refine comp_draw 0 (n + 1 + 600 * (i : Int) + 10) (fun d => ∃ k : Int, d = .int k ∧ 0 ≤ k ∧ k < (many : Nat)) m4 b4 rfl (fun d hd k m q hk1 hk2 hb hq => ?_) (fun vs m' hl2 hP hb' => ?_)
        · rw [rngD_len] at hk2
          have hk3 : k < n + 1 + 600 * (i : Int) + 10 + 2 := hk2
          refine ⟨rfl, rfl, nd1 0, m, k, ((many : Nat) : Int), rfl, hb, by omega, by omega, by omega, fun v m4 v0 v1 b4 => hq _ m4 ⟨v, rfl, v0, by omega⟩ b4 _ rfl⟩
        · rw [rngD_len] at hl2 hb'
          have hb2 : Box (n + 1 + 600 * (i : Int) + 10 + 2) m' := hb'
          match vs, hl2, hP with
          | [y1, y2], _, hP =>
            obtain ⟨a, rfl, a0, a1⟩ := hP y1 (by simp)
            obtain ⟨b, rfl, b0, b1'⟩ := hP y2 (by simp)
            refine ⟨rfl, nrm_in (nrm_in ?_)⟩
            unfold gsNil
            exact hN [_, _, _, _] ⟨m', a, b, _, rfl, ⟨a0, b0⟩, ⟨a1, b1'⟩, hb2.le (by omega)⟩
      clear a0 bb0 c0 a24 b24 habc
      rintro cs ⟨m5, a, b, c16'', rfl, ⟨a0, bb0⟩, ⟨a1, bb1⟩, b5⟩
      have two : allIn [.int a, .int b] 0 (((many : Nat) : Int) - 1) = true := allIn_of (xs := [.int a, .int b]) (fun x hx => by
        simp only [List.mem_cons, List.not_mem_nil, or_false] at hx
        rcases hx with rfl | rfl
        · exact ⟨a, rfl, by omega, by omega⟩
        · exact ⟨b, rfl, by omega, by omega⟩)
      show sIf _ _ _ _ [_, _, _, _, _, _, _, _, _, _, _, _, _, _, _, _, _]
      refine ifD (p := way < 10) (fun h10 => ?_) (fun h10 => ?_)
      · show sSeq _ _ _ [_, _, _, _, _, _, _, _, _, _, _, _, _, _, _, _, _]
        refine seq_on [0, 13] (fun cs => ∃ (m : M) (s : Int), cs = [some (.io m), some (.sh (.int s))] ∧ 1 ≤ s ∧ s ≤ 16 ∧ Box (n + 1 + 600 * (i : Int) + 21) m) (fun N hN => ?_) ?_
        · refine ⟨rfl, sz2, at_all (l := [PyData.int 3, .int 16]) (by omega) (show way - 8 < 2 by omega) fun x hx => ?_⟩
          simp only [List.mem_cons, List.not_mem_nil, or_false] at hx
          rcases hx with rfl | rfl
          · exact ⟨rfl, nd1 0, m5, _, 3, rfl, b5, by omega, by decide, by decide, fun v m6 v0 v1 b6 => nrm_in (hN [_, _] ⟨m6, _, rfl, by omega, by omega, b6.le (by omega)⟩)⟩
          · exact ⟨rfl, nd1 0, m5, _, 16, rfl, b5, by omega, by decide, by decide, fun v m6 v0 v1 b6 => nrm_in (hN [_, _] ⟨m6, _, rfl, by omega, by omega, b6.le (by omega)⟩)⟩
        rintro cs ⟨m6, s, rfl, s1, s2, b6⟩
        show sDrop _ _ [_, _, _, _, _, _, _, _, _, _, _, _, _, _, _, _, _]
        refine ⟨rfl, rfl, by omega, by omega, by rw [rngD_len]; omega, ?_⟩
        refine comp_draw 0 (n + 1 + 600 * (i : Int) + 21) (fun d => ∃ k : Int, d = .int k ∧ (0 ≤ k ∧ k ≤ 1)) m6 b6 rfl (fun d hd k m q hk1 hk2 hb hq => ?_) (fun vs m' hl2 hP hb' => ?_)
        · rw [rngD_len] at hk2
          exact ⟨rfl, rfl, nd1 0, m, k, 2, rfl, hb, by omega, by decide, by decide, fun v m4 v0 v1 b4 => hq _ m4 ⟨v, rfl, v0, by omega⟩ b4 _ rfl⟩
        · rw [rngD_len] at hl2 hb'
          obtain ⟨ns, rfl, hns⟩ := ints_of hP
          rw [List.length_map] at hl2
          obtain ⟨i1, i2, i3⟩ := ints_thing ns (fun k hk => by have := hns k hk; omega)
          refine ⟨sz3, hxl, add (.tuple [.str "late", .int a, .tuple (ns.map PyData.int)]) m' _ _ _ _ _ _ _ _ _ _ _ ?_ ?_ (hb'.le (by omega))⟩
          · show (allIn [.int a] 0 (((many : Nat) : Int) - 1) && ((decide (1 ≤ ((ns.map PyData.int).length : Int)) && decide (((ns.map PyData.int).length : Int) ≤ 16)) && allIn (ns.map PyData.int) 0 1)) = true
            rw [List.length_map, allIn_of (xs := [.int a]) (fun x hx => ⟨a, List.mem_singleton.1 hx, by omega, by omega⟩), decide_eq_true (by omega), decide_eq_true (by omega), allIn_of (xs := ns.map PyData.int) (fun x hx => by
              obtain ⟨k, hk, rfl⟩ := List.mem_map.1 hx
              exact ⟨k, rfl, hns k hk⟩)]
            rfl
          · refine pt_of (by decide) (by decide +kernel) ?_ ?_ ?_
            · rw [gdAll, gdAll, gdAll, gdi (by omega), gd, i1]; rfl
            · simp only [wtAll, wt]; omega
            · simp only [PyData.depthAll, PyData.depth]; omega
      · show sSeq _ _ _ [_, _, _, _, _, _, _, _, _, _, _, _, _, _, _, _, _]
        refine seq_on [0, 14] (fun cs => ∃ (m : M) (s : Int), cs = [some (.io m), some (.sh (.int s))] ∧ 1 ≤ s ∧ s ≤ 64 ∧ Box (n + 1 + 600 * (i : Int) + 23) m) (fun N hN => ?_) ?_
        · refine ⟨rfl, rfl, nd1 0, m5, _, 9, rfl, b5, by omega, by decide, by decide, fun v m6 v0 v1 b6 => ?_⟩
          refine ⟨rfl, rfl, nd1 0, m6, _, 64, rfl, b6, by omega, by decide, by decide, fun u m7 u0 u1 b7 => ?_⟩
          refine ⟨sz4, rfl, rfl, nd1 0, m7, _, 4, rfl, b7, by omega, by decide, by decide, fun w m8 w0 w1 b8 => ?_⟩
          refine at_all w0 (by exact w1) fun x hx => nrm_in ?_
          simp only [List.mem_cons, List.not_mem_nil, or_false] at hx
          rcases hx with rfl | rfl | rfl | rfl <;> exact hN [_, _] ⟨m8, _, rfl, by omega, by omega, b8.le (by omega)⟩
        rintro cs ⟨m6, hh, rfl, s1, s2, b6⟩
        show sSeq _ _ _ [_, _, _, _, _, _, _, _, _, _, _, _, _, _, _, _, _]
        refine seq_on [0, 15] (fun cs => ∃ (m : M) (mk : Mk), cs = [some (.io m), some (.sh (mD mk))] ∧ Maker (mD mk) ∧ Thing (10 ^ 20) 50 3300 3 (mD mk) ∧ Box (n + 1 + 600 * (i : Int) + 300) m) (fun N hN => ?_) ?_
        · refine ⟨rfl, rfl, rfl, nd1 0, m6, _, 2, rfl, b6, by omega, by decide, by decide, fun v m7 v0 v1 b7 => ?_⟩
          obtain ⟨v, rfl⟩ := Int.eq_ofNat_of_zero_le v0
          refine ⟨rfl, nd1 0, m7, _, v, 8, rfl, b7, by omega, show v ≤ 3 by omega, by omega, by decide, by decide, fun mk m8 ok wr ir b8 => ?_⟩
          obtain ⟨k1, k2⟩ := mk_maker ok (by omega) (In.mono ir (by unfold bnd; have : 4 ^ v ≤ 4 ^ 1 := Nat.pow_le_pow_right (by decide) (by omega)
                                                                    have h8 : max 8 4 = 8 := by decide
                                                                    rw [h8]; omega))
          exact nrm_in (hN [_, _] ⟨m8, mk, rfl, k1, k2, b8.le (by omega)⟩)
        rintro cs ⟨m7, mk, rfl, k1, k2, b7⟩
        show sDrop _ _ [_, _, _, _, _, _, _, _, _, _, _, _, _, _, _, _, _]
        refine ⟨rfl, rfl, rfl, rfl, nd1 0, m7, _, hh + 1, rfl, b7, by omega, by omega, by omega, fun u m8 u0 u1 b8 => ?_⟩
        refine ⟨sz6, hxl, add (.tuple [.str "keeper", .int a, .int b, mD mk, .int hh, .int u]) m8 _ _ _ _ _ _ _ _ _ _ _ ?_ ?_ (b8.le (by omega))⟩
        · show (((allIn [.int a, .int b] 0 (((many : Nat) : Int) - 1) && mkB (mD mk)) && isIn (.int hh) 1 64) && isIn (.int u) 0 hh) = true
          rw [two, mkB_iff.2 k1, isIn_iff.2 ⟨hh, rfl, s1, s2⟩, isIn_iff.2 ⟨u, rfl, u0, by omega⟩]; rfl
        · refine pt_of (by decide) (by decide +kernel) ?_ ?_ ?_
          · rw [gdAll, gdAll, gdAll, gdAll, gdAll, gdAll, gdi (by omega), gdi (by omega), gdi (by omega), gdi (by omega), k2.good]; rfl
          · have := k2.long
            simp only [wtAll, wt]; omega
          · have := k2.deep
            simp only [PyData.depthAll, PyData.depth]; omega
    · rintro cs ⟨m2, xs, c6, c7, c8, c9, c10, c11, c12, c13, c14, c15, c16, rfl, hl, hall, hpt, b2⟩
      exact hN [_, _, _, _, _, _, _, _, _, _, _, _, _] ⟨m2, xs, _, _, _, _, _, _, _, _, _, _, _, rfl, hl, hall, hpt, b2.le (by omega)⟩
  rintro cs ⟨m2, xs, c6, c7, c8, c9, c10, c11, c12, c13, c14, c15, c16, rfl, hl, hall, hpt, b2⟩
  exact q xs m2 hl hall hpt b2
end K47
namespace K47
open PySem PySem.Spec PyProof.Rows DL L2 MK
theorem spoil10 {m : M} {n : Int} {B S : Nat} {ds : List D} {post : Cell → List M → Prop} (bm : Box n m) (hn : n + 100 < farB) (hS : 20 ≤ S) (hS2 : S ≤ 1000) (hl : 0 < ds.length) (hg : gdAll B S ds = true) (hw : wtAll ds ≤ 2 ^ 21) (hd : PyData.depthAll ds ≤ 9)
    (q : ∀ xs m', gdAll (1000 * B + 5000) (S + 1) xs = true → wtAll xs ≤ 2 * wtAll ds + 300 → PyData.depthAll xs ≤ PyData.depthAll ds + 1 → Box (n + 100) m' → post (.sh (.tuple xs)) [m']) : sp_law_spoilt 10 [.io m, .sh (.tuple ds)] post := by
  refine ⟨m, n, B, S, ds, rfl, bm, ?_, hS, hS2, hl, hg, hw, hd, fun xs m' h1 h2 h3 h4 => q xs m' h1 h2 h3 ?_⟩
  · show n + 10 * ((9 + 1 : Nat) : Int) < farB
    omega
  · have h5 : Box (n + 10 * ((9 + 1 : Nat) : Int)) m' := h4
    exact h5.le (by omega)
theorem wt_many {w : Nat} : ∀ {xs : List D}, (∀ x ∈ xs, wt x ≤ w) → wtAll xs ≤ (w + 2) * xs.length
  | [], _ => by simp [wtAll]
  | x :: xs, h => by
    have h1 := h x List.mem_cons_self
    have h2 := wt_many (xs := xs) fun y hy => h y (List.mem_cons_of_mem _ hy)
    rw [wtAll, List.length_cons, Nat.mul_add]; omega
theorem wt_rep (xs : List D) : ∀ k : Nat, wtAll (List.replicate k xs).flatten = k * wtAll xs
  | 0 => by simp [wtAll]
  | k + 1 => by rw [List.replicate_succ, List.flatten_cons, wt_app, wt_rep xs k, Nat.succ_mul]; omega
theorem p_law (cs post) (h : spLaw cs post) : runD 7 (b_law sp_box sp_fold sp_law_machine sp_law_right (sp_law_spoilt 10) sp_take sp_is_machine) cs post := by
  have hfar : farB = 1099511627776 := by decide
  have hbig := line_big
  refine outer 3 (by decide) (by decide) ?_ cs post h
  intro ns es k m cs E hcs hk0 hk1 bm hE
  match cs, hcs with
  | [c4, c5, c6], _ =>
  show sSeq _ _ _ [_, _, _, _, _, _, _]
  refine seq_on [3, 4] (fun cs => ∃ (m : M) (xs : List D), cs = [some (.own m), some (.sh (.tuple xs))] ∧ 1 ≤ xs.length ∧ xs.length ≤ 24 ∧ (xs.zipIdx.all fun p => pieceB p.1 (p.2 : Nat) (xs.length : Nat)) = true ∧ (∀ x ∈ xs, PT x) ∧ Box 30000 m) (fun N hN => ?_) ?_
  · refine ⟨rfl, rfl, rfl, rfl, nd1 3, m, 0, 8, rfl, bm, by omega, by decide, by decide, fun v m1 v0 v1 b1 => ?_⟩
    refine ifD (p := v = 0) (fun _ => ?_) (fun _ => ?_)
    · refine ⟨rfl, nd1 3, m1, _, 24, rfl, b1, by omega, by decide, by decide, fun u m2 u0 u1 b2 => ?_⟩
      obtain ⟨u, rfl⟩ := Int.eq_ofNat_of_zero_le u0
      exact ⟨rfl, nd1 3, m2, 2, 1 + u, by rw [show (((1 + u : Nat)) : Int) = 1 + (u : Int) by omega], b2.le (by omega), by omega, by omega, by omega, fun xs m' hl ha hp hb' => nrm_in (hN [_, _] ⟨m', xs, rfl, by omega, by omega, by rw [hl]; exact ha, hp, hb'.le (by omega)⟩)⟩
    · refine ⟨rfl, nd1 3, m1, _, 9, rfl, b1, by omega, by decide, by decide, fun u m2 u0 u1 b2 => ?_⟩
      obtain ⟨u, rfl⟩ := Int.eq_ofNat_of_zero_le u0
      exact ⟨rfl, nd1 3, m2, 2, 1 + u, by rw [show (((1 + u : Nat)) : Int) = 1 + (u : Int) by omega], b2.le (by omega), by omega, by omega, by omega, fun xs m' hl ha hp hb' => nrm_in (hN [_, _] ⟨m', xs, rfl, by omega, by omega, by rw [hl]; exact ha, hp, hb'.le (by omega)⟩)⟩
  rintro cs ⟨m1, xs, rfl, l1, l2, hall, hpt, b1⟩
  have hwx : wtAll xs ≤ 4002 * xs.length := wt_many fun x hx => (hpt x hx).long
  have hgx : gdAll (10 ^ 20) 50 xs = true := gd_all.2 fun x hx => (hpt x hx).good
  have hdx : PyData.depthAll xs ≤ 5 := depthAll_le fun x hx => (hpt x hx).deep
  have hgt : gd (10 ^ 20) 50 (.tuple xs) = true := by rw [gd]; exact hgx
  have hwt : wt (.tuple xs) ≤ 100000 := by rw [wt]; omega
  have hmach : machB (.tuple xs) = true := by
    show ((decide (1 ≤ (xs.length : Int)) && decide ((xs.length : Int) ≤ 24)) && _) = true
    rw [decide_eq_true (by omega), decide_eq_true (by omega), hall]; rfl
  show sSeq _ _ _ [_, _, _, _, _, _, _]
  refine seq_on [] (fun cs => cs = []) (fun N hN => ?_) ?_
  · refine ⟨rfl, .nil, _, _, _, rfl, hgt, by omega, ?_⟩
    refine ⟨rfl, .nil, _, _, _, rfl, hgt, by omega, ?_⟩
    rw [hmach]
    exact hN [] rfl
  rintro cs rfl
  show sSeq _ _ _ [_, _, _, _, _, _, _]
  refine seq_on [3, 5, 6] (fun cs => ∃ (m : M) (c5 c6 : Option Cell), cs = [some (.own m), c5, c6]) (fun N hN => ?_) ?_
  · refine ⟨by omega, by omega, ?_⟩
    refine rng_on 0 12 [3, 5, 6] _ (fun i cs => ∃ (m : M) (c5 c6 : Option Cell), cs = [some (.own m), c5, c6] ∧ Box (30000 + 300 * (i : Int)) m) ?_ ?_ ⟨m1, _, _, rfl, b1.le (by omega)⟩
    · rintro i hi cs N2 ⟨m2, c5, c6, rfl, b2⟩ hN2
      refine nrm_in ?_
      show sSeq _ _ _ [_, _, _, _, _, _, _]
      refine seq_on [3, 6] (fun cs => ∃ (m : M) (ys : List D), cs = [some (.own m), some (.sh (.tuple ys))] ∧ gdAll (10 ^ 30) 51 ys = true ∧ wtAll ys ≤ 200000 ∧ PyData.depthAll ys ≤ 6 ∧ Box (30000 + 300 * (i : Int) + 100) m) (fun N hN => ?_) ?_
      · exact ⟨rfl, rfl, nd1 3, spoil10 b2 (by omega) (by decide) (by decide) (by omega) hgx (by omega) (by omega) fun ys m3 h1 h2 h3 h4 => nrm_in (hN [_, _] ⟨m3, ys, rfl, gdAll_mono (by decide) (by decide) _ h1, by omega, by omega, h4⟩)⟩
      rintro cs ⟨m3, ys, rfl, g1, g2, g3, b3⟩
      show sSeq _ _ _ [_, _, _, _, _, _, _]
      refine seq_on [3, 6] (fun cs => ∃ (m : M) (ys : List D), cs = [some (.own m), some (.sh (.tuple ys))] ∧ gdAll (10 ^ 40) 52 ys = true ∧ wtAll ys ≤ 500000 ∧ Box (30000 + 300 * (i : Int) + 300) m) (fun N hN => ?_) ?_
      · refine ⟨rfl, rfl, nd1 3, m3, _, 3, rfl, b3, by omega, by decide, by decide, fun v m4 v0 v1 b4 => ?_⟩
        refine ifD (p := v = 0) (fun _ => ?_) (fun _ => hN [_, _] ⟨m4, ys, rfl, gdAll_mono (by decide) (by decide) _ g1, by omega, b4.le (by omega)⟩)
        have sy : SeqAt.shaped (.tuple ys) = true := (Thing.mk (B := 10 ^ 30) (S := 51) (w := wt (.tuple ys)) (k := 7) (by rw [gd]; exact g1) (Nat.le_refl _) (by rw [PyData.depth]; omega)).shaped (by decide)
        refine ⟨sz0, sy, msh_nil, ?_⟩
        cases ys with
        | nil => exact hN [_, _] ⟨m4, [], rfl, gdAll_mono (by decide) (by decide) _ g1, by omega, b4.le (by omega)⟩
        | cons y ys =>
          refine bT (by show (!PyData.eqv (.tuple (y :: ys)) (.tuple [])) = true; simp [PyData.eqv, PyData.eqvAll]) ?_
          exact ⟨rfl, rfl, nd1 3, spoil10 b4 (by omega) (by decide) (by decide) (by simp) g1 (by omega) (by omega) fun zs m5 h1 h2 h3 h4 => nrm_in (hN [_, _] ⟨m5, zs, rfl, gdAll_mono (by decide) (by decide) _ h1, by omega, h4.le (by omega)⟩)⟩
      rintro cs ⟨m4, ys', rfl, g1', g2', b4⟩
      show sIf _ _ _ _ [_, _, _, _, _, _, _]
      exact ⟨rfl, .nil, _, _, _, rfl, by rw [gd]; exact g1', by rw [wt]; omega, hN2 [_, _, _] ⟨m4, _, _, rfl, b4.le (by omega)⟩⟩
    · rintro cs ⟨m2, c5, c6, rfl, b2⟩
      exact hN [_, _, _] ⟨m2, _, _, rfl⟩
  rintro cs ⟨m2, c5', c6', rfl⟩
  show sFor _ _ _ _ [_, _, _, _, _, _, _]
  obtain ⟨x0, xt, rfl⟩ : ∃ x t, xs = x :: t := by
    cases xs with
    | nil => simp at l1
    | cons x t => exact ⟨x, t, rfl⟩
  have h25 : ((x0 :: xt).length : Nat) * (25 : Int).toNat ≤ sizeLine := by
    have : (25 : Int).toNat = 25 := rfl
    rw [this]; omega
  refine ⟨sz0, sz0, sz1, optD_of (at_hd _ _) ⟨⟨by decide, by decide, h25⟩, sz0, sz1, sz11, ?_⟩⟩
  have g0 := (hpt x0 (by simp)).good
  have w0 := (hpt x0 (by simp)).long
  have all : ∀ x ∈ [PyData.none, .bool true, .int 7, .str "make", .tuple [], .list [], .list (x0 :: xt), .tuple [.tuple (x0 :: xt)], x0, .tuple (List.replicate (25 : Int).toNat (x0 :: xt)).flatten, .tuple [.tuple []]], gd (10 ^ 20) 50 x = true ∧ wt x ≤ sizeLine := fun x hx => by
    simp only [List.mem_cons, List.not_mem_nil, or_false] at hx
    rcases hx with rfl | rfl | rfl | rfl | rfl | rfl | rfl | rfl | rfl | rfl | rfl
    · exact ⟨by rw [gd], by rw [wt]; omega⟩
    · exact ⟨by rw [gd], by rw [wt]; omega⟩
    · exact ⟨gdi (by decide), by rw [wt]; omega⟩
    · exact ⟨gdw (by decide) (by decide +kernel), by rw [wt, show Str.length "make" = 4 by decide]; omega⟩
    · exact ⟨by rw [gd, gdAll], by rw [wt, wtAll]; omega⟩
    · exact ⟨by rw [gd, gdAll], by rw [wt, wtAll]; omega⟩
    · exact ⟨by rw [gd]; exact hgx, by rw [wt]; omega⟩
    · exact ⟨by rw [gd, gdAll, gdAll, hgt]; rfl, by rw [wt, wtAll, wtAll]; omega⟩
    · exact ⟨g0, by omega⟩
    · refine ⟨?_, ?_⟩
      · rw [gd]
        refine gd_all.2 fun y hy => ?_
        obtain ⟨l, hl, hy⟩ := List.mem_flatten.1 hy
        rw [(List.mem_replicate.1 hl).2] at hy
        exact gd_all.1 hgx y hy
      · rw [wt, wt_rep, show (25 : Int).toNat = 25 from rfl]; omega
    · exact ⟨by rw [gd, gdAll, gdAll, gd, gdAll]; rfl, by rw [wt, wtAll, wtAll, wt, wtAll]; omega⟩
  show loopD _ _ [PyData.none, .bool true, .int 7, .str "make", .tuple [], .list [], .list (x0 :: xt), .tuple [.tuple (x0 :: xt)], x0, .tuple (List.replicate (25 : Int).toNat (x0 :: xt)).flatten, .tuple [.tuple []]] _ [_, _, _, _, _, _, _]
  generalize [PyData.none, .bool true, .int 7, .str "make", .tuple [], .list [], .list (x0 :: xt), .tuple [.tuple (x0 :: xt)], x0, .tuple (List.replicate (25 : Int).toNat (x0 :: xt)).flatten, .tuple [.tuple []]] = ts at all
  rw [← List.map_id ts]
  refine map_on ts id [6] _ (fun i cs => ∃ c6, cs = [c6]) ?_ ?_ ⟨_, rfl⟩
  · rintro t ht cs N2 ⟨c6, rfl⟩ hN2
    obtain ⟨g, w⟩ := all _ (List.getElem_mem ht)
    show gNm 6 ts[t] _ _
    generalize ts[t] = x at g w
    refine nrm_in ?_
    show sIf _ _ _ _ [_, _, _, _, _, _, _]
    exact ⟨rfl, .nil, _, _, x, rfl, g, w, hN2 [_] ⟨_, rfl⟩⟩
  · rintro cs ⟨c6, rfl⟩
    exact hE _ _ rfl
end K47
end

section
set_option Elab.async false
set_option linter.all false
set_option maxRecDepth 100000
set_option maxHeartbeats 4000000
open PySem PySem.Spec PyProof.Rows L2 DL

namespace K47
theorem all_mk {P : Program} {w : World} {K : PySem.W.Frag} {h : Heap} {mg : Str → Option Value} {base : Heap} (X : K.In h) (G : h.Ns mainGlobals mg)
    {f0 : Addr} {oc0 : Value} {od0 an0 : Option Addr} {sl0 : Array (Option Value)} {kV0 dc0 pm0 cd0 ct0 : Value}
    (a0 : PySem.W.nsIn K mainGlobals "common_divisor" = some (some (.ref f0))) (l0 : K.lookup f0 = some ⟨oc0, od0, .func (PySem.W.fnOf "common_divisor" "common_divisor" (defArgs s_common_divisor) (defBody s_common_divisor) (defScope s_common_divisor) .none kV0 dc0 pm0 an0 cd0 ct0), sl0⟩) (c0 : PySem.W.codeIn K cd0 "common_divisor" = true) (k0 : PySem.W.keepIn K (.ref f0) = true)
    {f1 : Addr} {oc1 : Value} {od1 an1 : Option Addr} {sl1 : Array (Option Value)} {kV1 dc1 pm1 cd1 ct1 : Value}
    (a1 : PySem.W.nsIn K mainGlobals "is_number" = some (some (.ref f1))) (l1 : K.lookup f1 = some ⟨oc1, od1, .func (PySem.W.fnOf "is_number" "is_number" (defArgs s_is_number) (defBody s_is_number) (defScope s_is_number) .none kV1 dc1 pm1 an1 cd1 ct1), sl1⟩) (c1 : PySem.W.codeIn K cd1 "is_number" = true) (k1 : PySem.W.keepIn K (.ref f1) = true)
    {f2 : Addr} {oc2 : Value} {od2 an2 : Option Addr} {sl2 : Array (Option Value)} {kV2 dc2 pm2 cd2 ct2 : Value}
    (a2 : PySem.W.nsIn K mainGlobals "is_between" = some (some (.ref f2))) (l2 : K.lookup f2 = some ⟨oc2, od2, .func (PySem.W.fnOf "is_between" "is_between" (defArgs s_is_between) (defBody s_is_between) (defScope s_is_between) .none kV2 dc2 pm2 an2 cd2 ct2), sl2⟩) (c2 : PySem.W.codeIn K cd2 "is_between" = true) (k2 : PySem.W.keepIn K (.ref f2) = true)
    {f3 : Addr} {oc3 : Value} {od3 an3 : Option Addr} {sl3 : Array (Option Value)} {kV3 dc3 pm3 cd3 ct3 : Value}
    (a3 : PySem.W.nsIn K mainGlobals "power_of_two" = some (some (.ref f3))) (l3 : K.lookup f3 = some ⟨oc3, od3, .func (PySem.W.fnOf "power_of_two" "power_of_two" (defArgs s_power_of_two) (defBody s_power_of_two) (defScope s_power_of_two) .none kV3 dc3 pm3 an3 cd3 ct3), sl3⟩) (c3 : PySem.W.codeIn K cd3 "power_of_two" = true) (k3 : PySem.W.keepIn K (.ref f3) = true)
    {f4 : Addr} {oc4 : Value} {od4 an4 : Option Addr} {sl4 : Array (Option Value)} {kV4 dc4 pm4 cd4 ct4 : Value}
    (a4 : PySem.W.nsIn K mainGlobals "is_counter" = some (some (.ref f4))) (l4 : K.lookup f4 = some ⟨oc4, od4, .func (PySem.W.fnOf "is_counter" "is_counter" (defArgs s_is_counter) (defBody s_is_counter) (defScope s_is_counter) .none kV4 dc4 pm4 an4 cd4 ct4), sl4⟩) (c4 : PySem.W.codeIn K cd4 "is_counter" = true) (k4 : PySem.W.keepIn K (.ref f4) = true)
    {f5 : Addr} {oc5 : Value} {od5 an5 : Option Addr} {sl5 : Array (Option Value)} {kV5 dc5 pm5 cd5 ct5 : Value}
    (a5 : PySem.W.nsIn K mainGlobals "is_turned" = some (some (.ref f5))) (l5 : K.lookup f5 = some ⟨oc5, od5, .func (PySem.W.fnOf "is_turned" "is_turned" (defArgs s_is_turned) (defBody s_is_turned) (defScope s_is_turned) .none kV5 dc5 pm5 an5 cd5 ct5), sl5⟩) (c5 : PySem.W.codeIn K cd5 "is_turned" = true) (k5 : PySem.W.keepIn K (.ref f5) = true)
    {f6 : Addr} {oc6 : Value} {od6 an6 : Option Addr} {sl6 : Array (Option Value)} {kV6 dc6 pm6 cd6 ct6 : Value}
    (a6 : PySem.W.nsIn K mainGlobals "is_register" = some (some (.ref f6))) (l6 : K.lookup f6 = some ⟨oc6, od6, .func (PySem.W.fnOf "is_register" "is_register" (defArgs s_is_register) (defBody s_is_register) (defScope s_is_register) .none kV6 dc6 pm6 an6 cd6 ct6), sl6⟩) (c6 : PySem.W.codeIn K cd6 "is_register" = true) (k6 : PySem.W.keepIn K (.ref f6) = true)
    {f7 : Addr} {oc7 : Value} {od7 an7 : Option Addr} {sl7 : Array (Option Value)} {kV7 dc7 pm7 cd7 ct7 : Value}
    (a7 : PySem.W.nsIn K mainGlobals "is_table" = some (some (.ref f7))) (l7 : K.lookup f7 = some ⟨oc7, od7, .func (PySem.W.fnOf "is_table" "is_table" (defArgs s_is_table) (defBody s_is_table) (defScope s_is_table) .none kV7 dc7 pm7 an7 cd7 ct7), sl7⟩) (c7 : PySem.W.codeIn K cd7 "is_table" = true) (k7 : PySem.W.keepIn K (.ref f7) = true)
    {f8 : Addr} {oc8 : Value} {od8 an8 : Option Addr} {sl8 : Array (Option Value)} {kV8 dc8 pm8 cd8 ct8 : Value}
    (a8 : PySem.W.nsIn K mainGlobals "is_wrapped" = some (some (.ref f8))) (l8 : K.lookup f8 = some ⟨oc8, od8, .func (PySem.W.fnOf "is_wrapped" "is_wrapped" (defArgs s_is_wrapped) (defBody s_is_wrapped) (defScope s_is_wrapped) .none kV8 dc8 pm8 an8 cd8 ct8), sl8⟩) (c8 : PySem.W.codeIn K cd8 "is_wrapped" = true) (k8 : PySem.W.keepIn K (.ref f8) = true)
    {f9 : Addr} {oc9 : Value} {od9 an9 : Option Addr} {sl9 : Array (Option Value)} {kV9 dc9 pm9 cd9 ct9 : Value}
    (a9 : PySem.W.nsIn K mainGlobals "is_maker" = some (some (.ref f9))) (l9 : K.lookup f9 = some ⟨oc9, od9, .func (PySem.W.fnOf "is_maker" "is_maker" (defArgs s_is_maker) (defBody s_is_maker) (defScope s_is_maker) .none kV9 dc9 pm9 an9 cd9 ct9), sl9⟩) (c9 : PySem.W.codeIn K cd9 "is_maker" = true) (k9 : PySem.W.keepIn K (.ref f9) = true)
    {f10 : Addr} {oc10 : Value} {od10 an10 : Option Addr} {sl10 : Array (Option Value)} {kV10 dc10 pm10 cd10 ct10 : Value}
    (a10 : PySem.W.nsIn K mainGlobals "is_odd_together" = some (some (.ref f10))) (l10 : K.lookup f10 = some ⟨oc10, od10, .func (PySem.W.fnOf "is_odd_together" "is_odd_together" (defArgs s_is_odd_together) (defBody s_is_odd_together) (defScope s_is_odd_together) .none kV10 dc10 pm10 an10 cd10 ct10), sl10⟩) (c10 : PySem.W.codeIn K cd10 "is_odd_together" = true) (k10 : PySem.W.keepIn K (.ref f10) = true)
    {f11 : Addr} {oc11 : Value} {od11 an11 : Option Addr} {sl11 : Array (Option Value)} {kV11 dc11 pm11 cd11 ct11 : Value}
    (a11 : PySem.W.nsIn K mainGlobals "held_next" = some (some (.ref f11))) (l11 : K.lookup f11 = some ⟨oc11, od11, .func (PySem.W.fnOf "held_next" "held_next" (defArgs s_held_next) (defBody s_held_next) (defScope s_held_next) .none kV11 dc11 pm11 an11 cd11 ct11), sl11⟩) (c11 : PySem.W.codeIn K cd11 "held_next" = true) (k11 : PySem.W.keepIn K (.ref f11) = true)
    {f12 : Addr} {oc12 : Value} {od12 an12 : Option Addr} {sl12 : Array (Option Value)} {kV12 dc12 pm12 cd12 ct12 : Value}
    (a12 : PySem.W.nsIn K mainGlobals "held_round" = some (some (.ref f12))) (l12 : K.lookup f12 = some ⟨oc12, od12, .func (PySem.W.fnOf "held_round" "held_round" (defArgs s_held_round) (defBody s_held_round) (defScope s_held_round) .none kV12 dc12 pm12 an12 cd12 ct12), sl12⟩) (c12 : PySem.W.codeIn K cd12 "held_round" = true) (k12 : PySem.W.keepIn K (.ref f12) = true)
    {f13 : Addr} {oc13 : Value} {od13 an13 : Option Addr} {sl13 : Array (Option Value)} {kV13 dc13 pm13 cd13 ct13 : Value}
    (a13 : PySem.W.nsIn K mainGlobals "round_of" = some (some (.ref f13))) (l13 : K.lookup f13 = some ⟨oc13, od13, .func (PySem.W.fnOf "round_of" "round_of" (defArgs s_round_of) (defBody s_round_of) (defScope s_round_of) .none kV13 dc13 pm13 an13 cd13 ct13), sl13⟩) (c13 : PySem.W.codeIn K cd13 "round_of" = true) (k13 : PySem.W.keepIn K (.ref f13) = true)
    {f14 : Addr} {oc14 : Value} {od14 an14 : Option Addr} {sl14 : Array (Option Value)} {kV14 dc14 pm14 cd14 ct14 : Value}
    (a14 : PySem.W.nsIn K mainGlobals "is_number_to" = some (some (.ref f14))) (l14 : K.lookup f14 = some ⟨oc14, od14, .func (PySem.W.fnOf "is_number_to" "is_number_to" (defArgs s_is_number_to) (defBody s_is_number_to) (defScope s_is_number_to) .none kV14 dc14 pm14 an14 cd14 ct14), sl14⟩) (c14 : PySem.W.codeIn K cd14 "is_number_to" = true) (k14 : PySem.W.keepIn K (.ref f14) = true)
    {f15 : Addr} {oc15 : Value} {od15 an15 : Option Addr} {sl15 : Array (Option Value)} {kV15 dc15 pm15 cd15 ct15 : Value}
    (a15 : PySem.W.nsIn K mainGlobals "are_pieces" = some (some (.ref f15))) (l15 : K.lookup f15 = some ⟨oc15, od15, .func (PySem.W.fnOf "are_pieces" "are_pieces" (defArgs s_are_pieces) (defBody s_are_pieces) (defScope s_are_pieces) .none kV15 dc15 pm15 an15 cd15 ct15), sl15⟩) (c15 : PySem.W.codeIn K cd15 "are_pieces" = true) (k15 : PySem.W.keepIn K (.ref f15) = true)
    {f16 : Addr} {oc16 : Value} {od16 an16 : Option Addr} {sl16 : Array (Option Value)} {kV16 dc16 pm16 cd16 ct16 : Value}
    (a16 : PySem.W.nsIn K mainGlobals "is_keeper" = some (some (.ref f16))) (l16 : K.lookup f16 = some ⟨oc16, od16, .func (PySem.W.fnOf "is_keeper" "is_keeper" (defArgs s_is_keeper) (defBody s_is_keeper) (defScope s_is_keeper) .none kV16 dc16 pm16 an16 cd16 ct16), sl16⟩) (c16 : PySem.W.codeIn K cd16 "is_keeper" = true) (k16 : PySem.W.keepIn K (.ref f16) = true)
    {f17 : Addr} {oc17 : Value} {od17 an17 : Option Addr} {sl17 : Array (Option Value)} {kV17 dc17 pm17 cd17 ct17 : Value}
    (a17 : PySem.W.nsIn K mainGlobals "is_late" = some (some (.ref f17))) (l17 : K.lookup f17 = some ⟨oc17, od17, .func (PySem.W.fnOf "is_late" "is_late" (defArgs s_is_late) (defBody s_is_late) (defScope s_is_late) .none kV17 dc17 pm17 an17 cd17 ct17), sl17⟩) (c17 : PySem.W.codeIn K cd17 "is_late" = true) (k17 : PySem.W.keepIn K (.ref f17) = true)
    {f18 : Addr} {oc18 : Value} {od18 an18 : Option Addr} {sl18 : Array (Option Value)} {kV18 dc18 pm18 cd18 ct18 : Value}
    (a18 : PySem.W.nsIn K mainGlobals "is_piece" = some (some (.ref f18))) (l18 : K.lookup f18 = some ⟨oc18, od18, .func (PySem.W.fnOf "is_piece" "is_piece" (defArgs s_is_piece) (defBody s_is_piece) (defScope s_is_piece) .none kV18 dc18 pm18 an18 cd18 ct18), sl18⟩) (c18 : PySem.W.codeIn K cd18 "is_piece" = true) (k18 : PySem.W.keepIn K (.ref f18) = true)
    {f19 : Addr} {oc19 : Value} {od19 an19 : Option Addr} {sl19 : Array (Option Value)} {kV19 dc19 pm19 cd19 ct19 : Value}
    (a19 : PySem.W.nsIn K mainGlobals "is_machine" = some (some (.ref f19))) (l19 : K.lookup f19 = some ⟨oc19, od19, .func (PySem.W.fnOf "is_machine" "is_machine" (defArgs s_is_machine) (defBody s_is_machine) (defScope s_is_machine) .none kV19 dc19 pm19 an19 cd19 ct19), sl19⟩) (c19 : PySem.W.codeIn K cd19 "is_machine" = true) (k19 : PySem.W.keepIn K (.ref f19) = true)
    {f20 : Addr} {oc20 : Value} {od20 an20 : Option Addr} {sl20 : Array (Option Value)} {kV20 dc20 pm20 cd20 ct20 : Value}
    (a20 : PySem.W.nsIn K mainGlobals "_law_box" = some (some (.ref f20))) (l20 : K.lookup f20 = some ⟨oc20, od20, .func (PySem.W.fnOf "_law_box" "_law_box" (defArgs s_law_box) (defBody s_law_box) (defScope s_law_box) .none kV20 dc20 pm20 an20 cd20 ct20), sl20⟩) (c20 : PySem.W.codeIn K cd20 "_law_box" = true) (k20 : PySem.W.keepIn K (.ref f20) = true)
    {f21 : Addr} {oc21 : Value} {od21 an21 : Option Addr} {sl21 : Array (Option Value)} {kV21 dc21 pm21 cd21 ct21 : Value}
    (a21 : PySem.W.nsIn K mainGlobals "_law_take" = some (some (.ref f21))) (l21 : K.lookup f21 = some ⟨oc21, od21, .func (PySem.W.fnOf "_law_take" "_law_take" (defArgs s_law_take) (defBody s_law_take) (defScope s_law_take) .none kV21 dc21 pm21 an21 cd21 ct21), sl21⟩) (c21 : PySem.W.codeIn K cd21 "_law_take" = true) (k21 : PySem.W.keepIn K (.ref f21) = true)
    {f22 : Addr} {oc22 : Value} {od22 an22 : Option Addr} {sl22 : Array (Option Value)} {kV22 dc22 pm22 cd22 ct22 : Value}
    (a22 : PySem.W.nsIn K mainGlobals "_law_folded" = some (some (.ref f22))) (l22 : K.lookup f22 = some ⟨oc22, od22, .func (PySem.W.fnOf "_law_folded" "_law_folded" (defArgs s_law_folded) (defBody s_law_folded) (defScope s_law_folded) .none kV22 dc22 pm22 an22 cd22 ct22), sl22⟩) (c22 : PySem.W.codeIn K cd22 "_law_folded" = true) (k22 : PySem.W.keepIn K (.ref f22) = true)
    {f23 : Addr} {oc23 : Value} {od23 an23 : Option Addr} {sl23 : Array (Option Value)} {kV23 dc23 pm23 cd23 ct23 : Value}
    (a23 : PySem.W.nsIn K mainGlobals "_law_alone" = some (some (.ref f23))) (l23 : K.lookup f23 = some ⟨oc23, od23, .func (PySem.W.fnOf "_law_alone" "_law_alone" (defArgs s_law_alone) (defBody s_law_alone) (defScope s_law_alone) .none kV23 dc23 pm23 an23 cd23 ct23), sl23⟩) (c23 : PySem.W.codeIn K cd23 "_law_alone" = true) (k23 : PySem.W.keepIn K (.ref f23) = true)
    {f24 : Addr} {oc24 : Value} {od24 an24 : Option Addr} {sl24 : Array (Option Value)} {kV24 dc24 pm24 cd24 ct24 : Value}
    (a24 : PySem.W.nsIn K mainGlobals "_law_maker" = some (some (.ref f24))) (l24 : K.lookup f24 = some ⟨oc24, od24, .func (PySem.W.fnOf "_law_maker" "_law_maker" (defArgs s_law_maker) (defBody s_law_maker) (defScope s_law_maker) .none kV24 dc24 pm24 an24 cd24 ct24), sl24⟩) (c24 : PySem.W.codeIn K cd24 "_law_maker" = true) (k24 : PySem.W.keepIn K (.ref f24) = true)
    {f25 : Addr} {oc25 : Value} {od25 an25 : Option Addr} {sl25 : Array (Option Value)} {kV25 dc25 pm25 cd25 ct25 : Value}
    (a25 : PySem.W.nsIn K mainGlobals "_law_machine" = some (some (.ref f25))) (l25 : K.lookup f25 = some ⟨oc25, od25, .func (PySem.W.fnOf "_law_machine" "_law_machine" (defArgs s_law_machine) (defBody s_law_machine) (defScope s_law_machine) .none kV25 dc25 pm25 an25 cd25 ct25), sl25⟩) (c25 : PySem.W.codeIn K cd25 "_law_machine" = true) (k25 : PySem.W.keepIn K (.ref f25) = true)
    {f26 : Addr} {oc26 : Value} {od26 an26 : Option Addr} {sl26 : Array (Option Value)} {kV26 dc26 pm26 cd26 ct26 : Value}
    (a26 : PySem.W.nsIn K mainGlobals "_law_number" = some (some (.ref f26))) (l26 : K.lookup f26 = some ⟨oc26, od26, .func (PySem.W.fnOf "_law_number" "_law_number" (defArgs s_law_number) (defBody s_law_number) (defScope s_law_number) .none kV26 dc26 pm26 an26 cd26 ct26), sl26⟩) (c26 : PySem.W.codeIn K cd26 "_law_number" = true) (k26 : PySem.W.keepIn K (.ref f26) = true)
    {f27 : Addr} {oc27 : Value} {od27 an27 : Option Addr} {sl27 : Array (Option Value)} {kV27 dc27 pm27 cd27 ct27 : Value}
    (a27 : PySem.W.nsIn K mainGlobals "_law_all" = some (some (.ref f27))) (l27 : K.lookup f27 = some ⟨oc27, od27, .func (PySem.W.fnOf "_law_all" "_law_all" (defArgs s_law_all) (defBody s_law_all) (defScope s_law_all) .none kV27 dc27 pm27 an27 cd27 ct27), sl27⟩) (c27 : PySem.W.codeIn K cd27 "_law_all" = true) (k27 : PySem.W.keepIn K (.ref f27) = true)
    {f28 : Addr} {oc28 : Value} {od28 an28 : Option Addr} {sl28 : Array (Option Value)} {kV28 dc28 pm28 cd28 ct28 : Value}
    (a28 : PySem.W.nsIn K mainGlobals "_law_is_piece" = some (some (.ref f28))) (l28 : K.lookup f28 = some ⟨oc28, od28, .func (PySem.W.fnOf "_law_is_piece" "_law_is_piece" (defArgs s_law_is_piece) (defBody s_law_is_piece) (defScope s_law_is_piece) .none kV28 dc28 pm28 an28 cd28 ct28), sl28⟩) (c28 : PySem.W.codeIn K cd28 "_law_is_piece" = true) (k28 : PySem.W.keepIn K (.ref f28) = true)
    {f29 : Addr} {oc29 : Value} {od29 an29 : Option Addr} {sl29 : Array (Option Value)} {kV29 dc29 pm29 cd29 ct29 : Value}
    (a29 : PySem.W.nsIn K mainGlobals "_law_due" = some (some (.ref f29))) (l29 : K.lookup f29 = some ⟨oc29, od29, .func (PySem.W.fnOf "_law_due" "_law_due" (defArgs s_law_due) (defBody s_law_due) (defScope s_law_due) .none kV29 dc29 pm29 an29 cd29 ct29), sl29⟩) (c29 : PySem.W.codeIn K cd29 "_law_due" = true) (k29 : PySem.W.keepIn K (.ref f29) = true)
    {f30 : Addr} {oc30 : Value} {od30 an30 : Option Addr} {sl30 : Array (Option Value)} {kV30 dc30 pm30 cd30 ct30 : Value}
    (a30 : PySem.W.nsIn K mainGlobals "_law_thing" = some (some (.ref f30))) (l30 : K.lookup f30 = some ⟨oc30, od30, .func (PySem.W.fnOf "_law_thing" "_law_thing" (defArgs s_law_thing) (defBody s_law_thing) (defScope s_law_thing) .none kV30 dc30 pm30 an30 cd30 ct30), sl30⟩) (c30 : PySem.W.codeIn K cd30 "_law_thing" = true) (k30 : PySem.W.keepIn K (.ref f30) = true)
    {f31 : Addr} {oc31 : Value} {od31 an31 : Option Addr} {sl31 : Array (Option Value)} {kV31 dc31 pm31 cd31 ct31 : Value}
    (a31 : PySem.W.nsIn K mainGlobals "_law_spoilt" = some (some (.ref f31))) (l31 : K.lookup f31 = some ⟨oc31, od31, .func (PySem.W.fnOf "_law_spoilt" "_law_spoilt" (defArgs s_law_spoilt) (defBody s_law_spoilt) (defScope s_law_spoilt) .none kV31 dc31 pm31 an31 cd31 ct31), sl31⟩) (c31 : PySem.W.codeIn K cd31 "_law_spoilt" = true) (k31 : PySem.W.keepIn K (.ref f31) = true)
    {f32 : Addr} {oc32 : Value} {od32 an32 : Option Addr} {sl32 : Array (Option Value)} {kV32 dc32 pm32 cd32 ct32 : Value}
    (a32 : PySem.W.nsIn K mainGlobals "_law_right" = some (some (.ref f32))) (l32 : K.lookup f32 = some ⟨oc32, od32, .func (PySem.W.fnOf "_law_right" "_law_right" (defArgs s_law_right) (defBody s_law_right) (defScope s_law_right) .none kV32 dc32 pm32 an32 cd32 ct32), sl32⟩) (c32 : PySem.W.codeIn K cd32 "_law_right" = true) (k32 : PySem.W.keepIn K (.ref f32) = true)
    {f33 : Addr} {oc33 : Value} {od33 an33 : Option Addr} {sl33 : Array (Option Value)} {kV33 dc33 pm33 cd33 ct33 : Value}
    (a33 : PySem.W.nsIn K mainGlobals "law" = some (some (.ref f33))) (l33 : K.lookup f33 = some ⟨oc33, od33, .func (PySem.W.fnOf "law" "law" (defArgs s_law) (defBody s_law) (defScope s_law) .none kV33 dc33 pm33 an33 cd33 ct33), sl33⟩) (c33 : PySem.W.codeIn K cd33 "law" = true) (k33 : PySem.W.keepIn K (.ref f33) = true)
    (z0 : PySem.W.nsIn K mainGlobals "abs" = some none)
    (z1 : PySem.W.nsIn K mainGlobals "all" = some none)
    (z2 : PySem.W.nsIn K mainGlobals "bool" = some none)
    (z3 : PySem.W.nsIn K mainGlobals "divmod" = some none)
    (z4 : PySem.W.nsIn K mainGlobals "enumerate" = some none)
    (z5 : PySem.W.nsIn K mainGlobals "int" = some none)
    (z6 : PySem.W.nsIn K mainGlobals "isinstance" = some none)
    (z7 : PySem.W.nsIn K mainGlobals "len" = some none)
    (z8 : PySem.W.nsIn K mainGlobals "list" = some none)
    (z9 : PySem.W.nsIn K mainGlobals "max" = some none)
    (z10 : PySem.W.nsIn K mainGlobals "min" = some none)
    (z11 : PySem.W.nsIn K mainGlobals "range" = some none)
    (z12 : PySem.W.nsIn K mainGlobals "str" = some none)
    (z13 : PySem.W.nsIn K mainGlobals "tuple" = some none)
    {gt0 : Tok} (cn0 : PySem.W.nsIn K mainGlobals "MOST_BELOW" = some (some (.int 64 gt0)))
    {gt1 : Tok} (cn1 : PySem.W.nsIn K mainGlobals "MOST_KEPT" = some (some (.int 64 gt1)))
    {gt2 : Tok} (cn2 : PySem.W.nsIn K mainGlobals "MOST_LATE" = some (some (.int 16 gt2)))
    {gt3 : Tok} (cn3 : PySem.W.nsIn K mainGlobals "MOST_NUMBER" = some (some (.int 64 gt3)))
    {gt4 : Tok} (cn4 : PySem.W.nsIn K mainGlobals "MOST_PIECES" = some (some (.int 24 gt4)))
    {gt5 : Tok} (cn5 : PySem.W.nsIn K mainGlobals "MOST_ROUND" = some (some (.int 4096 gt5)))
    {gt6 : Tok} (cn6 : PySem.W.nsIn K mainGlobals "MOST_WIDE" = some (some (.int 6 gt6)))
    {gt7 : Tok} (cn7 : PySem.W.nsIn K mainGlobals "MOST_WRAPPED" = some (some (.int 3 gt7)))
    {ga8 : Addr} {go8 : Obj} (cn8 : PySem.W.nsIn K mainGlobals "WRAPPERS" = some (some (.ref ga8))) (cl8 : K.lookup ga8 = some go8) (ck8 : tupIs go8 (match c_WRAPPERS with | .tuple ds => ds | _ => []) = true)
    {ka0 : Addr} (kn0 : PySem.W.nsIn K mainGlobals "PARTS" = some (some (.ref ka0))) (kl0 : He.dicW K ka0 = some (He.keysIn w.params (dd_PARTS.map (·.1)))) (kb0 : kdB K ka0 dd_PARTS = true) :
    Def P w K mg base 13 "law" 1 spLaw := by
  have T : Txt w K mg := ⟨is_mk X G a0 l0 c0 k0 (fun _ _ _ _ _ _ us hl => match us, hl with | [_, _], _ => rfl),
    is_mk X G a1 l1 c1 k1 (fun _ _ _ _ _ _ us hl => match us, hl with | [_], _ => rfl),
    is_mk X G a2 l2 c2 k2 (fun _ _ _ _ _ _ us hl => match us, hl with | [_, _, _], _ => rfl),
    is_mk X G a3 l3 c3 k3 (fun _ _ _ _ _ _ us hl => match us, hl with | [_], _ => rfl),
    is_mk X G a4 l4 c4 k4 (fun _ _ _ _ _ _ us hl => match us, hl with | [_], _ => rfl),
    is_mk X G a5 l5 c5 k5 (fun _ _ _ _ _ _ us hl => match us, hl with | [_], _ => rfl),
    is_mk X G a6 l6 c6 k6 (fun _ _ _ _ _ _ us hl => match us, hl with | [_], _ => rfl),
    is_mk X G a7 l7 c7 k7 (fun _ _ _ _ _ _ us hl => match us, hl with | [_], _ => rfl),
    is_mk X G a8 l8 c8 k8 (fun _ _ _ _ _ _ us hl => match us, hl with | [_, _], _ => rfl),
    is_mk X G a9 l9 c9 k9 (fun _ _ _ _ _ _ us hl => match us, hl with | [_], _ => rfl),
    is_mk X G a10 l10 c10 k10 (fun _ _ _ _ _ _ us hl => match us, hl with | [_, _], _ => rfl),
    is_mk X G a11 l11 c11 k11 (fun _ _ _ _ _ _ us hl => match us, hl with | [_, _, _], _ => rfl),
    is_mk X G a12 l12 c12 k12 (fun _ _ _ _ _ _ us hl => match us, hl with | [_], _ => rfl),
    is_mk X G a13 l13 c13 k13 (fun _ _ _ _ _ _ us hl => match us, hl with | [_], _ => rfl),
    is_mk X G a14 l14 c14 k14 (fun _ _ _ _ _ _ us hl => match us, hl with | [_, _, _], _ => rfl),
    is_mk X G a15 l15 c15 k15 (fun _ _ _ _ _ _ us hl => match us, hl with | [_, _], _ => rfl),
    is_mk X G a16 l16 c16 k16 (fun _ _ _ _ _ _ us hl => match us, hl with | [_, _], _ => rfl),
    is_mk X G a17 l17 c17 k17 (fun _ _ _ _ _ _ us hl => match us, hl with | [_, _], _ => rfl),
    is_mk X G a18 l18 c18 k18 (fun _ _ _ _ _ _ us hl => match us, hl with | [_, _, _], _ => rfl),
    is_mk X G a19 l19 c19 k19 (fun _ _ _ _ _ _ us hl => match us, hl with | [_], _ => rfl),
    is_mk X G a20 l20 c20 k20 (fun _ _ _ _ _ _ us hl => match us, hl with | [_, _], _ => rfl),
    is_mk X G a21 l21 c21 k21 (fun _ _ _ _ _ _ us hl => match us, hl with | [_, _], _ => rfl),
    is_mk X G a22 l22 c22 k22 (fun _ _ _ _ _ _ us hl => match us, hl with | [_, _], _ => rfl),
    is_mk X G a23 l23 c23 k23 (fun _ _ _ _ _ _ us hl => match us, hl with | [_, _], _ => rfl),
    is_mk X G a24 l24 c24 k24 (fun _ _ _ _ _ _ us hl => match us, hl with | [_, _, _], _ => rfl),
    is_mk X G a25 l25 c25 k25 (fun _ _ _ _ _ _ us hl => match us, hl with | [_, _, _, _], _ => rfl),
    is_mk X G a26 l26 c26 k26 (fun _ _ _ _ _ _ us hl => match us, hl with | [_, _, _], _ => rfl),
    is_mk X G a27 l27 c27 k27 (fun _ _ _ _ _ _ us hl => match us, hl with | [_, _, _], _ => rfl),
    is_mk X G a28 l28 c28 k28 (fun _ _ _ _ _ _ us hl => match us, hl with | [_, _, _], _ => rfl),
    is_mk X G a29 l29 c29 k29 (fun _ _ _ _ _ _ us hl => match us, hl with | [_], _ => rfl),
    is_mk X G a30 l30 c30 k30 (fun _ _ _ _ _ _ us hl => match us, hl with | [_, _], _ => rfl),
    is_mk X G a31 l31 c31 k31 (fun _ _ _ _ _ _ us hl => match us, hl with | [_, _], _ => rfl),
    is_mk X G a32 l32 c32 k32 (fun _ _ _ _ _ _ us hl => match us, hl with | [_], _ => rfl),
    is_mk X G a33 l33 c33 k33 (fun _ _ _ _ _ _ us hl => match us, hl with | [_], _ => rfl),
    PySem.W.mg_none_of X G z0,
    PySem.W.mg_none_of X G z1,
    PySem.W.mg_none_of X G z2,
    PySem.W.mg_none_of X G z3,
    PySem.W.mg_none_of X G z4,
    PySem.W.mg_none_of X G z5,
    PySem.W.mg_none_of X G z6,
    PySem.W.mg_none_of X G z7,
    PySem.W.mg_none_of X G z8,
    PySem.W.mg_none_of X G z9,
    PySem.W.mg_none_of X G z10,
    PySem.W.mg_none_of X G z11,
    PySem.W.mg_none_of X G z12,
    PySem.W.mg_none_of X G z13,
    glob_int X G cn0,
    glob_int X G cn1,
    glob_int X G cn2,
    glob_int X G cn3,
    glob_int X G cn4,
    glob_int X G cn5,
    glob_int X G cn6,
    glob_int X G cn7,
    glob_tup X G cn8 cl8 ck8,
    kd_mk X G kn0 kl0 kb0⟩
  have D_common_divisor := w_common_divisor (P := P) (w := w) (base := base) T (fun cs post _ => p_common_divisor cs post)
  have D_is_number := w_is_number (P := P) (w := w) (base := base) T (fun cs post _ => p_is_number cs post)
  have D_is_between := w_is_between (P := P) (w := w) (base := base) T D_is_number (fun cs post _ => p_is_between cs post)
  have D_power_of_two := w_power_of_two (P := P) (w := w) (base := base) T (fun cs post _ => p_power_of_two cs post)
  have D_is_counter := w_is_counter (P := P) (w := w) (base := base) T D_common_divisor D_is_between (fun cs post _ => p_is_counter cs post)
  have D_is_turned := w_is_turned (P := P) (w := w) (base := base) T D_is_between D_power_of_two (fun cs post _ => p_is_turned cs post)
  have D_is_register := w_is_register (P := P) (w := w) (base := base) T D_is_between D_power_of_two (fun cs post _ => p_is_register cs post)
  have D_is_table := w_is_table (P := P) (w := w) (base := base) T D_is_between (fun cs post _ => p_is_table cs post)
  have D_is_wrapped_0 : Def P w K mg base 3 "is_wrapped" 2 (sp_is_wrapped 0) := def_no T.i_is_wrapped sp_is_wrapped_none
  have D_is_wrapped_1 := w_is_wrapped (P := P) (w := w) (base := base) (by decide) T D_is_between D_is_counter D_is_register D_is_table D_is_turned D_is_wrapped_0 (fun cs post _ => p_is_wrapped 0 cs post)
  have D_is_wrapped_2 := w_is_wrapped (P := P) (w := w) (base := base) (by decide) T D_is_between D_is_counter D_is_register D_is_table D_is_turned D_is_wrapped_1 (fun cs post _ => p_is_wrapped 1 cs post)
  have D_is_wrapped_3 := w_is_wrapped (P := P) (w := w) (base := base) (by decide) T D_is_between D_is_counter D_is_register D_is_table D_is_turned D_is_wrapped_2 (fun cs post _ => p_is_wrapped 2 cs post)
  have D_is_wrapped := w_is_wrapped (P := P) (w := w) (base := base) (by decide) T D_is_between D_is_counter D_is_register D_is_table D_is_turned D_is_wrapped_3 (fun cs post _ => p_is_wrapped 3 cs post)
  have D_is_odd_together := w_is_odd_together (P := P) (w := w) (base := base) T (fun cs post _ => p_is_odd_together cs post)
  have D_held_next := w_held_next (P := P) (w := w) (base := base) T D_is_odd_together D_power_of_two (fun cs post _ => p_held_next cs post)
  have D_held_round := w_held_round (P := P) (w := w) (base := base) T D_held_next (fun cs post _ => p_held_round cs post)
  have D_round_of_0 : Def P w K mg base 3 "round_of" 1 (sp_round_of 0) := def_no T.i_round_of sp_round_of_none
  have D_round_of_1 := w_round_of (P := P) (w := w) (base := base) (by decide) T D_common_divisor D_held_round D_power_of_two D_round_of_0 (fun cs post _ => p_round_of 0 cs post)
  have D_round_of_2 := w_round_of (P := P) (w := w) (base := base) (by decide) T D_common_divisor D_held_round D_power_of_two D_round_of_1 (fun cs post _ => p_round_of 1 cs post)
  have D_round_of_3 := w_round_of (P := P) (w := w) (base := base) (by decide) T D_common_divisor D_held_round D_power_of_two D_round_of_2 (fun cs post _ => p_round_of 2 cs post)
  have D_round_of := w_round_of (P := P) (w := w) (base := base) (by decide) T D_common_divisor D_held_round D_power_of_two D_round_of_3 (fun cs post _ => p_round_of 3 cs post)
  have D_is_maker := w_is_maker (P := P) (w := w) (base := base) T D_is_wrapped D_round_of (fun cs post _ => p_is_maker cs post)
  have D_is_number_to := w_is_number_to (P := P) (w := w) (base := base) T (fun cs post _ => p_is_number_to cs post)
  have D_are_pieces := w_are_pieces (P := P) (w := w) (base := base) T D_is_number_to (fun cs post _ => p_are_pieces cs post)
  have D_is_keeper := w_is_keeper (P := P) (w := w) (base := base) T D_are_pieces D_is_maker D_is_number_to (fun cs post _ => p_is_keeper cs post)
  have D_is_late := w_is_late (P := P) (w := w) (base := base) T D_are_pieces D_is_number_to (fun cs post _ => p_is_late cs post)
  have D_is_piece := w_is_piece (P := P) (w := w) (base := base) T D_are_pieces D_is_keeper D_is_late D_is_maker D_is_number_to (fun cs post _ => p_is_piece cs post)
  have D_is_machine := w_is_machine (P := P) (w := w) (base := base) T D_is_piece (fun cs post _ => p_is_machine cs post)
  have D_law_box := w_law_box (P := P) (w := w) (base := base) T (fun cs post _ => p_box cs post)
  have D_law_take := w_law_take (P := P) (w := w) (base := base) T (fun cs post _ => p_take cs post)
  have D_law_folded := w_law_folded (P := P) (w := w) (base := base) T (fun cs post _ => p_fold cs post)
  have D_law_alone := w_law_alone (P := P) (w := w) (base := base) T (fun cs post _ => p_alone cs post)
  have D_law_maker_0 : Def P w K mg base 1 "_law_maker" 3 (sp_maker_c 0) := def_no T.i_law_maker sp_maker_c_none
  have D_law_maker_1 := w_law_maker (P := P) (w := w) (base := base) (by decide) T D_law_alone D_law_maker_0 D_law_take (fun cs post _ => p_maker_c 0 cs post)
  have D_law_maker_2 := w_law_maker (P := P) (w := w) (base := base) (by decide) T D_law_alone D_law_maker_1 D_law_take (fun cs post _ => p_maker_c 1 cs post)
  have D_law_maker_3 := w_law_maker (P := P) (w := w) (base := base) (by decide) T D_law_alone D_law_maker_2 D_law_take (fun cs post _ => p_maker_c 2 cs post)
  have D_law_maker := w_law_maker (P := P) (w := w) (base := base) (by decide) T D_law_alone D_law_maker_3 D_law_take (fun cs post _ => p_maker_c 3 cs post)
  have D_law_machine := w_law_machine (P := P) (w := w) (base := base) T D_law_maker D_law_take (fun cs post _ => p_law_machine cs post)
  have D_law_number := w_law_number (P := P) (w := w) (base := base) T (fun cs post _ => p_law_number cs post)
  have D_law_all := w_law_all (P := P) (w := w) (base := base) T D_law_number (fun cs post _ => p_law_all cs post)
  have D_law_is_piece := w_law_is_piece (P := P) (w := w) (base := base) T D_law_all D_law_number D_is_maker (fun cs post _ => p_law_is_piece cs post)
  have D_law_due := w_law_due (P := P) (w := w) (base := base) T D_law_is_piece (fun cs post _ => p_law_due cs post)
  have D_law_thing := w_law_thing (P := P) (w := w) (base := base) T D_law_take (fun cs post _ => p_law_thing cs post)
  have D_law_spoilt_0 : Def P w K mg base 2 "_law_spoilt" 2 (sp_law_spoilt 0) := def_no T.i_law_spoilt sp_law_spoilt_none
  have D_law_spoilt_1 := w_law_spoilt (P := P) (w := w) (base := base) (by decide) T D_law_spoilt_0 D_law_take D_law_thing (fun cs post _ => p_law_spoilt 0 cs post)
  have D_law_spoilt_2 := w_law_spoilt (P := P) (w := w) (base := base) (by decide) T D_law_spoilt_1 D_law_take D_law_thing (fun cs post _ => p_law_spoilt 1 cs post)
  have D_law_spoilt_3 := w_law_spoilt (P := P) (w := w) (base := base) (by decide) T D_law_spoilt_2 D_law_take D_law_thing (fun cs post _ => p_law_spoilt 2 cs post)
  have D_law_spoilt_4 := w_law_spoilt (P := P) (w := w) (base := base) (by decide) T D_law_spoilt_3 D_law_take D_law_thing (fun cs post _ => p_law_spoilt 3 cs post)
  have D_law_spoilt_5 := w_law_spoilt (P := P) (w := w) (base := base) (by decide) T D_law_spoilt_4 D_law_take D_law_thing (fun cs post _ => p_law_spoilt 4 cs post)
  have D_law_spoilt_6 := w_law_spoilt (P := P) (w := w) (base := base) (by decide) T D_law_spoilt_5 D_law_take D_law_thing (fun cs post _ => p_law_spoilt 5 cs post)
  have D_law_spoilt_7 := w_law_spoilt (P := P) (w := w) (base := base) (by decide) T D_law_spoilt_6 D_law_take D_law_thing (fun cs post _ => p_law_spoilt 6 cs post)
  have D_law_spoilt_8 := w_law_spoilt (P := P) (w := w) (base := base) (by decide) T D_law_spoilt_7 D_law_take D_law_thing (fun cs post _ => p_law_spoilt 7 cs post)
  have D_law_spoilt_9 := w_law_spoilt (P := P) (w := w) (base := base) (by decide) T D_law_spoilt_8 D_law_take D_law_thing (fun cs post _ => p_law_spoilt 8 cs post)
  have D_law_spoilt := w_law_spoilt (P := P) (w := w) (base := base) (by decide) T D_law_spoilt_9 D_law_take D_law_thing (fun cs post _ => p_law_spoilt 9 cs post)
  have D_law_right := w_law_right (P := P) (w := w) (base := base) T D_law_due D_is_machine (fun cs post _ => p_law_right cs post)
  have D_law := w_law (P := P) (w := w) (base := base) T D_law_box D_law_folded D_law_machine D_law_right D_law_spoilt D_law_take D_is_machine (fun cs post _ => p_law cs post)
  exact D_law
end K47
set_option maxHeartbeats 0 in
theorem PySem.Challenge.cw_shareones_k47_what_is_a_machine_holds : PySem.Challenge.rw_shareones_k47_what_is_a_machine.Holds := by
  w_on; o_law; k_head; (case hw => w_witness2)
  k_fill
  refine DL.law_end (l := PySem.Challenge.rw_shareones_k47_what_is_a_machine) (k := 13) rfl rfl ⟨rfl, by decide, by decide⟩ rfl (fun w h Y => PySem.W.kIn_of Y) ?F
  case F =>
    intro w mg h KX G base _ _
    refine' K47.all_mk KX G ?a0 ?l0 ?c0 ?k0 ?a1 ?l1 ?c1 ?k1 ?a2 ?l2 ?c2 ?k2 ?a3 ?l3 ?c3 ?k3 ?a4 ?l4 ?c4 ?k4 ?a5 ?l5 ?c5 ?k5 ?a6 ?l6 ?c6 ?k6 ?a7 ?l7 ?c7 ?k7 ?a8 ?l8 ?c8 ?k8 ?a9 ?l9 ?c9 ?k9 ?a10 ?l10 ?c10 ?k10 ?a11 ?l11 ?c11 ?k11 ?a12 ?l12 ?c12 ?k12 ?a13 ?l13 ?c13 ?k13 ?a14 ?l14 ?c14 ?k14 ?a15 ?l15 ?c15 ?k15 ?a16 ?l16 ?c16 ?k16 ?a17 ?l17 ?c17 ?k17 ?a18 ?l18 ?c18 ?k18 ?a19 ?l19 ?c19 ?k19 ?a20 ?l20 ?c20 ?k20 ?a21 ?l21 ?c21 ?k21 ?a22 ?l22 ?c22 ?k22 ?a23 ?l23 ?c23 ?k23 ?a24 ?l24 ?c24 ?k24 ?a25 ?l25 ?c25 ?k25 ?a26 ?l26 ?c26 ?k26 ?a27 ?l27 ?c27 ?k27 ?a28 ?l28 ?c28 ?k28 ?a29 ?l29 ?c29 ?k29 ?a30 ?l30 ?c30 ?k30 ?a31 ?l31 ?c31 ?k31 ?a32 ?l32 ?c32 ?k32 ?a33 ?l33 ?c33 ?k33 ?z0 ?z1 ?z2 ?z3 ?z4 ?z5 ?z6 ?z7 ?z8 ?z9 ?z10 ?z11 ?z12 ?z13 ?cn0 ?cn1 ?cn2 ?cn3 ?cn4 ?cn5 ?cn6 ?cn7 ?cn8 ?cl8 ?ck8 ?kn0 ?kl0 ?kb0
    (case a0 => k_is); (case l0 => k_is); (case c0 => k_is); (case k0 => k_is)
    (case a1 => k_is); (case l1 => k_is); (case c1 => k_is); (case k1 => k_is)
    (case a2 => k_is); (case l2 => k_is); (case c2 => k_is); (case k2 => k_is)
    (case a3 => k_is); (case l3 => k_is); (case c3 => k_is); (case k3 => k_is)
    (case a4 => k_is); (case l4 => k_is); (case c4 => k_is); (case k4 => k_is)
    (case a5 => k_is); (case l5 => k_is); (case c5 => k_is); (case k5 => k_is)
    (case a6 => k_is); (case l6 => k_is); (case c6 => k_is); (case k6 => k_is)
    (case a7 => k_is); (case l7 => k_is); (case c7 => k_is); (case k7 => k_is)
    (case a8 => k_is); (case l8 => k_is); (case c8 => k_is); (case k8 => k_is)
    (case a9 => k_is); (case l9 => k_is); (case c9 => k_is); (case k9 => k_is)
    (case a10 => k_is); (case l10 => k_is); (case c10 => k_is); (case k10 => k_is)
    (case a11 => k_is); (case l11 => k_is); (case c11 => k_is); (case k11 => k_is)
    (case a12 => k_is); (case l12 => k_is); (case c12 => k_is); (case k12 => k_is)
    (case a13 => k_is); (case l13 => k_is); (case c13 => k_is); (case k13 => k_is)
    (case a14 => k_is); (case l14 => k_is); (case c14 => k_is); (case k14 => k_is)
    (case a15 => k_is); (case l15 => k_is); (case c15 => k_is); (case k15 => k_is)
    (case a16 => k_is); (case l16 => k_is); (case c16 => k_is); (case k16 => k_is)
    (case a17 => k_is); (case l17 => k_is); (case c17 => k_is); (case k17 => k_is)
    (case a18 => k_is); (case l18 => k_is); (case c18 => k_is); (case k18 => k_is)
    (case a19 => k_is); (case l19 => k_is); (case c19 => k_is); (case k19 => k_is)
    (case a20 => k_is); (case l20 => k_is); (case c20 => k_is); (case k20 => k_is)
    (case a21 => k_is); (case l21 => k_is); (case c21 => k_is); (case k21 => k_is)
    (case a22 => k_is); (case l22 => k_is); (case c22 => k_is); (case k22 => k_is)
    (case a23 => k_is); (case l23 => k_is); (case c23 => k_is); (case k23 => k_is)
    (case a24 => k_is); (case l24 => k_is); (case c24 => k_is); (case k24 => k_is)
    (case a25 => k_is); (case l25 => k_is); (case c25 => k_is); (case k25 => k_is)
    (case a26 => k_is); (case l26 => k_is); (case c26 => k_is); (case k26 => k_is)
    (case a27 => k_is); (case l27 => k_is); (case c27 => k_is); (case k27 => k_is)
    (case a28 => k_is); (case l28 => k_is); (case c28 => k_is); (case k28 => k_is)
    (case a29 => k_is); (case l29 => k_is); (case c29 => k_is); (case k29 => k_is)
    (case a30 => k_is); (case l30 => k_is); (case c30 => k_is); (case k30 => k_is)
    (case a31 => k_is); (case l31 => k_is); (case c31 => k_is); (case k31 => k_is)
    (case a32 => k_is); (case l32 => k_is); (case c32 => k_is); (case k32 => k_is)
    (case a33 => k_is); (case l33 => k_is); (case c33 => k_is); (case k33 => k_is)
    (case z0 => k_is)
    (case z1 => k_is)
    (case z2 => k_is)
    (case z3 => k_is)
    (case z4 => k_is)
    (case z5 => k_is)
    (case z6 => k_is)
    (case z7 => k_is)
    (case z8 => k_is)
    (case z9 => k_is)
    (case z10 => k_is)
    (case z11 => k_is)
    (case z12 => k_is)
    (case z13 => k_is)
    (case cn0 => k_is)
    (case cn1 => k_is)
    (case cn2 => k_is)
    (case cn3 => k_is)
    (case cn4 => k_is)
    (case cn5 => k_is)
    (case cn6 => k_is)
    (case cn7 => k_is)
    (case cn8 => k_is); (case cl8 => k_is); (case ck8 => decide +kernel)
    (case kn0 => k_is); (case kl0 => kernel_rfl); (case kb0 => kernel_rfl)
end
#print axioms PySem.Challenge.cw_shareones_k47_what_is_a_machine_holds
