import PyProof.Rows.All
import Wide.All
import OpenK.AllK
import Wide.FinOn
import HandS.ForMost
import HandS.Exc
import HandS.IsInst
import HandS.Style
import HandS.TupAny
import HandS.WideBits
import HandS.Wide
import HandS.Deep
import HandS.SetFor
import HandS.Conv
import HandS.SortInts
import HandS.TupMul
import KE.KTupSum
import HandS.Zip
import HandS.EndBits
import KE.GoesEnum
import KE.GoesZip
import PyProof.ReprRoads
import PyProof.CallStr
import HandS.TryOnly
import Flt.Len
import KE.DataMinMax
import KE.SortData
import HandS.List
import PyProof.Rows.Chain
import HandS.More
import HandS.ExcIs
import HandS.ExcOwn
import HandS.WordsExc
import PySem.Challenge.RW_shareones_k08_rows_that_meet_so_often
section
set_option Elab.async false
set_option linter.all false
set_option maxRecDepth 100000
inductive DL.KY where
  | i (n : Int)
  | t (ks : List DL.KY)
namespace DL
open PySem PySem.Spec PyProof.Rows L2
mutual
def KY.dec : (a b : KY) → Decidable (a = b)
  | .i n, .i m => if h : n = m then .isTrue (by rw [h]) else .isFalse fun e => h (KY.i.inj e)
  | .i _, .t _ => .isFalse fun e => nomatch e
  | .t _, .i _ => .isFalse fun e => nomatch e
  | .t x, .t y => match KY.decs x y with
    | .isTrue h => .isTrue (by rw [h])
    | .isFalse h => .isFalse fun e => h (KY.t.inj e)
def KY.decs : (a b : List KY) → Decidable (a = b)
  | [], [] => .isTrue rfl
  | [], _ :: _ => .isFalse fun e => nomatch e
  | _ :: _, [] => .isFalse fun e => nomatch e
  | a :: x, b :: y => match KY.dec a b with
    | .isTrue h => match KY.decs x y with
      | .isTrue h2 => .isTrue (by rw [h, h2])
      | .isFalse h2 => .isFalse fun e => h2 (List.cons.inj e).2
    | .isFalse h => .isFalse fun e => h (List.cons.inj e).1
end
instance : DecidableEq KY := KY.dec
mutual
def KY.d : KY → PyData
  | .i n => .int n
  | .t ks => .tuple (KY.ds ks)
def KY.ds : List KY → List PyData
  | [] => []
  | k :: ks => k.d :: KY.ds ks
end
mutual
def KY.hash : KY → Int
  | .i n => hashInt n
  | .t ks => reduceHash (Builtin.Tuple.tupleHashOf (KY.hashes ks))
def KY.hashes : List KY → List Int
  | [] => []
  | k :: ks => k.hash :: KY.hashes ks
end
mutual
def KY.deep : KY → Nat
  | .i _ => 0
  | .t ks => KY.deeps ks + 1
def KY.deeps : List KY → Nat
  | [] => 0
  | k :: ks => max k.deep (KY.deeps ks)
end
mutual
inductive IsKY (h : Heap) : KY → Value → Prop
  | i (n : Int) (t : Tok) : IsKY h (.i n) (.int n t)
  | t {ks : List KY} {a : Addr} {o : Obj} {items : Array Value} {n : Nat} : h.get? a = some o → o.cls = .type "tuple" → o.data = .seq items n → IsKYs h ks items.toList → IsKY h (.t ks) (.ref a)
inductive IsKYs (h : Heap) : List KY → List Value → Prop
  | nil : IsKYs h [] []
  | cons {k : KY} {v : Value} {ks : List KY} {vs : List Value} : IsKY h k v → IsKYs h ks vs → IsKYs h (k :: ks) (v :: vs)
end
section
variable {h h' : Heap}
mutual
theorem IsKY.inj : ∀ {x y : KY} {v : Value}, IsKY h x v → IsKY h y v → x = y
  | .i n, .i m, _, .i _ t, e => by cases e; rfl
  | .i _, .t _, _, .i _ _, e => nomatch e
  | .t _, .i _, _, e, .i _ _ => nomatch e
  | .t x, .t y, _, .t h1 h2 h3 h4, .t g1 g2 g3 g4 => by
    have e := Option.some.inj (h1.symm.trans g1)
    subst e
    rw [h3] at g3
    injection g3 with e1 _
    subst e1
    rw [IsKYs.inj h4 g4]
theorem IsKYs.inj : ∀ {x y : List KY} {vs : List Value}, IsKYs h x vs → IsKYs h y vs → x = y
  | [], [], _, .nil, .nil => rfl
  | [], _ :: _, _, .nil, e => nomatch e
  | _ :: _, [], _, e, .nil => nomatch e
  | a :: x, b :: y, _, .cons h1 h2, .cons g1 g2 => by rw [IsKY.inj h1 g1, IsKYs.inj h2 g2]
end
mutual
theorem IsKY.keep (k : ∀ (a : Addr) (o : Obj), h.get? a = some o → o.cls = .type "tuple" → (∃ items n, o.data = .seq items n) → h'.get? a = some o) : ∀ {x : KY} {v : Value}, IsKY h x v → IsKY h' x v
  | .i _, _, .i n t => .i n t
  | .t _, _, .t h1 h2 h3 h4 => .t (k _ _ h1 h2 ⟨_, _, h3⟩) h2 h3 (IsKYs.keep k h4)
theorem IsKYs.keep (k : ∀ (a : Addr) (o : Obj), h.get? a = some o → o.cls = .type "tuple" → (∃ items n, o.data = .seq items n) → h'.get? a = some o) : ∀ {x : List KY} {vs : List Value}, IsKYs h x vs → IsKYs h' x vs
  | [], _, .nil => .nil
  | _ :: _, _, .cons h1 h2 => .cons (IsKY.keep k h1) (IsKYs.keep k h2)
end
theorem IsKYs.length : ∀ {x : List KY} {vs : List Value}, IsKYs h x vs → x.length = vs.length
  | _, _, .nil => rfl
  | _, _, .cons _ t => congrArg (· + 1) t.length
theorem IsKYs.append : ∀ {x y : List KY} {vs us : List Value}, IsKYs h x vs → IsKYs h y us → IsKYs h (x ++ y) (vs ++ us)
  | _, _, _, _, .nil, b => b
  | _, _, _, _, .cons a t, b => .cons a (t.append b)
end
end DL
namespace DL
open PySem PySem.Spec PyProof.Rows L2
abbrev KE := List KY × Addr × V
def entKD (x : List KY × Addr × Value) : DictEntry := ⟨KY.hash (.t x.1), .ref x.2.1, x.2.2⟩
def DXp (a : Addr) (kvs : List KE) (h : Heap) : Prop := (a == sysModules) = false ∧ kvs.length ≤ sizeLine ∧ ∃ xs : List (List KY × Addr × Value), Paired (fun (p : KE) (q : List KY × Addr × Value) => p.1 = q.1 ∧ p.2.1 = q.2.1 ∧ RelV p.2.2 q.2.2) kvs xs ∧
  ∃ o es ep, h.get? a = some o ∧ o.ExactDict ∧ o.data = .dict es ep ∧ es.toList = xs.map entKD ∧ (xs.map (·.1)).Nodup
def DXO (a : Addr) (kvs : List KE) : HO := .ext (DXp a kvs)
end DL
end
section
set_option Elab.async false
set_option linter.all false
set_option maxRecDepth 100000
namespace DL
open PySem PySem.Spec PyProof.Rows L2
abbrev D := PyData
abbrev St := List (Option V)
def keyD : Key → D
  | .inl i => .int i
  | .inr z => .str z
/-- an exception's object of the class at C -/
def ExX (C a : Addr) : HO := .ext fun h => ∃ (oe : Obj) (vs : Array Value), h.get? a = some oe ∧ Zc (.ref C) none oe ∧ oe.data = .fields vs
/-- an exception's object with a dict at q -/
def ExN (C a q : Addr) : HO := .ext fun h => ∃ (oe : Obj) (vs : Array Value), h.get? a = some oe ∧ Zc (.ref C) (some q) oe ∧ oe.data = .fields vs
mutual
inductive Rp (K : PySem.W.Frag) (F : Hp) : V → D → Prop
  | non : Rp K F .non .none
  | bl (b : Bool) : Rp K F (.bl b) (.bool b)
  | int (i : Int) : Rp K F (.int i) (.int i)
  | str (z : Str) : Rp K F (.str z) (.str z)
  | lst {p : Addr} {vs : List V} {ds : List D} : F p = some (.lst vs) → RpAll K F vs ds → Rp K F (.ref p) (.list ds)
  | tup {p : Addr} {vs : List V} {ds : List D} : SqT K F p vs → RpAll K F vs ds → Rp K F (.ref p) (.tuple ds)
  | scr {p : Addr} {vs : List V} {ds : List D} : SqL K F p vs → RpAll K F vs ds → Rp K F (.ref p) (.dict [(.none, .list ds)])
  | dic {p : Addr} {o : Obj} {ps : List (Key × V)} {ds : List (D × D)} : F p = some (.frz o (.dK ps)) → RpKv K F ps ds → Rp K F (.ref p) (.dict ds)
  | exc {p C : Addr} {z : Str} : F p = some (ExX C p) → PySem.W.nsIn K mainGlobals z = some (some (.ref C)) → Rp K F (.ref p) (.dict [(.none, .str z)])
  | exn {p C q : Addr} {z : Str} {n : Int} : F p = some (ExN C p q) → F q = some (.xd [("row", .int n)]) → PySem.W.nsIn K mainGlobals z = some (some (.ref C)) → Rp K F (.ref p) (.dict [(.none, .tuple [.str z, .int n])])
  | dit {p : Addr} {o : Obj} {ps : List KE} {ds : List (D × D)} : F p = some (.frz o (DXO p ps)) → ps ≠ [] → RpKt K F ps ds → Rp K F (.ref p) (.dict ds)
  | ptr (a : Addr) : Rp K F (.ref a) (.dict [(.none, .int (a : Nat))])
  | tgt {p : Addr} {o : Obj} {ns : List Int} : F p = some (.frz o (.tup (ns.map V.int))) → o.dict = none → Rp K F (.ref p) (.dict [(.none, .dict [(.none, .list (ns.map PyData.int))])])
inductive RpAll (K : PySem.W.Frag) (F : Hp) : List V → List D → Prop
  | nil : RpAll K F [] []
  | cons {v : V} {vs : List V} {d : D} {ds : List D} : Rp K F v d → RpAll K F vs ds → RpAll K F (v :: vs) (d :: ds)
inductive RpKv (K : PySem.W.Frag) (F : Hp) : List (Key × V) → List (D × D) → Prop
  | nil : RpKv K F [] []
  | cons {k : Key} {v : V} {ps : List (Key × V)} {d : D} {ds : List (D × D)} : Rp K F v d → RpKv K F ps ds → RpKv K F ((k, v) :: ps) ((keyD k, d) :: ds)
inductive RpKt (K : PySem.W.Frag) (F : Hp) : List KE → List (D × D) → Prop
  | nil : RpKt K F [] []
  | cons {k : List KY} {b : Addr} {v : V} {ps : List KE} {d : D} {ds : List (D × D)} : Rp K F (.ref b) (.tuple (KY.ds k)) → KY.deeps k ≤ 7 → Rp K F v d → RpKt K F ps ds → RpKt K F ((k, b, v) :: ps) ((.tuple (KY.ds k), d) :: ds)
end
theorem same_tup {K : PySem.W.Frag} {F F' : Hp} {p : Addr} {vs : List V} (e : Same F F') (h : SqT K F p vs) : SqT K F' p vs := by
  rcases h with (h | ⟨o, h⟩) | h
  · exact .inl (.inl (e _ _ h))
  · exact .inl (.inr ⟨o, e _ _ h⟩)
  · exact .inr h
section
variable {K : PySem.W.Frag} {F F' : Hp}
mutual
theorem Rp.mono (e : Same F F') : ∀ (d : D) (v : V), Rp K F v d → Rp K F' v d
  | .none, _, h => by cases h; exact .non
  | .bool b, _, h => by cases h; exact .bl b
  | .int i, _, h => by cases h; exact .int i
  | .str z, _, h => by cases h; exact .str z
  | .list ds, _, h => by
    cases h with
    | lst h1 h2 => exact .lst (e _ _ h1) (RpAll.mono e ds _ h2)
  | .tuple ds, _, h => by
    cases h with
    | tup h1 h2 => exact .tup (same_tup e h1) (RpAll.mono e ds _ h2)
  | .dict ds, _, h => by
    cases h with
    | scr h1 h2 => exact .scr (e.seq h1) (RpAll.mono e _ _ h2)
    | dic h1 h2 => exact .dic (e _ _ h1) (RpKv.mono e ds _ h2)
    | dit h1 hn h2 => exact .dit (e _ _ h1) hn (RpKt.mono e ds _ h2)
    | exc h1 h2 => exact .exc (e _ _ h1) h2
    | exn h1 h2 h3 => exact .exn (e _ _ h1) (e _ _ h2) h3
    | ptr a => exact .ptr a
    | tgt h1 h2 => exact .tgt (e _ _ h1) h2
theorem RpAll.mono (e : Same F F') : ∀ (ds : List D) (vs : List V), RpAll K F vs ds → RpAll K F' vs ds
  | [], _, h => by cases h; exact .nil
  | d :: ds, _, h => by
    cases h with
    | cons h1 h2 => exact .cons (Rp.mono e d _ h1) (RpAll.mono e ds _ h2)
theorem RpKv.mono (e : Same F F') : ∀ (ds : List (D × D)) (ps : List (Key × V)), RpKv K F ps ds → RpKv K F' ps ds
  | [], _, h => by cases h; exact .nil
  | d :: ds, _, h => by
    cases h with
    | cons h1 h2 => exact .cons (Rp.mono e _ _ h1) (RpKv.mono e ds _ h2)
theorem RpKt.mono (e : Same F F') : ∀ (ds : List (D × D)) (ps : List KE), RpKt K F ps ds → RpKt K F' ps ds
  | [], _, h => by cases h; exact .nil
  | d :: ds, _, h => by
    cases h with
    | cons h0 hd h1 h2 => exact .cons (Rp.mono e _ _ h0) hd (Rp.mono e _ _ h1) (RpKt.mono e ds _ h2)
end
end
theorem Rp.up {K : PySem.W.Frag} {F F' : Hp} {v : V} {d : D} (h : Rp K F v d) (e : Same F F') : Rp K F' v d := Rp.mono e d v h
theorem RpAll.up {K : PySem.W.Frag} {F F' : Hp} {vs : List V} {ds : List D} (h : RpAll K F vs ds) (e : Same F F') : RpAll K F' vs ds := RpAll.mono e ds vs h
theorem RpKt.up {K : PySem.W.Frag} {F F' : Hp} {vs : List KE} {ds : List (D × D)} (h : RpKt K F vs ds) (e : Same F F') : RpKt K F' vs ds := RpKt.mono e ds vs h
theorem RpKv.up {K : PySem.W.Frag} {F F' : Hp} {vs : List (Key × V)} {ds : List (D × D)} (h : RpKv K F vs ds) (e : Same F F') : RpKv K F' vs ds := RpKv.mono e ds vs h
section
variable {K : PySem.W.Frag} {F F' : Hp}
theorem RpAll.length : ∀ {vs : List V} {ds : List D}, RpAll K F vs ds → vs.length = ds.length
  | _, _, .nil => rfl
  | _, _, .cons _ t => congrArg (· + 1) (RpAll.length t)
theorem RpAll.append : ∀ {vs : List V} {ds : List D} {ws : List V} {es : List D}, RpAll K F vs ds → RpAll K F ws es → RpAll K F (vs ++ ws) (ds ++ es)
  | _, _, _, _, .nil, s => s
  | _, _, _, _, .cons a t, s => .cons a (RpAll.append t s)
theorem RpAll.get : ∀ {vs : List V} {ds : List D} {i : Nat} {v : V}, RpAll K F vs ds → vs[i]? = some v → ∃ d, ds[i]? = some d ∧ Rp K F v d
  | _, _, _, _, .nil, e => by simp at e
  | _, _, 0, _, .cons a _, e => by simp at e; subst e; exact ⟨_, rfl, a⟩
  | _, _, i + 1, _, .cons _ t, e => by
    obtain ⟨d, h1, h2⟩ := RpAll.get (i := i) t (by simpa using e)
    exact ⟨d, by simpa using h1, h2⟩
theorem RpAll.getD : ∀ {vs : List V} {ds : List D} {i : Nat} {d : D}, RpAll K F vs ds → ds[i]? = some d → ∃ v, vs[i]? = some v ∧ Rp K F v d
  | _, _, _, _, .nil, e => by simp at e
  | _, _, 0, _, .cons a _, e => by simp at e; subst e; exact ⟨_, rfl, a⟩
  | _, _, i + 1, _, .cons _ t, e => by
    obtain ⟨d, h1, h2⟩ := RpAll.getD (i := i) t (by simpa using e)
    exact ⟨d, by simpa using h1, h2⟩
theorem RpAll.take : ∀ (n : Nat) {vs : List V} {ds : List D}, RpAll K F vs ds → RpAll K F (vs.take n) (ds.take n)
  | 0, _, _, _ => .nil
  | _ + 1, _, _, .nil => .nil
  | n + 1, _, _, .cons a t => .cons a (RpAll.take n t)
theorem RpAll.drop : ∀ (n : Nat) {vs : List V} {ds : List D}, RpAll K F vs ds → RpAll K F (vs.drop n) (ds.drop n)
  | 0, _, _, h => h
  | _ + 1, _, _, .nil => .nil
  | n + 1, _, _, .cons _ t => RpAll.drop n t
theorem RpAll.set : ∀ (n : Nat) {vs : List V} {ds : List D} {v : V} {d : D}, RpAll K F vs ds → Rp K F v d → RpAll K F (vs.set n v) (ds.set n d)
  | _, _, _, _, _, .nil, _ => .nil
  | 0, _, _, _, _, .cons _ t, h => .cons h t
  | n + 1, _, _, _, _, .cons a t, h => .cons a (RpAll.set n t h)
theorem RpAll.reverse : ∀ {vs : List V} {ds : List D}, RpAll K F vs ds → RpAll K F vs.reverse ds.reverse
  | _, _, .nil => .nil
  | _, _, .cons a t => by
    rw [List.reverse_cons, List.reverse_cons]
    exact (RpAll.reverse t).append (.cons a .nil)
theorem RpAll.flat : ∀ (k : Nat) {vs : List V} {ds : List D}, RpAll K F vs ds → RpAll K F (List.replicate k vs).flatten (List.replicate k ds).flatten
  | 0, _, _, _ => .nil
  | k + 1, _, _, h => by
    rw [List.replicate_succ, List.replicate_succ, List.flatten_cons, List.flatten_cons]
    exact h.append (RpAll.flat k h)
theorem RpAll.ints : ∀ (ns : List Int), RpAll K F (ns.map V.int) (ns.map PyData.int)
  | [] => .nil
  | n :: ns => .cons (.int n) (RpAll.ints ns)
/-- a list all of whose data are ints is a list of ints -/
theorem RpAll.ofInts : ∀ {ns : List Int} {vs : List V}, RpAll K F vs (ns.map PyData.int) → vs = ns.map V.int
  | [], _, h => by cases h; rfl
  | n :: ns, _, h => by
    cases h with
    | cons h1 h2 =>
      cases h1
      rw [RpAll.ofInts h2]
      rfl
end
inductive M where
  | lst (ds : List D)
  | ins (z : Str) (fs : List (Str × D))
  | dic (kvs : List (D × D))
  /-- a dict gone through: as it stands -/
  | lok (od : Obj) (ps : List (Key × V)) (kvs : List (D × D))
inductive RpFs (K : PySem.W.Frag) (F : Hp) : List (Str × V) → List (Str × D) → Prop
  | nil : RpFs K F [] []
  | cons {k : Str} {v : V} {ps : List (Str × V)} {d : D} {ds : List (Str × D)} : Rp K F v d → RpFs K F ps ds → RpFs K F ((k, v) :: ps) ((k, d) :: ds)
theorem RpFs.up {K : PySem.W.Frag} {F F' : Hp} (e : Same F F') : ∀ {ps : List (Str × V)} {ds : List (Str × D)}, RpFs K F ps ds → RpFs K F' ps ds
  | _, _, .nil => .nil
  | _, _, .cons a t => .cons (a.up e) (RpFs.up e t)
/-- the object o at a holds the content m, its parts read in F -/
def MOk (K : PySem.W.Frag) (F : Hp) (a : Addr) (o : HO) : M → Prop
  | .lst ds => ∃ vs, o = .lst vs ∧ RpAll K F vs ds
  | .ins z fs => ∃ C dx vs, PySem.W.nsIn K mainGlobals z = some (some (.ref C)) ∧ o = .ins C dx vs ∧ RpFs K F vs fs
  | .dic kvs => (∃ ps, o = .dK ps ∧ RpKv K F ps kvs) ∨ ∃ ps, ps ≠ [] ∧ o = DXO a ps ∧ RpKt K F ps kvs
  | .lok od ps kvs => o = .frz od (.dK ps) ∧ RpKv K F ps kvs
theorem MOk.up {K : PySem.W.Frag} {F F' : Hp} {a : Addr} {o : HO} : ∀ {m : M}, MOk K F a o m → Same F F' → MOk K F' a o m
  | .lst _, ⟨vs, e, h⟩, s => ⟨vs, e, h.up s⟩
  | .ins _ _, ⟨C, dx, vs, n, e, h⟩, s => ⟨C, dx, vs, n, e, RpFs.up s h⟩
  | .dic _, .inl ⟨ps, e, h⟩, s => .inl ⟨ps, e, h.up s⟩
  | .dic _, .inr ⟨ps, hn, e, h⟩, s => .inr ⟨ps, hn, e, h.up s⟩
  | .lok _ _ _, ⟨e, h⟩, s => ⟨e, h.up s⟩
/-- what stands in a slot: data that nobody changes; an object of this frame's own; a caller's object, lent to be changed -/
inductive Cell where
  | sh (d : D)
  | own (m : M)
  | io (m : M)
  /-- objects of one's own at known places, told of by data (ptrD) -/
  | rg (g : List (Addr × M))
abbrev DSt := List (Option Cell)
def dat : DSt → Nat → Option Cell
  | [], _ => none
  | c :: _, 0 => c
  | _ :: t, i + 1 => dat t i
def dput : DSt → Nat → Option Cell → DSt
  | [], _, _ => []
  | _ :: t, 0, x => x :: t
  | c :: t, i + 1, x => c :: dput t i x
/-- the cells told one by one, ahead of what goes on -/
def nrm : DSt → (DSt → Prop) → Prop
  | [], k => k []
  | c :: t, k => nrm t fun t' => k (c :: t')
theorem nrm_eq : ∀ (r : DSt) (k : DSt → Prop), nrm r k = k r
  | [], _ => rfl
  | c :: t, k => nrm_eq t fun t' => k (c :: t')
theorem nrm_el {r : DSt} {k : DSt → Prop} (h : nrm r k) : k r := by rw [nrm_eq] at h; exact h
theorem dput_len (x : Option Cell) : ∀ (r : DSt) (i : Nat), (dput r i x).length = r.length
  | [], _ => rfl
  | _ :: _, 0 => rfl
  | _ :: t, i + 1 => congrArg (· + 1) (dput_len x t i)
theorem dat_put_ne {x : Option Cell} : ∀ {r : DSt} {i j : Nat}, i ≠ j → dat (dput r i x) j = dat r j
  | [], _, _, _ => rfl
  | _ :: _, 0, 0, h => absurd rfl h
  | _ :: _, 0, _ + 1, _ => rfl
  | _ :: _, _ + 1, 0, _ => rfl
  | _ :: t, i + 1, j + 1, h => dat_put_ne (r := t) (i := i) (j := j) (fun e => h (congrArg (· + 1) e))
theorem dat_put {x : Option Cell} : ∀ {r : DSt} {i : Nat} {c : Cell}, dat (dput r i x) i = some c → x = some c ∧ i < r.length
  | [], _, _, h => by cases h
  | _ :: _, 0, _, h => ⟨h, Nat.succ_pos _⟩
  | _ :: t, i + 1, _, h => ⟨(dat_put (r := t) (i := i) h).1, Nat.succ_lt_succ (dat_put (r := t) (i := i) h).2⟩
theorem dat_lt {c : Cell} : ∀ {r : DSt} {i : Nat}, dat r i = some c → i < r.length
  | [], _, h => by cases h
  | _ :: _, 0, _ => Nat.succ_pos _
  | _ :: t, i + 1, h => Nat.succ_lt_succ (dat_lt (r := t) (i := i) h)
/-- the world of a body: what stood at its begin: F0 the data, H0 all, A what it may change, io the lent ones by slot -/
structure Wd where
  F0 : Hp
  H0 : Hp
  A : Addr → Prop
  io : Nat → Addr → Prop
/-- the objects g stand, apart from those of the slots -/
structure RegOk (K : PySem.W.Frag) (W : Wd) (r : DSt) (F : Hp) (σ : St) (H : Hp) (i : Nat) (g : List (Addr × M)) : Prop where
  nd : (g.map (·.1)).Nodup
  ob : ∀ a m, (a, m) ∈ g → ∃ o, H a = some o ∧ F a = none ∧ MOk K F a o m ∧ (W.A a ∨ W.H0 a = none)
  ap : ∀ a m j n, (a, m) ∈ g → (dat r j = some (Cell.own n) ∨ dat r j = some (Cell.io n)) → σ[j]? ≠ some (some (V.ref a))
  one : ∀ j g', dat r j = some (Cell.rg g') → j = i
structure Rel (K : PySem.W.Frag) (W : Wd) (r : DSt) (F : Hp) (σ : St) (H : Hp) : Prop where
  sub : Same F H
  f0 : Same W.F0 F
  keep : ∀ b o, W.H0 b = some o → ¬ W.A b → H b = some o
  there : ∀ b, W.H0 b ≠ none → H b ≠ none
  new : ∀ b, F b ≠ none → W.F0 b ≠ none ∨ W.H0 b = none ∨ W.A b
  sh : ∀ i d, dat r i = some (Cell.sh d) → ∃ v, σ[i]? = some (some v) ∧ Rp K F v d
  own : ∀ i m, dat r i = some (Cell.own m) → ∃ a o, σ[i]? = some (some (V.ref a)) ∧ H a = some o ∧ F a = none ∧ MOk K F a o m ∧ (W.A a ∨ W.H0 a = none)
  io : ∀ i m, dat r i = some (Cell.io m) → ∃ a o, σ[i]? = some (some (V.ref a)) ∧ H a = some o ∧ F a = none ∧ MOk K F a o m ∧ W.io i a
  ioA : ∀ i a, W.io i a → W.A a
  sep : ∀ i j m n a, (dat r i = some (Cell.own m) ∨ dat r i = some (Cell.io m)) → (dat r j = some (Cell.own n) ∨ dat r j = some (Cell.io n)) → σ[i]? = some (some (V.ref a)) → σ[j]? = some (some (V.ref a)) → i = j
  len : r.length = σ.length
  rg : ∀ i g, dat r i = some (Cell.rg g) → RegOk K W r F σ H i g
/-- more data stand, and new objects, all else as it was -/
structure Ext (F H F' H' : Hp) : Prop where
  f : Same F F'
  h : Same H H'
  s : Same F' H'
  new : ∀ b, F' b ≠ none → F b ≠ none ∨ H b = none
theorem ne_none {α : Type} {x : Option α} {y : α} (h : x = some y) : x ≠ none := by rw [h]; exact fun z => by cases z
theorem some_of {α : Type} {x : Option α} (h : x ≠ none) : ∃ y, x = some y := by
  cases x with
  | none => exact absurd rfl h
  | some y => exact ⟨y, rfl⟩
theorem Ext.refl {F H : Hp} (h : Same F H) : Ext F H F H := ⟨Same.refl _, Same.refl _, h, fun _ z => .inl z⟩
/-- F + a new object at p -/
theorem ext_new {F H : Hp} {p : Addr} {o : HO} (s : Same F H) (hp : H p = none) : Ext F H (upd F p o) (upd H p o) := by
  refine ⟨fun b u e => ?_, fun b u e => ?_, fun b u e => ?_, fun b e => ?_⟩
  · rw [upd_ne (ne_of_none (s _ _ e) hp)]; exact e
  · rw [upd_ne (ne_of_none e hp)]; exact e
  · by_cases hb : b = p
    · subst hb; rw [upd_same] at e ⊢; exact e
    · rw [upd_ne hb] at e ⊢; exact s _ _ e
  · by_cases hb : b = p
    · subst hb; exact .inr hp
    · rw [upd_ne hb] at e; exact .inl e
/-- H alone gets the new object -/
theorem ext_newH {F H : Hp} {p : Addr} {o : HO} (s : Same F H) (hp : H p = none) : Ext F H F (upd H p o) := by
  refine ⟨Same.refl _, fun b u e => ?_, fun b u e => ?_, fun b e => .inl e⟩
  · rw [upd_ne (ne_of_none e hp)]; exact e
  · rw [upd_ne (ne_of_none (s _ _ e) hp)]; exact s _ _ e
theorem Rel.ext {K : PySem.W.Frag} {W : Wd} {r : DSt} {F F' : Hp} {σ : St} {H H' : Hp} (R : Rel K W r F σ H) (e : Ext F H F' H') : Rel K W r F' σ H' := by
  have fn : ∀ {a : Addr} {o : HO}, H a = some o → F a = none → F' a = none := fun {a o} h n => by
    cases q : F' a with
    | none => rfl
    | some u =>
      rcases e.new a (ne_none q) with z | z
      · exact absurd n z
      · rw [h] at z; cases z
  refine ⟨e.s, R.f0.trans e.f, fun b o h1 h2 => e.h _ _ (R.keep b o h1 h2), fun b h => ?_, fun b h => ?_, fun i d h => ?_, fun i m h => ?_, fun i m h => ?_, R.ioA, R.sep, R.len, fun i g h => ⟨(R.rg i g h).nd, fun a m hm => ?_, (R.rg i g h).ap, (R.rg i g h).one⟩⟩
  · obtain ⟨o, z⟩ := some_of (R.there b h)
    exact ne_none (e.h _ _ z)
  · rcases e.new b h with z | z
    · exact R.new b z
    · refine .inr (.inl ?_)
      cases q : W.H0 b with
      | none => rfl
      | some u => exact absurd z (R.there b (ne_none q))
  · obtain ⟨v, h1, h2⟩ := R.sh i d h
    exact ⟨v, h1, h2.up e.f⟩
  · obtain ⟨a, o, h1, h2, h3, h4, h5⟩ := R.own i m h
    exact ⟨a, o, h1, e.h _ _ h2, fn h2 h3, h4.up e.f, h5⟩
  · obtain ⟨a, o, h1, h2, h3, h4, h5⟩ := R.io i m h
    exact ⟨a, o, h1, e.h _ _ h2, fn h2 h3, h4.up e.f, h5⟩
  · obtain ⟨o, h2, h3, h4, h5⟩ := (R.rg i g h).ob a m hm
    exact ⟨o, e.h _ _ h2, fn h2 h3, h4.up e.f, h5⟩
end DL
end
section
set_option Elab.async false
set_option linter.all false
set_option maxRecDepth 100000
namespace DL
open PySem PySem.Spec PyProof.Rows L2
abbrev DTE := DSt → (D → DSt → Prop) → Prop
abbrev DTA := DSt → (List D → DSt → Prop) → Prop
abbrev DTT := DSt → (Bool → DSt → Prop) → Prop
abbrev DTO := DSt → (M → DSt → Prop) → Prop
/-- what is wanted of a value: its data -/
def Wish (K : PySem.W.Frag) (W : Wd) (σ : St) (F : Hp) (q : D → DSt → Prop) (Q : VK) : Prop :=
  ∀ d r' v F' H', q d r' → Rel K W r' F' σ H' → Same F F' → Rp K F' v d → Q v H'
def lift (K : PySem.W.Frag) (W : Wd) (t : DTE) : TE := fun σ H Q => ∃ r F q, Rel K W r F σ H ∧ t r q ∧ Wish K W σ F q Q
def liftA (K : PySem.W.Frag) (W : Wd) (t : DTA) : TA := fun σ H Q => ∃ r F q, Rel K W r F σ H ∧ t r q ∧ ∀ ds r' vs F' H', q ds r' → Rel K W r' F' σ H' → Same F F' → RpAll K F' vs ds → Q vs H'
def liftT (K : PySem.W.Frag) (W : Wd) (t : DTT) : TT := fun σ H Q => ∃ r F q, Rel K W r F σ H ∧ t r q ∧ ∀ b r' F' H', q b r' → Rel K W r' F' σ H' → Same F F' → Q b H'
/-- the address is no slot's -/
structure Apart (r : DSt) (σ : St) (a : Addr) : Prop where
  sl : ∀ i m, (dat r i = some (Cell.own m) ∨ dat r i = some (Cell.io m)) → σ[i]? ≠ some (some (V.ref a))
  rg : ∀ i g m, dat r i = some (Cell.rg g) → (a, m) ∉ g
def liftO (K : PySem.W.Frag) (W : Wd) (t : DTO) : TE := fun σ H Q => ∃ r F q, Rel K W r F σ H ∧ t r q ∧
  ∀ m r' a o F' H', q m r' → Rel K W r' F' σ H' → Same F F' → H' a = some o → F' a = none → MOk K F' a o m → W.H0 a = none → Apart r' σ a → Q (.ref a) H'
structure DE (X : Cx) (e : Expr) (t : DTE) : Prop where
  run : ∀ W, PE X e (lift X.K W t)
structure DA (X : Cx) (es : List Expr) (t : DTA) : Prop where
  run : ∀ W, PA X es (liftA X.K W t)
structure DT (X : Cx) (e : Expr) (t : DTT) : Prop where
  run : ∀ W, PT X e (liftT X.K W t)
structure DW (X : Cx) (e : Expr) (t : DTT) : Prop where
  run : ∀ W, PW X e (liftT X.K W t)
structure DO (X : Cx) (e : Expr) (t : DTO) : Prop where
  run : ∀ W, PE X e (liftO X.K W t)
theorem pe_weak {X : Cx} {e : Expr} {t t' : TE} (h : PE X e t) (w : ∀ σ H Q, t' σ H Q → t σ H Q) : PE X e t' := ⟨fun pins s σ H Q I q => h.run pins s σ H Q I (w σ H Q q)⟩
theorem pa_weak {X : Cx} {e : List Expr} {t t' : TA} (h : PA X e t) (w : ∀ σ H Q, t' σ H Q → t σ H Q) : PA X e t' := ⟨fun pos pins s σ H Q I q => h.run pos pins s σ H Q I (w σ H Q q)⟩
theorem pt_weak {X : Cx} {e : Expr} {t t' : TT} (h : PT X e t) (w : ∀ σ H Q, t' σ H Q → t σ H Q) : PT X e t' := ⟨fun pins s σ H Q I q => h.run pins s σ H Q I (w σ H Q q)⟩
theorem pw_weak {X : Cx} {e : Expr} {t t' : TT} (h : PW X e t) (w : ∀ σ H Q, t' σ H Q → t σ H Q) : PW X e t' := ⟨fun wh pins s σ H Q I q => h.run wh pins s σ H Q I (w σ H Q q)⟩
theorem ps_weak {X : Cx} {e : Stmt} {t t' : TS} (h : PS X e t) (w : ∀ D σ H, t' D σ H → t D σ H) : PS X e t' := ⟨fun pins s σ H D I q => h.run pins s σ H D I (w D σ H q)⟩
theorem pss_weak {X : Cx} {e : List Stmt} {t t' : TS} (h : PSs X e t) (w : ∀ D σ H, t' D σ H → t D σ H) : PSs X e t' := ⟨fun pins s σ H D I q => h.run pins s σ H D I (w D σ H q)⟩
theorem pg_weak {X : Cx} {e : Expr} {t t' : TG} (h : PG X e t) (w : ∀ v σ H Q, t' v σ H Q → t v σ H Q) : PG X e t' := ⟨fun pins s σ H v u Q I rv q => h.run pins s σ H v u Q I rv (w v σ H Q q)⟩
theorem pgs_weak {X : Cx} {e : List Expr} {t t' : TGs} (h : PGs X e t) (w : ∀ v σ H Q, t' v σ H Q → t v σ H Q) : PGs X e t' := ⟨fun pins s σ H v u Q I rv q => h.run pins s σ H v u Q I rv (w v σ H Q q)⟩
theorem pi_weak {X : Cx} {tg e : Expr} {t t' : TI} (h : PI X tg e t) (w : ∀ σ H Q, t' σ H Q → t σ H Q) : PI X tg e t' := ⟨fun pins s σ H Q I q => h.run pins s σ H Q I (w σ H Q q)⟩
theorem dat_put_same {x : Option Cell} : ∀ {r : DSt} {i : Nat}, i < r.length → dat (dput r i x) i = x
  | [], _, h => absurd h (Nat.not_lt_zero _)
  | _ :: _, 0, _ => rfl
  | _ :: t, i + 1, h => dat_put_same (r := t) (i := i) (Nat.lt_of_succ_lt_succ h)
/-- an object's content as a datum: o as it stands -/
def M.da : M → D → Prop
  | .lst ds, d => d = .list ds
  | _, _ => False
theorem MOk.rp {K : PySem.W.Frag} {F : Hp} {a : Addr} {o : HO} {m : M} {d : D} (h : MOk K F a o m) (hd : m.da d) (f : F a = some o) : Rp K F (.ref a) d := by
  cases m with
  | lst ds =>
    obtain ⟨vs, e, h⟩ := h
    have hd' : d = .list ds := hd
    subst hd'
    exact .lst (e ▸ f) h
  | _ => exact hd.elim
/-- a dict's content as a datum: locked -/
theorem MOk.rpD {K : PySem.W.Frag} {F : Hp} {a : Addr} {o : HO} {od : Obj} {ds : List (D × D)} (h : MOk K F a o (.dic ds)) (f : F a = some (.frz od o)) : Rp K F (.ref a) (.dict ds) := by
  rcases h with ⟨ps, rfl, h⟩ | ⟨ps, hn, rfl, h⟩
  · exact .dic f h
  · exact .dit f hn h
theorem MOk.mut {K : PySem.W.Frag} {F : Hp} {a : Addr} {o : HO} {ds : List (D × D)} (h : MOk K F a o (.dic ds)) : Mut (some o) := by
  rcases h with ⟨ps, rfl, h⟩ | ⟨ps, hn, rfl, h⟩ <;> trivial
/-- an owner gives its object away, o' in its place: it's data from now on -/
theorem Rel.give {K : PySem.W.Frag} {W : Wd} {r : DSt} {F : Hp} {σ : St} {H : Hp} {i : Nat} {m0 : M} {d0 : D} {a : Addr} (o' : HO) (R : Rel K W r F σ H) (h : dat r i = some (Cell.own m0)) (h1 : σ[i]? = some (some (V.ref a))) (hrp : F a = none → Rp K (upd F a o') (.ref a) d0) :
    Same F (upd F a o') ∧ Rel K W (dput r i (some (Cell.sh d0))) (upd F a o') σ (upd H a o') ∧ Rp K (upd F a o') (.ref a) d0 := by
  obtain ⟨a', o, h1', h2, h3, h4, h5⟩ := R.own i _ h
  rw [h1] at h1'; cases h1'
  have sF : Same F (upd F a o') := fun b u e => by rw [upd_ne (ne_of_none e h3)]; exact e
  have rp := hrp h3
  have oth : ∀ {j : Nat} {c : Cell}, dat (dput r i (some (Cell.sh d0))) j = some c → (∀ d, c ≠ Cell.sh d) → j ≠ i ∧ dat r j = some c := fun {j c} e ne => by
    by_cases hj : i = j
    · subst hj
      have q := (dat_put e).1
      cases q
      exact absurd rfl (ne _)
    · rw [dat_put_ne hj] at e
      exact ⟨fun z => hj z.symm, e⟩
  refine ⟨sF, ⟨fun b u e => ?_, R.f0.trans sF, fun b u e1 e2 => ?_, fun b e => ?_, fun b e => ?_, fun j d e => ?_, fun j m e => ?_, fun j m e => ?_, R.ioA, fun j k m n p e1 e2 e3 e4 => ?_, ?_, fun j g e => ?_⟩, rp⟩
  · by_cases hb : b = a
    · subst hb; rw [upd_same] at e ⊢; exact e
    · rw [upd_ne hb] at e ⊢; exact R.sub _ _ e
  · have hb : b ≠ a := fun z => by
      subst z
      rcases h5 with z | z
      · exact e2 z
      · rw [z] at e1; cases e1
    rw [upd_ne hb]; exact R.keep b u e1 e2
  · by_cases hb : b = a
    · subst hb; rw [upd_same]; exact fun z => by cases z
    · rw [upd_ne hb]; exact R.there b e
  · by_cases hb : b = a
    · subst hb
      rcases h5 with z | z
      · exact .inr (.inr z)
      · exact .inr (.inl z)
    · rw [upd_ne hb] at e; exact R.new b e
  · by_cases hj : i = j
    · subst hj
      have q := (dat_put e).1
      cases q
      exact ⟨_, h1, rp⟩
    · rw [dat_put_ne hj] at e
      obtain ⟨v, e1, e2⟩ := R.sh j d e
      exact ⟨v, e1, e2.up sF⟩
  · obtain ⟨hj, e⟩ := oth e (fun d z => by cases z)
    obtain ⟨b, u, e1, e2, e3, e4, e5⟩ := R.own j m e
    have hb : b ≠ a := fun z => hj (R.sep j i _ _ a (.inl e) (.inl h) (z ▸ e1) h1)
    exact ⟨b, u, e1, by rw [upd_ne hb]; exact e2, by rw [upd_ne hb]; exact e3, e4.up sF, e5⟩
  · obtain ⟨hj, e⟩ := oth e (fun d z => by cases z)
    obtain ⟨b, u, e1, e2, e3, e4, e5⟩ := R.io j m e
    have hb : b ≠ a := fun z => hj (R.sep j i _ _ a (.inr e) (.inl h) (z ▸ e1) h1)
    exact ⟨b, u, e1, by rw [upd_ne hb]; exact e2, by rw [upd_ne hb]; exact e3, e4.up sF, e5⟩
  · have f1 : dat r j = some (Cell.own m) ∨ dat r j = some (Cell.io m) := by
      rcases e1 with e | e
      · exact .inl (oth e (fun d z => by cases z)).2
      · exact .inr (oth e (fun d z => by cases z)).2
    have f2 : dat r k = some (Cell.own n) ∨ dat r k = some (Cell.io n) := by
      rcases e2 with e | e
      · exact .inl (oth e (fun d z => by cases z)).2
      · exact .inr (oth e (fun d z => by cases z)).2
    exact R.sep j k m n p f1 f2 e3 e4
  · rw [dput_len]; exact R.len
  · have e0 := (oth e (fun d z => by cases z)).2
    have G := R.rg j g e0
    refine ⟨G.nd, fun b m hm => ?_, fun b m k n hm e1 => ?_, fun k g' e1 => G.one k g' (oth e1 (fun d z => by cases z)).2⟩
    · obtain ⟨u, k1, k2, k3, k4⟩ := G.ob b m hm
      have hb : b ≠ a := fun z => G.ap b m i _ hm (.inl h) (z ▸ h1)
      exact ⟨u, by rw [upd_ne hb]; exact k1, by rw [upd_ne hb]; exact k2, k3.up sF, k4⟩
    · refine G.ap b m k n hm ?_
      rcases e1 with e1 | e1
      · exact .inl (oth e1 (fun d z => by cases z)).2
      · exact .inr (oth e1 (fun d z => by cases z)).2
theorem upd_self {H : Hp} {a : Addr} {o : HO} (h : H a = some o) : upd H a o = H := funext fun b => by
  by_cases hb : b = a
  · subst hb; rw [upd_same]; exact h.symm
  · rw [upd_ne hb]
theorem Rel.freezeM {K : PySem.W.Frag} {W : Wd} {r : DSt} {F : Hp} {σ : St} {H : Hp} {i : Nat} {m0 : M} {d0 : D} (R : Rel K W r F σ H) (h : dat r i = some (Cell.own m0)) (md : m0.da d0) :
    ∃ a o, σ[i]? = some (some (V.ref a)) ∧ Same F (upd F a o) ∧ Rel K W (dput r i (some (Cell.sh d0))) (upd F a o) σ H ∧ Rp K (upd F a o) (.ref a) d0 ∧ MOk K F a o m0 := by
  obtain ⟨a, o, h1, h2, h3, h4, h5⟩ := R.own i _ h
  obtain ⟨z1, z2, z3⟩ := R.give o h h1 fun hf => (h4.up (F' := upd F a o) fun b u e => by rw [upd_ne (ne_of_none e h3)]; exact e).rp md upd_same
  rw [upd_self h2] at z2
  exact ⟨a, o, h1, z1, z2, z3, h4⟩
/-- an own dict given away: locked -/
theorem Rel.freezeD {K : PySem.W.Frag} {W : Wd} {r : DSt} {F : Hp} {σ : St} {H : Hp} {i : Nat} {ds : List (D × D)} (R : Rel K W r F σ H) (h : dat r i = some (Cell.own (.dic ds))) :
    ∃ a o, σ[i]? = some (some (V.ref a)) ∧ H a = some o ∧ Mut (some o) ∧ ∀ od, Same F (upd F a (.frz od o)) ∧ Rel K W (dput r i (some (Cell.sh (.dict ds)))) (upd F a (.frz od o)) σ (upd H a (.frz od o)) ∧ Rp K (upd F a (.frz od o)) (.ref a) (.dict ds) := by
  obtain ⟨a, o, h1, h2, h3, h4, h5⟩ := R.own i _ h
  exact ⟨a, o, h1, h2, h4.mut, fun od => R.give (.frz od o) h h1 fun hf => (h4.up (F' := upd F a (.frz od o)) fun b u e => by rw [upd_ne (ne_of_none e h3)]; exact e).rpD upd_same⟩
/-- what is new may be locked -/
def orLock (Q : VK) : VK := fun v H => Q v H ∨ ∃ d u, H d = some u ∧ Mut (some u) ∧ ∀ od, Q v (upd H d (.frz od u))
theorem pe_lk {X : Cx} {e : Expr} {t : TE} (h : PE X e t) : PE X e (fun σ H Q => t σ H (orLock Q)) := ⟨fun pins s σ H Q I q => thn (h.run pins s σ H _ I q) fun u s1 ⟨v, H1, I1, rv, z⟩ => by
  rcases z with z | ⟨d, o, hd, mu, z⟩
  · exact ⟨v, H1, I1, rv, z⟩
  · obtain ⟨od, I2⟩ := I1.lock hd mu
    exact ⟨v, _, I2, rv, z od⟩⟩
theorem Rel.freeze {K : PySem.W.Frag} {W : Wd} {r : DSt} {F : Hp} {σ : St} {H : Hp} {i : Nat} {ds : List D} (R : Rel K W r F σ H) (h : dat r i = some (Cell.own (.lst ds))) :
    ∃ a vs, σ[i]? = some (some (V.ref a)) ∧ Same F (upd F a (.lst vs)) ∧ Rel K W (dput r i (some (Cell.sh (.list ds)))) (upd F a (.lst vs)) σ H ∧ Rp K (upd F a (.lst vs)) (.ref a) (.list ds) := by
  obtain ⟨a, o, h1, h2, h3, h4, ⟨vs, rfl, _⟩⟩ := R.freezeM h rfl
  exact ⟨a, vs, h1, h2, h3, h4⟩
def eVar (i : Nat) : DTE := fun r q => match dat r i with
  | some (.sh d) => q d r
  | some (.own (.lst ds)) => q (.list ds) (dput r i (some (.sh (.list ds))))
  | some (.own (.dic ds)) => q (.dict ds) (dput r i (some (.sh (.dict ds))))
  | _ => False
section
variable {X : Cx}
theorem d_var (i : Nat) {x : Str} {pos : Pos} (hN : X.N[i]? = some x := by rfl) (hv : Vis X.env.scope x := by first | exact Or.inl rfl | exact Or.inr (Or.inl rfl) | exact Or.inr (Or.inr rfl)) (hd : (x == ("__debug__" : Str)) = false := by decide)
    (hcd : (x == ("__classdict__" : Str)) = false := by decide) : DE X (.Name x pos) (eVar i) := by
  refine ⟨fun W => pe_weak (pe_lk (pe_var hN hv hd hcd)) fun σ H Q h => ?_⟩
  obtain ⟨r, F, q, R, t, w⟩ := h
  unfold eVar at t
  cases e : dat r i with
  | none => rw [e] at t; exact t.elim
  | some c =>
    rw [e] at t
    cases c with
    | sh d =>
      obtain ⟨v, e1, e2⟩ := R.sh i d e
      exact ⟨v, e1, .inl (w d r v F H t R (Same.refl _) e2)⟩
    | own m =>
      cases m with
      | lst ds =>
        obtain ⟨a, vs, e1, e2, e3, e4⟩ := R.freeze e
        exact ⟨_, e1, .inl (w _ _ _ _ _ t e3 e2 e4)⟩
      | dic ds =>
        obtain ⟨a, o, e1, e2, mu, z⟩ := R.freezeD e
        exact ⟨_, e1, .inr ⟨a, o, e2, mu, fun od => w _ _ _ _ _ t (z od).2.1 (z od).1 (z od).2.2⟩⟩
      | ins C fs => exact t.elim
      | lok _ _ _ => exact t.elim
    | io m => exact t.elim
    | rg g => exact t.elim
def eC (d : D) : DTE := fun r q => q d r
theorem d_const {e : Expr} {v : V} {d : D} (h : PE X e (tC v)) (hr : ∀ F, Rp X.K F v d) : DE X e (eC d) := by
  refine ⟨fun W => pe_weak h fun σ H Q h => ?_⟩
  obtain ⟨r, F, q, R, t, w⟩ := h
  exact w d r v F H t R (Same.refl _) (hr F)
theorem d_int {i : Int} {j : Nat} {pos : Pos} : DE X (.Constant (.int i) j pos) (eC (.int i)) := d_const pe_int fun _ => .int i
theorem d_bl {b : Bool} {j : Nat} {pos : Pos} : DE X (.Constant (.bool b) j pos) (eC (.bool b)) := d_const pe_bl fun _ => .bl b
theorem d_non {j : Nat} {pos : Pos} : DE X (.Constant .none j pos) (eC .none) := d_const pe_non fun _ => .non
theorem d_str {z : Str} {j : Nat} {pos : Pos} : DE X (.Constant (.str z) j pos) (eC (.str z)) := d_const pe_str fun _ => .str z
/-- a constant of the module -/
theorem d_glob {x : Str} {pos : Pos} {v : V} {u : Value} {d : D} (hg : Gl X x) (hm : X.mg x = some u) (r : RelV v u) (hr : ∀ F, Rp X.K F v d) (hd : (x == ("__debug__" : Str)) = false := by decide) : DE X (.Name x pos) (eC d) := d_const (pe_glob hg hm r hd) hr
/-- the reading q of data, as a reading of values -/
def Fin2 (K : PySem.W.Frag) (F H : Hp) (q : D → Prop) (Q : VK) : Prop := ∀ d v F' H', q d → Ext F H F' H' → Rp K F' v d → Q v H'
abbrev P1 := D → (D → Prop) → Prop
abbrev P2 := D → D → (D → Prop) → Prop
abbrev PN := List D → (D → Prop) → Prop
def VOp (K : PySem.W.Frag) (r : R2) (p : P2) : Prop := ∀ F H x y dx dy q Q, Same F H → Rp K F x dx → Rp K F y dy → p dx dy q → Fin2 K F H q Q → r x y H Q
def VUn (K : PySem.W.Frag) (r : V → Hp → VK → Prop) (p : P1) : Prop := ∀ F H x dx q Q, Same F H → Rp K F x dx → p dx q → Fin2 K F H q Q → r x H Q
def VCall (K : PySem.W.Frag) (r : List V → Hp → VK → Prop) (p : PN) : Prop := ∀ F H xs ds q Q, Same F H → RpAll K F xs ds → p ds q → Fin2 K F H q Q → r xs H Q
def eOp2 (p : P2) (ta tb : DTE) : DTE := fun r q => ta r fun x r1 => tb r1 fun y r2 => p x y fun d => q d r2
def eOp1 (p : P1) (ta : DTE) : DTE := fun r q => ta r fun x r1 => p x fun d => q d r1
def eCall (p : PN) (ta : DTA) : DTE := fun r q => ta r fun xs r1 => p xs fun d => q d r1
theorem op2_weak {K : PySem.W.Frag} {W : Wd} {r2 : R2} {p : P2} {ta tb : DTE} (hv : VOp K r2 p) (σ : St) (H : Hp) (Q : VK) (h : lift K W (eOp2 p ta tb) σ H Q) : tOp r2 (lift K W ta) (lift K W tb) σ H Q := by
  obtain ⟨r, F, q, R, t, w⟩ := h
  refine ⟨r, F, _, R, t, fun dx r1 v1 F1 H1 t1 R1 s1 p1 => ⟨r1, F1, _, R1, t1, fun dy rr v2 F2 H2 t2 R2' s2 p2 => ?_⟩⟩
  exact hv F2 H2 v1 v2 dx dy _ Q R2'.sub (p1.up s2) p2 t2 fun d v F' H' qd e rp => w d rr v F' H' qd (R2'.ext e) (s1.trans (s2.trans e.f)) rp
theorem d_op {op : Operator} {r2 : R2} {p : P2} {a b : Expr} {ta tb : DTE} {pos : Pos} (ho : OpR X (binaryOp op) r2) (hv : VOp X.K r2 p) (ha : DE X a ta) (hb : DE X b tb) : DE X (.BinOp a op b pos) (eOp2 p ta tb) :=
  ⟨fun W => pe_weak (pe_op ho (ha.run W) (hb.run W)) (op2_weak hv)⟩
theorem d_cmp {op : CmpOp} {r2 : R2} {p : P2} {a b : Expr} {ta tb : DTE} {pos : Pos} (ho : OpR X (compareOp op) r2) (hv : VOp X.K r2 p) (ha : DE X a ta) (hb : DE X b tb) (hm : behindInMarks op b = false) : DE X (.Compare a [op] [b] pos) (eOp2 p ta tb) :=
  ⟨fun W => pe_weak (pe_cmpR ho (ha.run W) (hb.run W) hm) (op2_weak hv)⟩
theorem d_un {op : UnaryOp} {r1 : V → Hp → VK → Prop} {p : P1} {a : Expr} {ta : DTE} {pos : Pos} (ho : UnR X (unaryOp op) r1) (hv : VUn X.K r1 p) (ha : DE X a ta) : DE X (.UnaryOp op a pos) (eOp1 p ta) := by
  refine ⟨fun W => pe_weak (pe_un ho (ha.run W)) fun σ H Q h => ?_⟩
  obtain ⟨r, F, q, R, t, w⟩ := h
  refine ⟨r, F, _, R, t, fun dx r1 v1 F1 H1 t1 R1 s1 p1 => ?_⟩
  exact hv F1 H1 v1 dx _ Q R1.sub p1 t1 fun d v F' H' qd e rp => w d r1 v F' H' qd (R1.ext e) (s1.trans e.f) rp
theorem call_weak {K : PySem.W.Frag} {W : Wd} {rc : List V → Hp → VK → Prop} {p : PN} {ta : DTA} (hv : VCall K rc p) (σ : St) (H : Hp) (Q : VK) (h : lift K W (eCall p ta) σ H Q) : tCB rc (liftA K W ta) σ H Q := by
  obtain ⟨r, F, q, R, t, w⟩ := h
  refine ⟨r, F, _, R, t, fun dx r1 v1 F1 H1 t1 R1 s1 p1 => ?_⟩
  exact hv F1 H1 v1 dx _ Q R1.sub p1 t1 fun d v F' H' qd e rp => w d r1 v F' H' qd (R1.ext e) (s1.trans e.f) rp
theorem d_callB {id : String} {x : Str} {pp pos : Pos} {e : Expr} {es : List Expr} {rc : List V → Hp → VK → Prop} {p : PN} {ta : DTA} (hc : CallR X (.builtin id) rc) (hv : VCall X.K rc p) (hg : Gl X x) (hm : X.mg x = none) (hb : bootBuiltins x = some (.builtin id)) (ha : DA X (e :: es) ta)
    (hn : x ≠ "__name__" := by decide) (hdb : (x == ("__debug__" : Str)) = false := by decide) (he : starEach (e :: es) X.env = (false, eval e X.env) :: starEach es X.env := by rfl) (hpl : (backTo pos (starEach es X.env)).any (·.1) = false := by rfl) :
    DE X (.Call (.Name x pp) (e :: es) [] pos) (eCall p ta) :=
  ⟨fun W => pe_weak (pe_callB hc hg hm hb (ha.run W) hn hdb he hpl) (call_weak hv)⟩
theorem d_callTy {id : String} {x : Str} {pp pos : Pos} {e : Expr} {es : List Expr} {rc : List V → Hp → VK → Prop} {p : PN} {ta : DTA} (hc : CallR X (.type id) rc) (hv : VCall X.K rc p) (hg : Gl X x) (hm : X.mg x = none) (hb : bootBuiltins x = some (.type id)) (ha : DA X (e :: es) ta)
    (hn : x ≠ "__name__" := by decide) (hdb : (x == ("__debug__" : Str)) = false := by decide) (he : starEach (e :: es) X.env = (false, eval e X.env) :: starEach es X.env := by rfl) (hpl : (backTo pos (starEach es X.env)).any (·.1) = false := by rfl) :
    DE X (.Call (.Name x pp) (e :: es) [] pos) (eCall p ta) :=
  ⟨fun W => pe_weak (pe_callTy hc hg hm hb (ha.run W) hn hdb he hpl) (call_weak hv)⟩
def aNil : DTA := fun r q => q [] r
def aCons (ta : DTE) (tr : DTA) : DTA := fun r q => ta r fun x r1 => tr r1 fun xs r2 => q (x :: xs) r2
theorem a_nil : DA X [] aNil := by
  refine ⟨fun W => pa_weak pa_nil fun σ H Q h => ?_⟩
  obtain ⟨r, F, q, R, t, w⟩ := h
  exact w [] r [] F H t R (Same.refl _) .nil
theorem a_cons {e : Expr} {es : List Expr} {ta : DTE} {tr : DTA} (ha : DE X e ta) (hr : DA X es tr) (hs : starEach (e :: es) X.env = (false, eval e X.env) :: starEach es X.env := by rfl) : DA X (e :: es) (aCons ta tr) := by
  refine ⟨fun W => pa_weak (pa_cons (ha.run W) (hr.run W) hs) fun σ H Q h => ?_⟩
  obtain ⟨r, F, q, R, t, w⟩ := h
  refine ⟨r, F, _, R, t, fun dx r1 v1 F1 H1 t1 R1 s1 p1 => ⟨r1, F1, _, R1, t1, fun ds rr vs F2 H2 t2 R2' s2 p2 => ?_⟩⟩
  exact w _ rr _ F2 H2 t2 R2' (s1.trans s2) (.cons (p1.up s2) p2)
def eTup (ta : DTA) : DTE := fun r q => ta r fun xs r1 => xs.length ≤ sizeLine ∧ q (.tuple xs) r1
theorem d_tup {es : List Expr} {k : Nat} {pos : Pos} {ta : DTA} (h : DA X es ta) : DE X (.Tuple es k pos) (eTup ta) := by
  refine ⟨fun W => pe_weak (pe_tup (h.run W)) fun σ H Q h => ?_⟩
  obtain ⟨r, F, q, R, t, w⟩ := h
  refine ⟨r, F, _, R, t, fun ds r1 vs F1 H1 t1 R1 s1 p1 => ⟨p1.length ▸ t1.1, fun p hp => ?_⟩⟩
  have e := ext_new (o := .tup vs) R1.sub hp
  exact w _ r1 _ _ _ t1.2 (R1.ext e) (s1.trans e.f) (.tup (.inl (.inl upd_same)) (p1.up e.f))
/-- a new object in H alone -/
theorem rel_newH {K : PySem.W.Frag} {W : Wd} {r : DSt} {F : Hp} {σ : St} {H : Hp} {p : Addr} {o : HO} (R : Rel K W r F σ H) (hp : H p = none) : Rel K W r F σ (upd H p o) ∧ F p = none ∧ W.H0 p = none ∧ Apart r σ p := by
  refine ⟨R.ext (ext_newH R.sub hp), R.sub.free hp, ?_, ⟨fun i m e z => ?_, fun i g m e z => ?_⟩⟩
  · cases q : W.H0 p with
    | none => rfl
    | some u => exact absurd hp (R.there p (ne_none q))
  · rcases e with e | e
    · obtain ⟨a, u, e1, e2, _⟩ := R.own i m e
      rw [z] at e1; cases e1
      rw [hp] at e2; cases e2
    · obtain ⟨a, u, e1, e2, _⟩ := R.io i m e
      rw [z] at e1; cases e1
      rw [hp] at e2; cases e2
  · obtain ⟨u, e2, _⟩ := (R.rg i g e).ob p m z
    rw [hp] at e2; cases e2
def oLst (ta : DTA) : DTO := fun r q => ta r fun xs r1 => xs.length ≤ sizeLine ∧ q (.lst xs) r1
theorem o_lst {es : List Expr} {pos : Pos} {ta : DTA} (h : DA X es ta) : DO X (.List es pos) (oLst ta) := by
  refine ⟨fun W => pe_weak (pe_lst (h.run W)) fun σ H Q h => ?_⟩
  obtain ⟨r, F, q, R, t, w⟩ := h
  refine ⟨r, F, _, R, t, fun ds r1 vs F1 H1 t1 R1 s1 p1 => ⟨p1.length ▸ t1.1, fun p hp => ?_⟩⟩
  obtain ⟨R2', fp, h0, ap⟩ := rel_newH (o := .lst vs) R1 hp
  exact w (.lst ds) r1 p _ F1 _ t1.2 R2' s1 upd_same fp ⟨vs, rfl, p1⟩ h0 ap
/-- an object of one's own, given as data -/
def eFrz (t : DTO) : DTE := fun r q => t r fun m r1 => match m with
  | .lst ds => q (.list ds) r1
  | .dic ds => q (.dict ds) r1
  | _ => False
/-- a new object becomes data, o' in its place -/
theorem Rel.absorbL {K : PySem.W.Frag} {W : Wd} {r : DSt} {F : Hp} {σ : St} {H : Hp} {a : Addr} {o : HO} (o' : HO) (R : Rel K W r F σ H) (ha : H a = some o) (fa : F a = none) (h0 : W.H0 a = none) (ap : Apart r σ a) : Rel K W r (upd F a o') σ (upd H a o') ∧ Same F (upd F a o') := by
  have sF : Same F (upd F a o') := fun b u e => by rw [upd_ne (ne_of_none e fa)]; exact e
  refine ⟨⟨fun b u e => ?_, R.f0.trans sF, fun b u e1 e2 => ?_, fun b e => ?_, fun b e => ?_, fun j d e => ?_, fun j m e => ?_, fun j m e => ?_, R.ioA, R.sep, R.len, fun j g e => ⟨(R.rg j g e).nd, fun b m hm => ?_, (R.rg j g e).ap, (R.rg j g e).one⟩⟩, sF⟩
  · by_cases hb : b = a
    · subst hb; rw [upd_same] at e ⊢; exact e
    · rw [upd_ne hb] at e ⊢; exact R.sub _ _ e
  · rw [upd_ne (ne_of_none e1 h0)]; exact R.keep b u e1 e2
  · by_cases hb : b = a
    · subst hb; rw [upd_same]; exact fun z => by cases z
    · rw [upd_ne hb]; exact R.there b e
  · by_cases hb : b = a
    · subst hb; exact .inr (.inl h0)
    · rw [upd_ne hb] at e; exact R.new b e
  · obtain ⟨v, e1, e2⟩ := R.sh j d e
    exact ⟨v, e1, e2.up sF⟩
  · obtain ⟨b, u, e1, e2, e3, e4, e5⟩ := R.own j m e
    have hb : b ≠ a := fun z => ap.sl j m (.inl e) (z ▸ e1)
    exact ⟨b, u, e1, by rw [upd_ne hb]; exact e2, by rw [upd_ne hb]; exact e3, e4.up sF, e5⟩
  · obtain ⟨b, u, e1, e2, e3, e4, e5⟩ := R.io j m e
    have hb : b ≠ a := fun z => ap.sl j m (.inr e) (z ▸ e1)
    exact ⟨b, u, e1, by rw [upd_ne hb]; exact e2, by rw [upd_ne hb]; exact e3, e4.up sF, e5⟩
  · obtain ⟨u, e2, e3, e4, e5⟩ := (R.rg j g e).ob b m hm
    have hb : b ≠ a := fun z => ap.rg j g m e (z ▸ hm)
    exact ⟨u, by rw [upd_ne hb]; exact e2, by rw [upd_ne hb]; exact e3, e4.up sF, e5⟩
theorem Rel.absorb {K : PySem.W.Frag} {W : Wd} {r : DSt} {F : Hp} {σ : St} {H : Hp} {a : Addr} {o : HO} (R : Rel K W r F σ H) (ha : H a = some o) (fa : F a = none) (h0 : W.H0 a = none) (ap : Apart r σ a) : Rel K W r (upd F a o) σ H ∧ Same F (upd F a o) := by
  obtain ⟨z, s⟩ := R.absorbL o ha fa h0 ap
  rw [upd_self ha] at z
  exact ⟨z, s⟩
/-- a new dict becomes data: locked -/
theorem Rel.absorbD {K : PySem.W.Frag} {W : Wd} {r : DSt} {F : Hp} {σ : St} {H : Hp} {a : Addr} {o : HO} {ds : List (D × D)} {Q : VK} (R : Rel K W r F σ H) (ha : H a = some o) (fa : F a = none) (h0 : W.H0 a = none) (ap : Apart r σ a) (mo : MOk K F a o (.dic ds))
    (h : ∀ od, Rel K W r (upd F a (.frz od o)) σ (upd H a (.frz od o)) → Same F (upd F a (.frz od o)) → Rp K (upd F a (.frz od o)) (.ref a) (.dict ds) → Q (.ref a) (upd H a (.frz od o))) : orLock Q (.ref a) H :=
  .inr ⟨a, o, ha, mo.mut, fun od => by
    obtain ⟨z, s⟩ := R.absorbL (.frz od o) ha fa h0 ap
    exact h od z s ((mo.up s).rpD upd_same)⟩
theorem d_frz {e : Expr} {t : DTO} (h : DO X e t) : DE X e (eFrz t) := by
  refine ⟨fun W => pe_weak (pe_lk (h.run W)) fun σ H Q h => ?_⟩
  obtain ⟨r, F, q, R, t, w⟩ := h
  refine ⟨r, F, _, R, t, fun m r' a o F' H' t1 R1 s1 ha fa mo h0 ap => ?_⟩
  cases m with
  | ins C fs => exact t1.elim
  | lok _ _ _ => exact t1.elim
  | lst ds =>
    obtain ⟨vs, rfl, p1⟩ := mo
    obtain ⟨R2', s2⟩ := R1.absorb ha fa h0 ap
    exact .inl (w _ r' _ _ _ t1 R2' (s1.trans s2) (.lst upd_same (p1.up s2)))
  | dic ds =>
    exact R1.absorbD ha fa h0 ap mo fun od R2 s2 p2 => w _ r' _ _ _ t1 R2 (s1.trans s2) p2
end
end DL
end
section
set_option Elab.async false
set_option linter.all false
set_option maxRecDepth 100000
namespace DL
open PySem PySem.Spec PyProof.Rows L2
def tBl (t : DTE) : DTT := fun r q => t r fun d r1 => match d with
  | .bool b => q b r1
  | _ => False
theorem lift_bl {K : PySem.W.Frag} {W : Wd} {t : DTE} {σ : St} {H : Hp} {Q : Bool → Hp → Prop} (h : liftT K W (tBl t) σ H Q) : lift K W t σ H (fun x H' => ∃ k, x = .bl k ∧ Q k H') := by
  obtain ⟨r, F, q, R, t, w⟩ := h
  refine ⟨r, F, _, R, t, fun d r' v F' H' t1 R1 s1 p1 => ?_⟩
  cases d with
  | bool b => cases p1; exact ⟨b, rfl, w b r' F' H' t1 R1 s1⟩
  | _ => exact t1.elim
def tTru (t : DTE) : DTT := fun r q => t r fun d r1 => match d with
  | .none => q false r1
  | .bool b => q b r1
  | .int i => q (i != 0) r1
  | .str z => z.length ≤ sizeLine ∧ q ((z.length : Int) != 0) r1
  | .list xs => q (!xs.isEmpty) r1
  | .tuple xs => q (!xs.isEmpty) r1
  | .dict _ => False
theorem rp_isEmpty {K : PySem.W.Frag} {F : Hp} {vs : List V} {ds : List D} (h : RpAll K F vs ds) : (!ds.isEmpty) = !vs.isEmpty := by
  cases h <;> rfl
def tNt (t : DTT) : DTT := fun r q => t r fun b r1 => q (!b) r1
def tAn (t u : DTT) : DTT := fun r q => t r fun b r1 => if b = true then u r1 q else q false r1
def tOr' (t u : DTT) : DTT := fun r q => t r fun b r1 => if b = true then q true r1 else u r1 q
def eAnd (ta tb : DTE) : DTE := fun r q => ta r fun d r1 => match d with
  | .bool b => if b = true then tb r1 q else q (.bool false) r1
  | _ => False
def eOr (ta tb : DTE) : DTE := fun r q => ta r fun d r1 => match d with
  | .bool b => if b = true then q (.bool true) r1 else tb r1 q
  | _ => False
def eNot (ta : DTE) : DTE := fun r q => ta r fun d r1 => match d with
  | .bool b => q (.bool (!b)) r1
  | _ => False
def eIf (t : DTT) (ta tb : DTE) : DTE := fun r q => t r fun b r1 => if b = true then ta r1 q else tb r1 q
def eChain (p p' : P2) (ta tb tc : DTE) : DTE := fun r q => ta r fun x r1 => tb r1 fun y r2 => p x y fun z => match z with
  | .bool b => if b = true then tc r2 fun u r3 => p' y u fun d => q d r3 else q (.bool false) r2
  | _ => False
section
variable {X : Cx} {a b c e : Expr} {rest : List Expr} {ta tb tc : DTE} {t u : DTT} {pos : Pos}
theorem dt_tru (h : DE X e ta) (he : ∀ whole, isTrue e X.env whole = (do let v ← whole; standAt e.pos; holding [v] (truthy v)) := by intro _; rfl) : DT X e (tTru ta) := by
  refine ⟨fun W => pt_weak (pt_truth (h.run W) he) fun σ H Q h => ?_⟩
  obtain ⟨r, F, q, R, t, w⟩ := h
  refine ⟨r, F, _, R, t, fun d r' v F' H' t1 R1 s1 p1 => ?_⟩
  cases p1 with
  | non => exact ⟨false, rfl, w false r' F' H' t1 R1 s1⟩
  | bl b => exact ⟨b, rfl, w b r' F' H' t1 R1 s1⟩
  | int i => exact ⟨_, rfl, w _ r' F' H' t1 R1 s1⟩
  | str z => exact ⟨_, ⟨t1.1, rfl⟩, w _ r' F' H' t1.2 R1 s1⟩
  | lst h1 h2 => exact ⟨_, .inl ⟨_, SqL.of (R1.sub _ _ h1), rp_isEmpty h2⟩, w _ r' F' H' t1 R1 s1⟩
  | tup h1 h2 => exact ⟨_, .inr (.inl ⟨_, same_tup R1.sub h1, rp_isEmpty h2⟩), w _ r' F' H' t1 R1 s1⟩
  | scr h1 h2 => exact t1.elim
  | dic h1 h2 => exact t1.elim
  | exc h1 h2 => exact t1.elim
  | exn _ _ _ => exact t1.elim
  | tgt _ _ => exact t1.elim
  | dit h1 h2 => exact t1.elim
  | ptr a => exact t1.elim
theorem dt_cmp {op : CmpOp} {r2 : R2} {p : P2} (ho : OpR X (compareOp op) r2) (hv : VOp X.K r2 p) (ha : DE X a ta) (hb : DE X b tb) (hm : behindInMarks op b = false) : DT X (.Compare a [op] [b] pos) (tBl (eOp2 p ta tb)) :=
  ⟨fun W => pt_weak (pt_cmpR ho (ha.run W) (hb.run W) hm) fun σ H Q h => op2_weak hv σ H _ (lift_bl h)⟩
theorem dt_not (h : DT X a t) : DT X (.UnaryOp .Not a pos) (tNt t) := by
  refine ⟨fun W => pt_weak (pt_not (h.run W)) fun σ H Q h => ?_⟩
  obtain ⟨r, F, q, R, t, w⟩ := h
  exact ⟨r, F, _, R, t, fun b r' F' H' t1 R1 s1 => w _ r' F' H' t1 R1 s1⟩
theorem dw_and1 (h : DT X a t) : DW X (.BoolOp .And [a] pos) t := ⟨fun W => pw_and1 (h.run W)⟩
theorem dw_or1 (h : DT X a t) : DW X (.BoolOp .Or [a] pos) t := ⟨fun W => pw_or1 (h.run W)⟩
theorem dw_and (ha : DT X a t) (hb : DW X (.BoolOp .And (b :: rest) pos) u) : DW X (.BoolOp .And (a :: b :: rest) pos) (tAn t u) := by
  refine ⟨fun W => pw_weak (pw_and (ha.run W) (hb.run W)) fun σ H Q h => ?_⟩
  obtain ⟨r, F, q, R, t, w⟩ := h
  refine ⟨r, F, _, R, t, fun k r' F' H' t1 R1 s1 => ?_⟩
  cases k with
  | true => exact ⟨r', F', q, R1, t1, fun b r2 F2 H2 t2 R2' s2 => w b r2 F2 H2 t2 R2' (s1.trans s2)⟩
  | false => exact w _ r' F' H' t1 R1 s1
theorem dw_or (ha : DT X a t) (hb : DW X (.BoolOp .Or (b :: rest) pos) u) : DW X (.BoolOp .Or (a :: b :: rest) pos) (tOr' t u) := by
  refine ⟨fun W => pw_weak (pw_or (ha.run W) (hb.run W)) fun σ H Q h => ?_⟩
  obtain ⟨r, F, q, R, t, w⟩ := h
  refine ⟨r, F, _, R, t, fun k r' F' H' t1 R1 s1 => ?_⟩
  cases k with
  | true => exact w _ r' F' H' t1 R1 s1
  | false => exact ⟨r', F', q, R1, t1, fun b r2 F2 H2 t2 R2' s2 => w b r2 F2 H2 t2 R2' (s1.trans s2)⟩
theorem DW.dt (h : DW X a t) : DT X a t := ⟨fun W => (h.run W).pt⟩
theorem d_one {op : BoolOp} (h : DE X a ta) : DE X (.BoolOp op [a] pos) ta := ⟨fun W => pe_one (h.run W)⟩
theorem d_and (ha : DE X a ta) (hb : DE X (.BoolOp .And (b :: rest) pos) tb) : DE X (.BoolOp .And (a :: b :: rest) pos) (eAnd ta tb) := by
  refine ⟨fun W => pe_weak (pe_and (ha.run W) (hb.run W)) fun σ H Q h => ?_⟩
  obtain ⟨r, F, q, R, t, w⟩ := h
  refine ⟨r, F, _, R, t, fun d r' v F' H' t1 R1 s1 p1 => ?_⟩
  cases p1 with
  | bl k =>
    cases k with
    | true => exact ⟨true, rfl, r', F', q, R1, t1, fun d r2 v F2 H2 t2 R2' s2 => w d r2 v F2 H2 t2 R2' (s1.trans s2)⟩
    | false => exact ⟨false, rfl, w _ r' _ F' H' t1 R1 s1 (.bl false)⟩
  | _ => exact t1.elim
theorem d_or (ha : DE X a ta) (hb : DE X (.BoolOp .Or (b :: rest) pos) tb) : DE X (.BoolOp .Or (a :: b :: rest) pos) (eOr ta tb) := by
  refine ⟨fun W => pe_weak (pe_or (ha.run W) (hb.run W)) fun σ H Q h => ?_⟩
  obtain ⟨r, F, q, R, t, w⟩ := h
  refine ⟨r, F, _, R, t, fun d r' v F' H' t1 R1 s1 p1 => ?_⟩
  cases p1 with
  | bl k =>
    cases k with
    | true => exact ⟨true, rfl, w _ r' _ F' H' t1 R1 s1 (.bl true)⟩
    | false => exact ⟨false, rfl, r', F', q, R1, t1, fun d r2 v F2 H2 t2 R2' s2 => w d r2 v F2 H2 t2 R2' (s1.trans s2)⟩
  | _ => exact t1.elim
theorem d_not (ha : DE X a ta) : DE X (.UnaryOp .Not a pos) (eNot ta) := by
  refine ⟨fun W => pe_weak (pe_not (ha.run W)) fun σ H Q h => ?_⟩
  obtain ⟨r, F, q, R, t, w⟩ := h
  refine ⟨r, F, _, R, t, fun d r' v F' H' t1 R1 s1 p1 => ?_⟩
  cases p1 with
  | bl k => exact ⟨k, rfl, w _ r' _ F' H' t1 R1 s1 (.bl _)⟩
  | _ => exact t1.elim
theorem d_if (hc : DT X c t) (ha : DE X a ta) (hb : DE X b tb) : DE X (.IfExp c a b pos) (eIf t ta tb) := by
  refine ⟨fun W => pe_weak (pe_ifExp (hc.run W) (ha.run W) (hb.run W)) fun σ H Q h => ?_⟩
  obtain ⟨r, F, q, R, t, w⟩ := h
  refine ⟨r, F, _, R, t, fun k r' F' H' t1 R1 s1 => ?_⟩
  cases k with
  | true => exact ⟨r', F', q, R1, t1, fun d r2 v F2 H2 t2 R2' s2 => w d r2 v F2 H2 t2 R2' (s1.trans s2)⟩
  | false => exact ⟨r', F', q, R1, t1, fun d r2 v F2 H2 t2 R2' s2 => w d r2 v F2 H2 t2 R2' (s1.trans s2)⟩
theorem chain_weak {K : PySem.W.Frag} {W : Wd} {r2 r2' : R2} {p p' : P2} (hv : VOp K r2 p) (hv' : VOp K r2' p') (σ : St) (H : Hp) (Q : VK) (h : lift K W (eChain p p' ta tb tc) σ H Q) : tChain r2 r2' (lift K W ta) (lift K W tb) (lift K W tc) σ H Q := by
  obtain ⟨r, F, q, R, t, w⟩ := h
  refine ⟨r, F, _, R, t, fun dx r1 v1 F1 H1 t1 R1 s1 p1 => ⟨r1, F1, _, R1, t1, fun dy rr v2 F2 H2 t2 R2' s2 p2 => ?_⟩⟩
  refine hv F2 H2 v1 v2 dx dy _ _ R2'.sub (p1.up s2) p2 t2 fun d v F' H' qd e rp => ?_
  cases rp with
  | bl k =>
    have R3 := R2'.ext e
    have s3 := s1.trans (s2.trans e.f)
    refine ⟨k, rfl, ?_⟩
    cases k with
    | false => exact w _ rr _ F' H' qd R3 s3 (.bl false)
    | true => exact ⟨rr, F', _, R3, qd, fun du r4 v4 F4 H4 t4 R4 s4 p4 => hv' F4 H4 v2 v4 dy du _ Q R4.sub (p2.up (e.f.trans s4)) p4 t4 fun d v F5 H5 q5 e5 rp5 => w d r4 v F5 H5 q5 (R4.ext e5) (s3.trans (s4.trans e5.f)) rp5⟩
  | _ => exact qd.elim
theorem dt_chain {op op' : CmpOp} {r2 r2' : R2} {p p' : P2} (ho : OpR X (compareOp op) r2) (hv : VOp X.K r2 p) (ho' : OpR X (compareOp op') r2') (hv' : VOp X.K r2' p') (ha : DE X a ta) (hb : DE X b tb) (hc : DE X c tc)
    (hm : lastMarks [op, op'] [b, c] = false := by with_unfolding_all rfl) : DT X (.Compare a [op, op'] [b, c] pos) (tBl (eChain p p' ta tb tc)) :=
  ⟨fun W => pt_weak (pt_chain ho ho' (ha.run W) (hb.run W) (hc.run W) hm) fun σ H Q h => chain_weak hv hv' σ H _ (lift_bl h)⟩
end
section
variable {K : PySem.W.Frag} {W : Wd} {r : DSt} {F : Hp} {σ : St} {H : Hp}
/-- a slot is written: it holds c, a value v of which c is true -/
theorem Rel.put (R : Rel K W r F σ H) (i : Nat) (c : Option Cell) (v : V)
    (h : match c with
      | none => True
      | some (.sh d) => Rp K F v d
      | some (.own m) => ∃ a o, v = .ref a ∧ H a = some o ∧ F a = none ∧ MOk K F a o m ∧ (W.A a ∨ W.H0 a = none) ∧ (∀ j n, j ≠ i → (dat r j = some (Cell.own n) ∨ dat r j = some (Cell.io n)) → σ[j]? ≠ some (some (V.ref a))) ∧ ∀ j g m, dat r j = some (Cell.rg g) → (a, m) ∉ g
      | some (.io _) => False
      | some (.rg _) => False) : Rel K W (dput r i c) F (σ.set i (some v)) H := by
  have back : ∀ {j : Nat} {x : Cell}, dat (dput r i c) j = some x → (i = j ∧ c = some x ∧ i < σ.length) ∨ (i ≠ j ∧ dat r j = some x) := fun {j x} e => by
    by_cases hj : i = j
    · subst hj
      have q := dat_put e
      exact .inl ⟨rfl, q.1, R.len ▸ q.2⟩
    · rw [dat_put_ne hj] at e
      exact .inr ⟨hj, e⟩
  have gs : i < σ.length → (σ.set i (some v))[i]? = some (some v) := fun h => List.getElem?_set_self h
  have gn : ∀ {j : Nat}, i ≠ j → (σ.set i (some v))[j]? = σ[j]? := fun h => List.getElem?_set_ne h
  refine ⟨R.sub, R.f0, R.keep, R.there, R.new, fun j d e => ?_, fun j m e => ?_, fun j m e => ?_, R.ioA, fun j k m n p e1 e2 e3 e4 => ?_, by rw [dput_len, List.length_set]; exact R.len, fun j g e => ?_⟩
  · rcases back e with ⟨rfl, rfl, hl⟩ | ⟨hj, e⟩
    · exact ⟨v, gs hl, h⟩
    · rw [gn hj]; exact R.sh j d e
  · rcases back e with ⟨rfl, rfl, hl⟩ | ⟨hj, e⟩
    · obtain ⟨a, o, rfl, h2, h3, h4, h5, _⟩ := h
      exact ⟨a, o, gs hl, h2, h3, h4, h5⟩
    · rw [gn hj]; exact R.own j m e
  · rcases back e with ⟨rfl, rfl, hl⟩ | ⟨hj, e⟩
    · exact h.elim
    · rw [gn hj]; exact R.io j m e
  · have key : ∀ {j : Nat} {m : M}, (dat (dput r i c) j = some (Cell.own m) ∨ dat (dput r i c) j = some (Cell.io m)) → (i = j ∧ i < σ.length ∧ (c = some (Cell.own m))) ∨ (i ≠ j ∧ (dat r j = some (Cell.own m) ∨ dat r j = some (Cell.io m))) := fun {j m} e => by
      rcases e with e | e
      · rcases back e with ⟨a, b, c⟩ | ⟨a, b⟩
        · exact .inl ⟨a, c, b⟩
        · exact .inr ⟨a, .inl b⟩
      · rcases back e with ⟨a, b, c⟩ | ⟨a, b⟩
        · subst b; exact h.elim
        · exact .inr ⟨a, .inr b⟩
    rcases key e1 with ⟨rfl, hl, hc⟩ | ⟨hj, f1⟩
    · rcases key e2 with ⟨rfl, _, _⟩ | ⟨hk, f2⟩
      · rfl
      · subst hc
        obtain ⟨a, o, rfl, h2, h3, h4, h5, h6, _⟩ := h
        rw [gs hl] at e3; cases e3
        rw [gn hk] at e4
        exact absurd e4 (h6 k n (Ne.symm hk) f2)
    · rw [gn hj] at e3
      rcases key e2 with ⟨rfl, hl, hc⟩ | ⟨hk, f2⟩
      · subst hc
        obtain ⟨a, o, rfl, h2, h3, h4, h5, h6, _⟩ := h
        rw [gs hl] at e4; cases e4
        exact absurd e3 (h6 j m (Ne.symm hj) f1)
      · rw [gn hk] at e4
        exact R.sep j k m n p f1 f2 e3 e4
  · rcases back e with ⟨rfl, rfl, hl⟩ | ⟨hj, eg⟩
    · exact h.elim
    have G := R.rg j g eg
    refine ⟨G.nd, G.ob, fun b m k n hm e1 z => ?_, fun k g' e1 => ?_⟩
    · rcases e1 with e1 | e1
      · rcases back e1 with ⟨rfl, rfl, hl⟩ | ⟨hk, e1⟩
        · obtain ⟨a, o, rfl, h2, h3, h4, h5, h6, h7⟩ := h
          rw [gs hl] at z; cases z
          exact h7 j g m eg hm
        · rw [gn hk] at z; exact G.ap b m k n hm (.inl e1) z
      · rcases back e1 with ⟨rfl, rfl, hl⟩ | ⟨hk, e1⟩
        · exact h.elim
        · rw [gn hk] at z; exact G.ap b m k n hm (.inr e1) z
    · rcases back e1 with ⟨rfl, rfl, hl⟩ | ⟨hk, e1⟩
      · exact h.elim
      · exact G.one k g' e1
/-- an owner's (or a lent) object is changed -/
def isMut (m : M) (io : Bool) : Cell := if io = true then .io m else .own m
theorem Rel.mut {i : Nat} {m : M} {io : Bool} (R : Rel K W r F σ H) (h : dat r i = some (isMut m io)) :
    ∃ a o, σ[i]? = some (some (V.ref a)) ∧ H a = some o ∧ MOk K F a o m ∧ F a = none ∧ ∀ o' m', MOk K F a o' m' → Rel K W (dput r i (some (isMut m' io))) F σ (upd H a o') := by
  obtain ⟨a, o, h1, h2, h3, h4, h5⟩ : ∃ a o, σ[i]? = some (some (V.ref a)) ∧ H a = some o ∧ F a = none ∧ MOk K F a o m ∧ (W.A a ∨ W.H0 a = none) := by
    cases io with
    | false => exact R.own i m h
    | true =>
      obtain ⟨a, o, h1, h2, h3, h4, h5⟩ := R.io i m h
      exact ⟨a, o, h1, h2, h3, h4, .inl (R.ioA i a h5)⟩
  refine ⟨a, o, h1, h2, h4, h3, fun o' m' mo => ?_⟩
  have hil : i < r.length := dat_lt h
  have hio : dat r i = some (Cell.own m) ∨ dat r i = some (Cell.io m) := by
    cases io with
    | false => exact .inl h
    | true => exact .inr h
  have nea : ∀ {j : Nat} {n : M} {b : Addr}, j ≠ i → (dat r j = some (Cell.own n) ∨ dat r j = some (Cell.io n)) → σ[j]? = some (some (V.ref b)) → b ≠ a := fun {j n b} hj e1 e2 z => hj (R.sep j i n m a e1 hio (z ▸ e2) h1)
  have key : ∀ {j : Nat} {x : Cell}, dat (dput r i (some (isMut m' io))) j = some x → (i = j ∧ x = isMut m' io) ∨ (i ≠ j ∧ dat r j = some x) := fun {j x} e => by
    by_cases hj : i = j
    · subst hj
      rw [dat_put_same hil] at e
      exact .inl ⟨rfl, (Option.some.inj e).symm⟩
    · rw [dat_put_ne hj] at e
      exact .inr ⟨hj, e⟩
  have back : ∀ {j : Nat} {n : M}, (dat (dput r i (some (isMut m' io))) j = some (Cell.own n) ∨ dat (dput r i (some (isMut m' io))) j = some (Cell.io n)) → ∃ n', dat r j = some (Cell.own n') ∨ dat r j = some (Cell.io n') := fun {j n} e => by
    rcases e with e | e
    · rcases key e with ⟨rfl, _⟩ | ⟨_, e⟩
      · exact ⟨m, hio⟩
      · exact ⟨n, .inl e⟩
    · rcases key e with ⟨rfl, _⟩ | ⟨_, e⟩
      · exact ⟨m, hio⟩
      · exact ⟨n, .inr e⟩
  refine ⟨fun b u e => ?_, R.f0, fun b u e1 e2 => ?_, fun b e => ?_, R.new, fun j d e => ?_, fun j n e => ?_, fun j n e => ?_, R.ioA, fun j k n n' p e1 e2 e3 e4 => ?_, by rw [dput_len]; exact R.len, fun j g e => ?_⟩
  · rw [upd_ne (ne_of_none e h3)]; exact R.sub _ _ e
  · have hb : b ≠ a := fun z => by
      subst z
      rcases h5 with z | z
      · exact e2 z
      · rw [z] at e1; cases e1
    rw [upd_ne hb]; exact R.keep b u e1 e2
  · by_cases hb : b = a
    · subst hb; rw [upd_same]; exact fun z => by cases z
    · rw [upd_ne hb]; exact R.there b e
  · rcases key e with ⟨rfl, e'⟩ | ⟨hj, e⟩
    · cases io <;> cases e'
    · exact R.sh j d e
  · rcases key e with ⟨rfl, e'⟩ | ⟨hj, e⟩
    · cases io with
      | false => cases e'; exact ⟨a, o', h1, upd_same, h3, mo, h5⟩
      | true => cases e'
    · obtain ⟨b, u, e1, e2, e3, e4, e5⟩ := R.own j n e
      exact ⟨b, u, e1, by rw [upd_ne (nea (Ne.symm hj) (.inl e) e1)]; exact e2, e3, e4, e5⟩
  · rcases key e with ⟨rfl, e'⟩ | ⟨hj, e⟩
    · cases io with
      | false => cases e'
      | true =>
        cases e'
        obtain ⟨b, u, e1, e2, e3, e4, e5⟩ := R.io i m h
        rw [h1] at e1; cases e1
        exact ⟨a, o', h1, upd_same, h3, mo, e5⟩
    · obtain ⟨b, u, e1, e2, e3, e4, e5⟩ := R.io j n e
      exact ⟨b, u, e1, by rw [upd_ne (nea (Ne.symm hj) (.inr e) e1)]; exact e2, e3, e4, e5⟩
  · obtain ⟨_, f1⟩ := back e1
    obtain ⟨_, f2⟩ := back e2
    exact R.sep j k _ _ p f1 f2 e3 e4
  · rcases key e with ⟨rfl, e'⟩ | ⟨hj, e⟩
    · cases io <;> cases e'
    have G := R.rg j g e
    refine ⟨G.nd, fun b n hm => ?_, fun b n k n' hm e1 z => ?_, fun k g' e1 => ?_⟩
    · obtain ⟨u, k1, k2, k3, k4⟩ := G.ob b n hm
      have hb : b ≠ a := fun z => G.ap b n i _ hm hio (z ▸ h1)
      exact ⟨u, by rw [upd_ne hb]; exact k1, k2, k3, k4⟩
    · obtain ⟨n2, f⟩ := back e1
      exact G.ap b n k n2 hm f z
    · rcases key e1 with ⟨rfl, e'⟩ | ⟨hk, e1⟩
      · cases io <;> cases e'
      · exact G.one k g' e1
end
end DL
end
section
set_option Elab.async false
set_option linter.all false
set_option maxRecDepth 100000
namespace DL
open PySem PySem.Spec PyProof.Rows L2
structure DEnds where
  nx : DSt → Prop
  rt : Cell → DSt → Prop
  bk : DSt → Prop := fun _ => False
  ct : DSt → Prop := fun _ => False
abbrev DTS := DEnds → DSt → Prop
def ResOk (K : PySem.W.Frag) (W : Wd) (F H : Hp) (r : DSt) (σ : St) : Cell → V → Prop
  | .sh d, v => Rp K F v d
  | .own m, v => ∃ a o, v = .ref a ∧ H a = some o ∧ F a = none ∧ MOk K F a o m ∧ (W.A a ∨ W.H0 a = none) ∧ (∀ i n, dat r i = some (Cell.io n) → σ[i]? ≠ some (some (V.ref a))) ∧ ∀ i g n, dat r i = some (Cell.rg g) → (a, n) ∉ g
  | .io _, _ => False
  | .rg _, _ => False
structure SW (K : PySem.W.Frag) (W : Wd) (F : Hp) (q : DEnds) (E : Ends) : Prop where
  nx : ∀ r σ F' H', q.nx r → Rel K W r F' σ H' → Same F F' → E.nx σ H'
  bk : ∀ r σ F' H', q.bk r → Rel K W r F' σ H' → Same F F' → E.bk σ H'
  ct : ∀ r σ F' H', q.ct r → Rel K W r F' σ H' → Same F F' → E.ct σ H'
  rt : ∀ c r v σ F' H', q.rt c r → Rel K W r F' σ H' → Same F F' → ResOk K W F' H' r σ c v → E.rt v H'
theorem SW.up {K : PySem.W.Frag} {W : Wd} {F F1 : Hp} {q : DEnds} {E : Ends} (h : SW K W F q E) (s : Same F F1) : SW K W F1 q E :=
  ⟨fun r σ F' H' a b c => h.nx r σ F' H' a b (s.trans c), fun r σ F' H' a b c => h.bk r σ F' H' a b (s.trans c), fun r σ F' H' a b c => h.ct r σ F' H' a b (s.trans c), fun k r v σ F' H' a b c d => h.rt k r v σ F' H' a b (s.trans c) d⟩
def liftS (K : PySem.W.Frag) (W : Wd) (t : DTS) : TS := fun E σ H => ∃ r F q, Rel K W r F σ H ∧ t q r ∧ SW K W F q E
structure DS (X : Cx) (st : Stmt) (t : DTS) : Prop where
  run : ∀ W, PS X st (liftS X.K W t)
structure DSs (X : Cx) (st : List Stmt) (t : DTS) : Prop where
  run : ∀ W, PSs X st (liftS X.K W t)
def sNext : DTS := fun E r => E.nx r
def sSeq (t u : DTS) : DTS := fun E r => t { E with nx := u E } r
def sCont : DTS := fun E r => E.ct r
def sDrop (te : DTE) : DTS := fun E r => te r fun _ r1 => E.nx r1
def sRet (te : DTE) : DTS := fun E r => te r fun d r1 => E.rt (.sh d) r1
def sRetO (to : DTO) : DTS := fun E r => to r fun m r1 => E.rt (.own m) r1
def sIf (t : DTT) (a b : DTS) : DTS := fun E r => t r fun k r1 => if k = true then a E r1 else b E r1
def sSet (i : Nat) (te : DTE) : DTS := fun E r => te r fun d r1 => nrm (dput r1 i (some (.sh d))) E.nx
def sSetO (i : Nat) (to : DTO) : DTS := fun E r => to r fun m r1 => nrm (dput r1 i (some (.own m))) E.nx
def sPar (i j : Nat) (ta : DTA) : DTS := fun E r => ta r fun ds r1 => match ds with
  | [x, y] => nrm (dput (dput r1 i (some (.sh x))) j (some (.sh y))) E.nx
  | _ => False
section
variable {X : Cx} {st : Stmt} {rest : List Stmt} {t u : DTS} {e : Expr} {te : DTE} {pos : Pos}
theorem dss_nil : DSs X [] sNext := by
  refine ⟨fun W => pss_weak pss_nil fun D σ H h => ?_⟩
  obtain ⟨r, F, q, R, t, w⟩ := h
  exact w.nx r σ F H t R (Same.refl _)
theorem dss_cons (h1 : DS X st t) (h2 : DSs X rest u) : DSs X (st :: rest) (sSeq t u) := by
  refine ⟨fun W => pss_weak (pss_cons (h1.run W) (h2.run W)) fun D σ H h => ?_⟩
  obtain ⟨r, F, q, R, t, w⟩ := h
  exact ⟨r, F, _, R, t, fun r' σ' F' H' a b c => ⟨r', F', q, b, a, w.up c⟩, w.bk, w.ct, w.rt⟩
theorem dss_one (h1 : DS X st t) : DSs X [st] t := ⟨fun W => pss_one (h1.run W)⟩
theorem ds_continue : DS X (.Continue pos) sCont := by
  refine ⟨fun W => ps_weak ps_continue fun D σ H h => ?_⟩
  obtain ⟨r, F, q, R, t, w⟩ := h
  exact w.ct r σ F H t R (Same.refl _)
theorem ds_expr (he : DE X e te) (hs : swapsWith e none pos.line X.env = pure false := by rfl) : DS X (.Expr e pos) (sDrop te) := by
  refine ⟨fun W => ps_weak (ps_expr (he.run W) hs) fun D σ H h => ?_⟩
  obtain ⟨r, F, q, R, t, w⟩ := h
  exact ⟨r, F, _, R, t, fun d r' v F' H' a b c _ => w.nx r' σ F' H' a b c⟩
theorem ds_ret (he : DE X e te) : DS X (.Return (some e) pos) (sRet te) := by
  refine ⟨fun W => ps_weak (ps_ret (he.run W)) fun D σ H h => ?_⟩
  obtain ⟨r, F, q, R, t, w⟩ := h
  exact ⟨r, F, _, R, t, fun d r' v F' H' a b c p => w.rt _ r' v σ F' H' a b c p⟩
theorem ds_retO {to : DTO} (he : DO X e to) : DS X (.Return (some e) pos) (sRetO to) := by
  refine ⟨fun W => ps_weak (ps_ret (he.run W)) fun D σ H h => ?_⟩
  obtain ⟨r, F, q, R, t, w⟩ := h
  exact ⟨r, F, _, R, t, fun m r' a o F' H' k b c h1 h2 h3 h4 h5 => w.rt _ r' _ σ F' H' k b c ⟨a, o, rfl, h1, h2, h3, .inr h4, fun i n z => h5.sl i n (.inr z), h5.rg⟩⟩
theorem ds_if {c : Expr} {a b : List Stmt} {tc : DTT} (hc : DT X c tc) (ha : DSs X a t) (hb : DSs X b u) : DS X (.If c a b pos) (sIf tc t u) := by
  refine ⟨fun W => ps_weak (ps_if (hc.run W) (ha.run W) (hb.run W)) fun D σ H h => ?_⟩
  obtain ⟨r, F, q, R, t, w⟩ := h
  refine ⟨r, F, _, R, t, fun k r' F' H' a b c => ?_⟩
  cases k with
  | true => exact ⟨r', F', q, b, a, w.up c⟩
  | false => exact ⟨r', F', q, b, a, w.up c⟩
theorem ds_set {i : Nat} {x : Str} {pos' : Pos} (hN : X.N.Nodup) (hi : X.N[i]? = some x) (hx : Loc X.env.scope x) (he : DE X e te) (hs : swapsWith e (some (.Name x pos')) pos.line X.env = pure false := by rfl) (hf : X.fn x = true ∨ X.env.scope.names.lookup x = some .local := by first | exact .inl rfl | exact .inr rfl | assumption) :
    DS X (.Assign [.Name x pos'] e pos) (sSet i te) := by
  refine ⟨fun W => ps_weak (ps_set hN hi hx (he.run W) hs hf) fun D σ H h => ?_⟩
  obtain ⟨r, F, q, R, t, w⟩ := h
  exact ⟨r, F, _, R, t, fun d r' v F' H' a b c p => w.nx _ _ F' H' (nrm_el a) (b.put i (some (.sh d)) v p) c⟩
theorem ds_setO {i : Nat} {x : Str} {pos' : Pos} {to : DTO} (hN : X.N.Nodup) (hi : X.N[i]? = some x) (hx : Loc X.env.scope x) (he : DO X e to) (hs : swapsWith e (some (.Name x pos')) pos.line X.env = pure false := by rfl) (hf : X.fn x = true ∨ X.env.scope.names.lookup x = some .local := by first | exact .inl rfl | exact .inr rfl | assumption) :
    DS X (.Assign [.Name x pos'] e pos) (sSetO i to) := by
  refine ⟨fun W => ps_weak (ps_set hN hi hx (he.run W) hs hf) fun D σ H h => ?_⟩
  obtain ⟨r, F, q, R, t, w⟩ := h
  exact ⟨r, F, _, R, t, fun m r' a o F' H' k b c h1 h2 h3 h4 h5 => w.nx _ _ F' H' (nrm_el k) (b.put i (some (.own m)) (.ref a) ⟨a, o, rfl, h1, h2, h3, .inr h4, fun j n _ z => h5.sl j n z, h5.rg⟩) c⟩
theorem ds_par {i j : Nat} {x y : Str} {a b : Expr} {ta : DTA} {px py pt : Pos} {kt k2 pt2} (hc : X.calm = true) (hN : X.N.Nodup) (hi : X.N[i]? = some x) (hj : X.N[j]? = some y) (hij : i ≠ j)
    (hx : X.env.scope.names.lookup x = some .local) (hy : X.env.scope.names.lookup y = some .local) (ha : DA X [a, b] ta)
    (hw : swappedStores [.Tuple [.Name x px, .Name y py] kt pt] (.Tuple [a, b] k2 pt2) X.env = pure (some [x, y]))
    (hs : swapsWithSole [.Tuple [.Name x px, .Name y py] kt pt] (.Tuple [a, b] k2 pt2) pos.line X.env = pure false := by rfl) :
    DS X (.Assign [.Tuple [.Name x px, .Name y py] kt pt] (.Tuple [a, b] k2 pt2) pos) (sPar i j ta) := by
  refine ⟨fun W => ps_weak (ps_par hc hN hi hj hij hx hy (ha.run W) hw hs) fun D σ H h => ?_⟩
  obtain ⟨r, F, q, R, t, w⟩ := h
  refine ⟨r, F, _, R, t, fun ds r' vs F' H' a b c p => ?_⟩
  match ds, p, a with
  | [x, y], .cons p1 (.cons p2 .nil), a => exact ⟨_, _, rfl, w.nx _ _ F' H' (nrm_el a) ((b.put i (some (.sh x)) _ p1).put j (some (.sh y)) _ p2) c⟩
end
abbrev DTG := D → DSt → (DSt → Prop) → Prop
abbrev DTGs := List D → DSt → (DSt → Prop) → Prop
def liftG (K : PySem.W.Frag) (W : Wd) (g : DTG) : TG := fun v σ H Q => ∃ d r F q, Rel K W r F σ H ∧ Rp K F v d ∧ g d r q ∧ ∀ r' σ' F' H', q r' → Rel K W r' F' σ' H' → Same F F' → Q σ' H'
def liftGs (K : PySem.W.Frag) (W : Wd) (g : DTGs) : TGs := fun vs σ H Q => ∃ ds r F q, Rel K W r F σ H ∧ RpAll K F vs ds ∧ g ds r q ∧ ∀ r' σ' F' H', q r' → Rel K W r' F' σ' H' → Same F F' → Q σ' H'
structure DG (X : Cx) (tg : Expr) (g : DTG) : Prop where
  run : ∀ W, PG X tg (liftG X.K W g)
structure DGs (X : Cx) (tg : List Expr) (g : DTGs) : Prop where
  run : ∀ W, PGs X tg (liftGs X.K W g)
def gNm (i : Nat) : DTG := fun d r q => nrm (dput r i (some (.sh d))) q
def gsNil : DTGs := fun ds r q => match ds with
  | [] => q r
  | _ => False
def gsCons (g : DTG) (gs : DTGs) : DTGs := fun ds r q => match ds with
  | d :: t => g d r fun r1 => gs t r1 q
  | _ => False
def mutAt (r : DSt) (i : Nat) : Bool := match dat r i with
  | some (.own _) => true
  | some (.io _) => true
  | _ => false
def storeAt (i : Nat) (k : Int) (d : D) (r : DSt) (q : DSt → Prop) : Prop := match dat r i with
  | some (.own (.lst ds)) => ∃ j, ixN ds.length k = some j ∧ q (dput r i (some (.own (.lst (ds.set j d)))))
  | some (.io (.lst ds)) => ∃ j, ixN ds.length k = some j ∧ q (dput r i (some (.io (.lst (ds.set j d)))))
  | _ => False
def gSb (i : Nat) (ti : DTE) : DTG := fun d r q => mutAt r i = true ∧ ti r fun k r1 => match k with
  | .int k => storeAt i k d r1 q
  | _ => False
def sAsg (te : DTE) (g : DTG) : DTS := fun E r => te r fun d r1 => g d r1 E.nx
theorem mutAt_get {K : PySem.W.Frag} {W : Wd} {r : DSt} {F : Hp} {σ : St} {H : Hp} {i : Nat} (R : Rel K W r F σ H) (h : mutAt r i = true) : ∃ m io a, dat r i = some (isMut m io) ∧ σ[i]? = some (some (V.ref a)) := by
  unfold mutAt at h
  split at h
  · rename_i m e
    obtain ⟨a, o, h1, _⟩ := R.own i m e
    exact ⟨m, false, a, e, h1⟩
  · rename_i m e
    obtain ⟨a, o, h1, _⟩ := R.io i m e
    exact ⟨m, true, a, e, h1⟩
  · cases h
section
variable {X : Cx} {pos : Pos}
theorem dg_name {i : Nat} {x : Str} (hN : X.N.Nodup) (hi : X.N[i]? = some x) (hx : Loc X.env.scope x) (hf : X.fn x = true ∨ X.env.scope.names.lookup x = some .local := by first | exact .inl rfl | exact .inr rfl | assumption) : DG X (.Name x pos) (gNm i) := by
  refine ⟨fun W => pg_weak (pg_name hN hi hx hf) fun v σ H Q h => ?_⟩
  obtain ⟨d, r, F, q, R, p, t, w⟩ := h
  exact w _ _ F H (nrm_el t) (R.put i (some (.sh d)) v p) (Same.refl _)
theorem dgs_nil : DGs X [] gsNil := by
  refine ⟨fun W => pgs_weak pgs_nil fun v σ H Q h => ?_⟩
  obtain ⟨ds, r, F, q, R, p, t, w⟩ := h
  cases p with
  | nil => exact ⟨rfl, w _ _ F H t R (Same.refl _)⟩
  | cons _ _ => exact t.elim
theorem dgs_cons {e : Expr} {es : List Expr} {g : DTG} {gs : DTGs} (h1 : DG X e g) (h2 : DGs X es gs)
    (hs : (assignEach (e :: es) X.env).map (·.2) = assign e X.env :: (assignEach es X.env).map (·.2) := by rfl) : DGs X (e :: es) (gsCons g gs) := by
  refine ⟨fun W => pgs_weak (pgs_cons (h1.run W) (h2.run W) hs) fun v σ H Q h => ?_⟩
  obtain ⟨ds, r, F, q, R, p, t, w⟩ := h
  cases p with
  | nil => exact t.elim
  | cons p1 p2 => exact ⟨_, _, rfl, _, r, F, _, R, p1, t, fun r' σ' F' H' a b c => ⟨_, r', F', q, b, p2.up c, a, fun r2 σ2 F2 H2 a2 b2 c2 => w r2 σ2 F2 H2 a2 b2 (c.trans c2)⟩⟩
theorem dg_sub (i : Nat) {x : Str} {p : Pos} {ie : Expr} {ti : DTE} (hi : DE X ie ti) (hN : X.N[i]? = some x := by rfl) (hv : Vis X.env.scope x := by first | exact Or.inl rfl | exact Or.inr (Or.inl rfl) | exact Or.inr (Or.inr rfl)) (hd : (x == ("__debug__" : Str)) = false := by decide)
    (hcd : (x == ("__classdict__" : Str)) = false := by decide)
    (ha : ∀ v, assign (.Subscript (.Name x p) ie pos) X.env v = (do
      let ov ← holding [v] (eval (.Name x p) X.env)
      let iv ← holding [v, ov] (eval ie X.env)
      standAt pos
      holding [v, ov, iv] (setItem ov iv v)
      release [v, ov, iv] []) := by intro _; rfl) : DG X (.Subscript (.Name x p) ie pos) (gSb i ti) := by
  refine ⟨fun W => pg_weak (pg_sub (pe_var hN hv hd hcd) (hi.run W) set_list ha) fun v σ H Q h => ?_⟩
  obtain ⟨d, r, F, q, R, p, ⟨t0, t⟩, w⟩ := h
  obtain ⟨m, io, a, e0, e1⟩ := mutAt_get R t0
  refine ⟨_, e1, r, F, _, R, t, fun k r' kv F' H' a1 b c pk => ?_⟩
  cases pk with
  | int k =>
    have a2 : storeAt i k d r' q := a1
    unfold storeAt at a2
    split at a2
    · rename_i ds e
      obtain ⟨j, hj, qq⟩ := a2
      obtain ⟨a', o, h1, h2, ⟨vs, rfl, h3⟩, h4, h5⟩ := b.mut (io := false) (m := .lst ds) e
      rw [e1] at h1; cases h1
      exact ⟨a, vs, k, j, rfl, rfl, h2, by rw [h3.length]; exact hj, w _ _ F' _ qq (h5 (.lst (vs.set j v)) (.lst (ds.set j d)) ⟨_, rfl, h3.set j (p.up c)⟩) c⟩
    · rename_i ds e
      obtain ⟨j, hj, qq⟩ := a2
      obtain ⟨a', o, h1, h2, ⟨vs, rfl, h3⟩, h4, h5⟩ := b.mut (io := true) (m := .lst ds) e
      rw [e1] at h1; cases h1
      exact ⟨a, vs, k, j, rfl, rfl, h2, by rw [h3.length]; exact hj, w _ _ F' _ qq (h5 (.lst (vs.set j v)) (.lst (ds.set j d)) ⟨_, rfl, h3.set j (p.up c)⟩) c⟩
    · exact a2.elim
  | _ => exact a1.elim
theorem ds_asg {tg e : Expr} {te : DTE} {g : DTG} (he : DE X e te) (hg : DG X tg g) (hs : swapsWithSole [tg] e pos.line X.env = pure false := by rfl) (hw : swappedStores [tg] e X.env = pure none := by rfl)
    (h1 : (assignEach [tg] X.env).map (·.2) = [assign tg X.env] := by rfl) : DS X (.Assign [tg] e pos) (sAsg te g) := by
  refine ⟨fun W => ps_weak (ps_asg (he.run W) (hg.run W) hs hw h1) fun D σ H h => ?_⟩
  obtain ⟨r, F, q, R, t, w⟩ := h
  exact ⟨r, F, _, R, t, fun d r' v F' H' a b c p => ⟨d, r', F', _, b, p, a, fun r2 σ2 F2 H2 a2 b2 c2 => w.nx r2 σ2 F2 H2 a2 b2 (c.trans c2)⟩⟩
end
structure JOk (K : PySem.W.Frag) (F0 : Hp) (J : It) (ds : List D) : Prop where
  stop : ∀ i F H, Same F0 F → Same F H → ds.length ≤ i → J.stop i H
  go : ∀ i F H, Same F0 F → Same F H → i < ds.length → J.go i H
  yld : ∀ i F H x H' d, Same F0 F → Same F H → J.yld i H x H' → ds[i]? = some d → ∃ F', Ext F H F' H' ∧ Rp K F' x d
abbrev DTI := DSt → (List D → DSt → Prop) → Prop
def liftI (K : PySem.W.Frag) (W : Wd) (t : DTI) : TI := fun σ H Rr => ∃ r F q, Rel K W r F σ H ∧ t r q ∧ ∀ ds r' J F' H', q ds r' → Rel K W r' F' σ H' → Same F F' → JOk K F' J ds → Rr J H'
structure DI (X : Cx) (tg iter : Expr) (t : DTI) : Prop where
  run : ∀ W, PI X tg iter (liftI X.K W t)
/-- what a loop over a list gives (both readings of one list agree) -/
theorem jok_list {K : PySem.W.Frag} {F0 : Hp} {a : Addr} {vs : List V} {ds : List D} (h : SqL K F0 a vs) (p : RpAll K F0 vs ds) : JOk K F0 (Itl K a) ds where
  stop := fun i F H s1 s2 hi => ⟨vs, s2.seq (s1.seq h), p.length ▸ hi⟩
  go := fun i F H s1 s2 hi => by
    have hi' : i < vs.length := p.length ▸ hi
    exact ⟨vs, vs[i], s2.seq (s1.seq h), by simp [hi']⟩
  yld := fun i F H x H' d s1 s2 y e => by
    obtain ⟨rfl, y⟩ := y
    have ex := y vs (s2.seq (s1.seq h))
    obtain ⟨d', e1, e2⟩ := p.get ex
    rw [e] at e1; cases e1
    exact ⟨F, Ext.refl s2, e2.up s1⟩
theorem jok_tup {K : PySem.W.Frag} {F0 : Hp} {a : Addr} {vs : List V} {ds : List D} (h : SqT K F0 a vs) (p : RpAll K F0 vs ds) : JOk K F0 (Itt K a) ds where
  stop := fun i F H s1 s2 hi => ⟨vs, same_tup s2 (same_tup s1 h), p.length ▸ hi⟩
  go := fun i F H s1 s2 hi => by
    have hi' : i < vs.length := p.length ▸ hi
    exact ⟨vs, vs[i], same_tup s2 (same_tup s1 h), by simp [hi']⟩
  yld := fun i F H x H' d s1 s2 y e => by
    obtain ⟨rfl, y⟩ := y
    have ex := y vs (same_tup s2 (same_tup s1 h))
    obtain ⟨d', e1, e2⟩ := p.get ex
    rw [e] at e1; cases e1
    exact ⟨F, Ext.refl s2, e2.up s1⟩
def rngD (lo : Int) (n : Nat) : List D := (List.range n).map fun i => PyData.int (lo + (i : Nat))
theorem rngD_len (lo : Int) (n : Nat) : (rngD lo n).length = n := by unfold rngD; simp
theorem jok_rng {K : PySem.W.Frag} {F0 : Hp} (lo : Int) (n : Nat) : JOk K F0 (Itr lo n) (rngD lo n) where
  stop := fun i F H _ _ hi => by rw [rngD_len] at hi; exact hi
  go := fun i F H _ _ hi => by rw [rngD_len] at hi; exact hi
  yld := fun i F H x H' d s1 s2 y e => by
    obtain ⟨rfl, rfl⟩ := y
    have hi : i < n := by
      have q := (List.getElem?_eq_some_iff.mp e).1
      rw [rngD_len] at q; exact q
    have e' : d = PyData.int (lo + (i : Nat)) := by
      unfold rngD at e
      rw [List.getElem?_map, List.getElem?_range hi] at e
      exact (Option.some.inj e).symm
    subst e'
    exact ⟨F, Ext.refl s2, .int _⟩
def iR1 (ta : DTA) : DTI := fun r q => ta r fun ds r1 => match ds with
  | [.int j] => -(2 ^ 62) ≤ j ∧ j < 2 ^ 62 ∧ q (rngD 0 j.toNat) r1
  | _ => False
section
variable {X : Cx} {tg : Expr}
theorem di_range1 {a : Expr} {ta : DTA} {p pos : Pos} (hg : Gl X "range") (hm : X.mg "range" = none) (ha : DA X [a] ta) (hs : starEach [a] X.env = [(false, eval a X.env)] := by rfl) : DI X tg (.Call (.Name "range" p) [a] [] pos) (iR1 ta) := by
  refine ⟨fun W => pi_weak (pi_range1 hg hm (ha.run W) hs) fun σ H Q h => ?_⟩
  obtain ⟨r, F, q, R, t, w⟩ := h
  refine ⟨r, F, _, R, t, fun ds r' vs F' H' a b c p => ?_⟩
  match ds, p, a with
  | [.int j], .cons (.int _) .nil, a => exact ⟨j, rfl, a.1, a.2.1, w _ r' _ F' H' a.2.2 b c (jok_rng 0 _)⟩
end
def loopD (g : DTG) (tb : DTS) : List D → DEnds → DSt → Prop
  | [], E, r => E.nx r
  | d :: t, E, r => g d r fun r1 => tb { E with nx := loopD g tb t E, ct := loopD g tb t E, bk := E.nx } r1
def sFor (it : DTI) (g : DTG) (tb : DTS) : DTS := fun E r => it r fun ds r1 => loopD g tb ds E r1
theorem ds_for {X : Cx} {tg iter : Expr} {body : List Stmt} {it : DTI} {g : DTG} {tb : DTS} {pos : Pos} (hp : PassesOwn (model X.prog X.w) X.A X.env X.xe) (hc : X.calm = true) (hi : DI X tg iter it) (hg : DG X tg g) (hb : DSs X body tb)
    (hs : ∀ x, foldedSetIterable iter X.env x = pure x := by intro _; rfl) : DS X (.For tg iter body [] pos) (sFor it g tb) := by
  refine ⟨fun W => ps_weak (ps_for hp hc (hi.run W) (hg.run W) (hb.run W) hs) fun D σ H h => ?_⟩
  obtain ⟨r, F, q, R, t, w⟩ := h
  refine ⟨r, F, _, R, t, fun ds r1 J F1 H1 t1 R1 s1 jk => ?_⟩
  refine ⟨fun i m σ H => m + i = ds.length ∧ ∃ r F2, Rel X.K W r F2 σ H ∧ Same F1 F2 ∧ loopD g tb (ds.drop i) q r, ⟨ds.length, rfl, r1, F1, R1, Same.refl _, t1⟩, ?_⟩
  rintro i m σ H ⟨hm, r2, F2, R2', s2, t2⟩
  by_cases hi : i < ds.length
  · refine .inr ⟨jk.go i F2 H s2 R2'.sub hi, fun σ' H' => ∃ r F3, Rel X.K W r F3 σ' H' ∧ Same F1 F3 ∧ loopD g tb (ds.drop (i + 1)) q r, fun σ' H' z => ⟨m - 1, by omega, by omega, z⟩, fun x H' y => ?_⟩
    rw [List.drop_eq_getElem_cons hi] at t2
    obtain ⟨F3, ex, rp⟩ := jk.yld i F2 H x H' ds[i] s2 R2'.sub y (by simp [hi])
    have s3 := s2.trans ex.f
    refine ⟨ds[i], r2, F3, _, R2'.ext ex, rp, t2, fun r4 σ4 F4 H4 t4 R4 s4 => ⟨r4, F4, _, R4, t4, ?_⟩⟩
    have s5 := s3.trans s4
    exact ⟨fun r σ F3 H3 a b c => ⟨r, F3, b, s5.trans c, a⟩, fun r σ F3 H3 a b c => w.nx r σ F3 H3 a b (s1.trans (s5.trans c)), fun r σ F3 H3 a b c => ⟨r, F3, b, s5.trans c, a⟩, fun c r v σ F3 H3 a b k d => w.rt c r v σ F3 H3 a b (s1.trans (s5.trans k)) d⟩
  · refine .inl ⟨jk.stop i F2 H s2 R2'.sub (by omega), ?_⟩
    rw [List.drop_eq_nil_of_le (by omega)] at t2
    exact w.nx r2 σ F2 H t2 R2' (s1.trans s2)
end DL
end
section
set_option Elab.async false
set_option linter.all false
set_option maxRecDepth 100000
namespace DL
open PySem PySem.Spec PyProof.Rows L2
def AtSlot (r : DSt) (σ : St) (a : Addr) : Prop := (∃ i m, (dat r i = some (Cell.own m) ∨ dat r i = some (Cell.io m)) ∧ σ[i]? = some (some (V.ref a))) ∨ ∃ i g m, dat r i = some (Cell.rg g) ∧ (a, m) ∈ g
def here (r : DSt) (F : Hp) (σ : St) (H : Hp) : Wd := ⟨F, H, AtSlot r σ, fun i a => (∃ m, dat r i = some (Cell.io m)) ∧ σ[i]? = some (some (V.ref a))⟩
section
variable {K : PySem.W.Frag} {W : Wd} {r r' : DSt} {F F' : Hp} {σ σ' : St} {H H' : Hp}
theorem Rel.enter (R : Rel K W r F σ H) : Rel K (here r F σ H) r F σ H := by
  refine ⟨R.sub, Same.refl _, fun b o e _ => e, fun b e => e, fun b e => .inl e, R.sh, fun i m e => ?_, fun i m e => ?_, fun i a h => ?_, R.sep, R.len, fun i g e => ⟨(R.rg i g e).nd, fun a m hm => ?_, (R.rg i g e).ap, (R.rg i g e).one⟩⟩
  · obtain ⟨a, o, h1, h2, h3, h4, _⟩ := R.own i m e
    exact ⟨a, o, h1, h2, h3, h4, .inl (.inl ⟨i, m, .inl e, h1⟩)⟩
  · obtain ⟨a, o, h1, h2, h3, h4, _⟩ := R.io i m e
    exact ⟨a, o, h1, h2, h3, h4, ⟨m, e⟩, h1⟩
  · obtain ⟨⟨m, e⟩, h⟩ := h
    exact .inl ⟨i, m, .inr e, h⟩
  · obtain ⟨o, h1, h2, h3, _⟩ := (R.rg i g e).ob a m hm
    exact ⟨o, h1, h2, h3, .inl (.inr ⟨i, g, m, e, hm⟩)⟩
theorem Rel.atSlot (R : Rel K W r F σ H) {a : Addr} (h : AtSlot r σ a) : W.A a ∨ W.H0 a = none := by
  rcases h with ⟨i, m, e | e, h⟩ | ⟨i, g, m, e, hm⟩
  · obtain ⟨b, o, h1, h2, h3, h4, h5⟩ := R.own i m e
    rw [h] at h1; cases h1; exact h5
  · obtain ⟨b, o, h1, h2, h3, h4, h5⟩ := R.io i m e
    rw [h] at h1; cases h1; exact .inl (R.ioA i a h5)
  · obtain ⟨o, _, _, _, h⟩ := (R.rg i g e).ob a m hm
    exact h
theorem Rel.leave (R : Rel K W r F σ H) (R2 : Rel K (here r F σ H) r' F' σ' H') : Rel K W r' F' σ' H' := by
  have nA : ∀ {b : Addr} {o : HO}, W.H0 b = some o → ¬ W.A b → ¬ AtSlot r σ b := fun {b o} e1 e2 h => by
    rcases R.atSlot h with z | z
    · exact e2 z
    · rw [z] at e1; cases e1
  have h0 : ∀ {b : Addr}, H b = none → W.H0 b = none := fun {b} e => by
    cases q : W.H0 b with
    | none => rfl
    | some u => exact absurd e (R.there b (ne_none q))
  refine ⟨R2.sub, R.f0.trans R2.f0, fun b o e1 e2 => R2.keep b o (R.keep b o e1 e2) (nA e1 e2), fun b e => R2.there b (R.there b e), fun b e => ?_, R2.sh, fun i m e => ?_, fun i m e => ?_, R.ioA, R2.sep, R2.len, fun i g e => ⟨(R2.rg i g e).nd, fun a m hm => ?_, (R2.rg i g e).ap, (R2.rg i g e).one⟩⟩
  · rcases R2.new b e with z | z | z
    · exact R.new b z
    · exact .inr (.inl (h0 z))
    · rcases R.atSlot z with z | z
      · exact .inr (.inr z)
      · exact .inr (.inl z)
  · obtain ⟨a, o, h1, h2, h3, h4, h5⟩ := R2.own i m e
    refine ⟨a, o, h1, h2, h3, h4, ?_⟩
    rcases h5 with z | z
    · exact R.atSlot z
    · exact .inr (h0 z)
  · obtain ⟨a, o, h1, h2, h3, h4, ⟨n, e2⟩, h5⟩ := R2.io i m e
    obtain ⟨b, u, k1, k2, k3, k4, k5⟩ := R.io i n e2
    rw [h5] at k1; cases k1
    exact ⟨a, o, h1, h2, h3, h4, k5⟩
  · obtain ⟨o, h2, h3, h4, h5⟩ := (R2.rg i g e).ob a m hm
    refine ⟨o, h2, h3, h4, ?_⟩
    rcases h5 with z | z
    · exact R.atSlot z
    · exact .inr (h0 z)
/-- an object apart is written -/
theorem Rel.aside {a : Addr} {o : HO} (R : Rel K W r F σ H) (fa : F a = none) (h0 : W.H0 a = none) (ap : Apart r σ a) : Rel K W r F σ (upd H a o) := by
  refine ⟨fun b u e => by rw [upd_ne (ne_of_none e fa)]; exact R.sub _ _ e, R.f0, fun b u e1 e2 => by rw [upd_ne (ne_of_none e1 h0)]; exact R.keep b u e1 e2, fun b e => ?_, R.new, R.sh, fun i m e => ?_, fun i m e => ?_, R.ioA, R.sep, R.len, fun i g e => ⟨(R.rg i g e).nd, fun b m hm => ?_, (R.rg i g e).ap, (R.rg i g e).one⟩⟩
  · by_cases hb : b = a
    · subst hb; rw [upd_same]; exact fun z => by cases z
    · rw [upd_ne hb]; exact R.there b e
  · obtain ⟨b, u, h1, h2, h3, h4, h5⟩ := R.own i m e
    have hb : b ≠ a := fun z => ap.sl i m (.inl e) (z ▸ h1)
    exact ⟨b, u, h1, by rw [upd_ne hb]; exact h2, h3, h4, h5⟩
  · obtain ⟨b, u, h1, h2, h3, h4, h5⟩ := R.io i m e
    have hb : b ≠ a := fun z => ap.sl i m (.inr e) (z ▸ h1)
    exact ⟨b, u, h1, by rw [upd_ne hb]; exact h2, h3, h4, h5⟩
  · obtain ⟨u, h2, h3, h4, h5⟩ := (R.rg i g e).ob b m hm
    have hb : b ≠ a := fun z => ap.rg i g m e (z ▸ hm)
    exact ⟨u, by rw [upd_ne hb]; exact h2, h3, h4, h5⟩
/-- a slot is emptied -/
theorem Rel.drop (R : Rel K W r F σ H) (i : Nat) : Rel K W (dput r i none) F (σ.set i none) H := by
  have back : ∀ {j : Nat} {x : Cell}, dat (dput r i none) j = some x → i ≠ j ∧ dat r j = some x := fun {j x} e => by
    by_cases hj : i = j
    · subst hj
      have q := (dat_put e).1
      cases q
    · rw [dat_put_ne hj] at e
      exact ⟨hj, e⟩
  have gn : ∀ {j : Nat}, i ≠ j → (σ.set i none)[j]? = σ[j]? := fun h => List.getElem?_set_ne h
  have back2 : ∀ {j : Nat} {m : M}, (dat (dput r i none) j = some (Cell.own m) ∨ dat (dput r i none) j = some (Cell.io m)) → i ≠ j ∧ (dat r j = some (Cell.own m) ∨ dat r j = some (Cell.io m)) := fun {j m} e => by
    rcases e with e | e
    · exact ⟨(back e).1, .inl (back e).2⟩
    · exact ⟨(back e).1, .inr (back e).2⟩
  refine ⟨R.sub, R.f0, R.keep, R.there, R.new, fun j d e => ?_, fun j m e => ?_, fun j m e => ?_, R.ioA, fun j k m n p e1 e2 e3 e4 => ?_, by rw [dput_len, List.length_set]; exact R.len, fun j g e => ?_⟩
  · obtain ⟨hj, e⟩ := back e
    rw [gn hj]; exact R.sh j d e
  · obtain ⟨hj, e⟩ := back e
    rw [gn hj]; exact R.own j m e
  · obtain ⟨hj, e⟩ := back e
    rw [gn hj]; exact R.io j m e
  · obtain ⟨hj, f1⟩ := back2 e1
    obtain ⟨hk, f2⟩ := back2 e2
    rw [gn hj] at e3
    rw [gn hk] at e4
    exact R.sep j k m n p f1 f2 e3 e4
  · have G := R.rg j g (back e).2
    refine ⟨G.nd, G.ob, fun b m k n hm e1 z => ?_, fun k g' e1 => G.one k g' (back e1).2⟩
    obtain ⟨hk, f⟩ := back2 e1
    rw [gn hk] at z
    exact G.ap b m k n hm f z
def wipeD (r : DSt) : List Nat → DSt
  | [] => r
  | v :: vs => dput (wipeD r vs) v none
theorem Rel.wipe (R : Rel K W r F σ H) : ∀ js : List Nat, Rel K W (wipeD r js) F (wipe σ js) H
  | [] => R
  | j :: js => (Rel.wipe R js).drop j
theorem wipe_get (σ : St) (i : Nat) : ∀ js : List Nat, (wipe σ js)[i]? = if i ∈ js then (if i < σ.length then some none else none) else σ[i]?
  | [] => by simp [L2.wipe]
  | j :: js => by
    unfold L2.wipe
    by_cases hj : j = i
    · subst hj
      rw [if_pos List.mem_cons_self]
      by_cases hl : j < σ.length
      · rw [List.getElem?_set_self (by rw [wipe_length]; exact hl), if_pos hl]
      · rw [if_neg hl, List.getElem?_eq_none (by rw [List.length_set, wipe_length]; omega)]
    · rw [List.getElem?_set_ne hj, wipe_get σ i js]
      have e : (i ∈ j :: js) ↔ i ∈ js := by
        constructor
        · intro h
          rcases List.mem_cons.mp h with z | z
          · exact absurd z.symm hj
          · exact z
        · exact List.mem_cons_of_mem _
      simp only [e]
/-- the slots that were empty are as they were -/
theorem Rel.unwipe {js : List Nat} (R : Rel K W r F (L2.wipe σ js) H) : Rel K W r F σ H := by
  have up : ∀ {i : Nat} {v : V}, (L2.wipe σ js)[i]? = some (some v) → σ[i]? = some (some v) := fun {i v} e => (wipe_some e).1
  refine ⟨R.sub, R.f0, R.keep, R.there, R.new, fun i d e => ?_, fun i m e => ?_, fun i m e => ?_, R.ioA, fun i j m n a e1 e2 e3 e4 => ?_, by rw [R.len, wipe_length], fun i g e => ⟨(R.rg i g e).nd, (R.rg i g e).ob, fun b m k n hm e1 z => ?_, (R.rg i g e).one⟩⟩
  · obtain ⟨v, h1, h2⟩ := R.sh i d e
    exact ⟨v, up h1, h2⟩
  · obtain ⟨a, o, h1, h2⟩ := R.own i m e
    exact ⟨a, o, up h1, h2⟩
  · obtain ⟨a, o, h1, h2⟩ := R.io i m e
    exact ⟨a, o, up h1, h2⟩
  · have dn : ∀ {i : Nat} {m : M} {a : Addr}, (dat r i = some (Cell.own m) ∨ dat r i = some (Cell.io m)) → σ[i]? = some (some (V.ref a)) → (L2.wipe σ js)[i]? = some (some (V.ref a)) := fun {i m a} e h => by
      rcases e with e | e
      · obtain ⟨b, o, h1, _⟩ := R.own i m e
        have h2 := up h1
        rw [h] at h2; cases h2; exact h1
      · obtain ⟨b, o, h1, _⟩ := R.io i m e
        have h2 := up h1
        rw [h] at h2; cases h2; exact h1
    exact R.sep i j m n a e1 e2 (dn e1 e3) (dn e2 e4)
  · refine (R.rg i g e).ap b m k n hm e1 ?_
    rcases e1 with e1 | e1
    · obtain ⟨c, o, h1, _⟩ := R.own k n e1
      have h2 := up h1
      rw [z] at h2; cases h2; exact h1
    · obtain ⟨c, o, h1, _⟩ := R.io k n e1
      have h2 := up h1
      rw [z] at h2; cases h2; exact h1
theorem Apart.unwipe {js : List Nat} {a : Addr} (R : Rel K W r F (L2.wipe σ js) H) (h : Apart r (L2.wipe σ js) a) : Apart r σ a := ⟨fun i m e z => by
  rcases e with e | e
  · obtain ⟨b, o, h1, _⟩ := R.own i m e
    have h2 := (wipe_some h1).1
    rw [z] at h2; cases h2
    exact h.sl i m (.inl e) h1
  · obtain ⟨b, o, h1, _⟩ := R.io i m e
    have h2 := (wipe_some h1).1
    rw [z] at h2; cases h2
    exact h.sl i m (.inr e) h1, h.rg⟩
end
def putsV : List Nat → List V → St → St
  | j :: js, v :: vs, σ => putsV js vs (σ.set j (some v))
  | _, _, σ => σ
def putsD : List Nat → List D → DSt → DSt
  | j :: js, d :: ds, r => putsD js ds (dput r j (some (.sh d)))
  | _, _, r => r
theorem Rel.puts {K : PySem.W.Frag} {W : Wd} {F : Hp} {H : Hp} : ∀ {js : List Nat} {vs : List V} {ds : List D} {r : DSt} {σ : St}, Rel K W r F σ H → RpAll K F vs ds → Rel K W (putsD js ds r) F (putsV js vs σ) H
  | [], _, _, _, _, R, .nil => R
  | [], _, _, _, _, R, .cons _ _ => R
  | _ :: _, _, _, _, _, R, .nil => R
  | j :: js, _, _, _, _, R, .cons p t => Rel.puts (js := js) (R.put j (some (.sh _)) _ p) t
theorem putsV_len : ∀ {js : List Nat} {vs : List V} {σ : St}, (putsV js vs σ).length = σ.length
  | [], _, _ => rfl
  | _ :: _, [], _ => rfl
  | j :: js, v :: vs, σ => by
    show (putsV js vs (σ.set j (some v))).length = _
    rw [putsV_len, List.length_set]
theorem putsV_get {i : Nat} : ∀ {js : List Nat} {vs : List V} {σ : St}, i ∉ js → (putsV js vs σ)[i]? = σ[i]?
  | [], _, _, _ => rfl
  | _ :: _, [], _, _ => rfl
  | j :: js, v :: vs, σ, h => by
    show (putsV js vs (σ.set j (some v)))[i]? = _
    rw [putsV_get (fun z => h (List.mem_cons_of_mem _ z)), List.getElem?_set_ne (fun z => h (by rw [z]; exact List.mem_cons_self))]
theorem wipe_puts {σ : St} {js : List Nat} {vs : List V} : L2.wipe (putsV js vs (L2.wipe σ js)) js = L2.wipe σ js := by
  refine List.ext_getElem? fun i => ?_
  rw [wipe_get, wipe_get, putsV_len, wipe_length]
  by_cases h : i ∈ js
  · rw [if_pos h, if_pos h]
  · rw [if_neg h, if_neg h, putsV_get h, wipe_get, if_neg h]
def gNmsV : List Nat → TGs
  | [] => gNil
  | j :: js => gCons (gName j) (gNmsV js)
theorem gNmsV_ok {Q : St → Hp → Prop} {H : Hp} : ∀ {js : List Nat} {vs : List V} {σ : St}, vs.length = js.length → Q (putsV js vs σ) H → gNmsV js vs σ H Q
  | [], [], _, _, q => ⟨rfl, q⟩
  | [], _ :: _, _, h, _ => by cases h
  | _ :: _, [], _, h, _ => by cases h
  | j :: js, v :: vs, σ, h, q => ⟨v, vs, rfl, gNmsV_ok (js := js) (Nat.succ.inj h) q⟩
/-- a comprehension's target: one name, or a tuple of names -/
def cTg (K : PySem.W.Frag) (one : Bool) (js : List Nat) : TG := match one, js with
  | true, [j] => gName j
  | true, _ => fun _ _ _ _ => False
  | false, js => gTup K js.length (gNmsV js)
def tgD (one : Bool) (js : List Nat) (d : D) (r : DSt) (q : DSt → Prop) : Prop := match one, js with
  | true, [j] => q (dput r j (some (.sh d)))
  | true, _ => False
  | false, js => match d with
    | .tuple ds => ds.length = js.length ∧ q (putsD js ds r)
    | _ => False
theorem tgD_ok {K : PySem.W.Frag} {W : Wd} {F H : Hp} {r : DSt} {σ : St} {one : Bool} {js : List Nat} {d : D} {v : V} {q : DSt → Prop} {Q : St → Hp → Prop} (R : Rel K W r F σ H) (p : Rp K F v d) (t : tgD one js d r q)
    (h : ∀ vs r', q r' → Rel K W r' F (putsV js vs σ) H → Q (putsV js vs σ) H) : cTg K one js v σ H Q := by
  unfold tgD at t
  unfold cTg
  split at t
  · rename_i j
    exact h [v] _ t (R.put j (some (.sh d)) v p)
  · exact t.elim
  · cases p with
    | tup h1 h2 =>
      refine ⟨_, _, rfl, same_tup R.sub h1, h2.length.trans t.1, gNmsV_ok (h2.length.trans t.1) ?_⟩
      exact h _ _ t.2 (R.puts h2)
    | _ => exact t.elim
def compD (one : Bool) (js : List Nat) (tt : DTT) (te : DTE) : List D → List D → DSt → (List D → DSt → Prop) → Prop
  | [], acc, r, q => q acc r
  | d :: t, acc, r, q => tgD one js d r fun r1 => tt r1 fun b r2 => if b = true then te r2 fun y r3 => compD one js tt te t (acc ++ [y]) (wipeD r3 js) q else compD one js tt te t acc (wipeD r2 js) q
def oComp (one : Bool) (js : List Nat) (it : DTI) (tt : DTT) (te : DTE) : DTO := fun r q => it r fun ds r1 => ds.length ≤ sizeLine ∧ compD one js tt te ds [] (wipeD r1 js) fun acc r2 => q (.lst acc) r2
def anyE (K : PySem.W.Frag) (t : DTE) : TE := fun σ H Q => ∃ W, lift K W t σ H Q
def anyT (K : PySem.W.Frag) (t : DTT) : TT := fun σ H Q => ∃ W, liftT K W t σ H Q
theorem pe_any {X : Cx} {e : Expr} {t : DTE} (h : DE X e t) : PE X e (anyE X.K t) := ⟨fun pins s σ H Q I ⟨W, q⟩ => (h.run W).run pins s σ H Q I q⟩
theorem pt_any {X : Cx} {e : Expr} {t : DTT} (h : DT X e t) : PT X e (anyT X.K t) := ⟨fun pins s σ H Q I ⟨W, q⟩ => (h.run W).run pins s σ H Q I q⟩
def tYesD : DTT := fun r q => q true r
structure DTs (X : Cx) (ifs : List Expr) (t : DTT) : Prop where
  run : PTs X ifs (anyT X.K t)
theorem dts_nil {X : Cx} : DTs X [] tYesD := ⟨⟨fun pins s σ H Q I ⟨W, q⟩ => by
  obtain ⟨r, F, q, R, t, w⟩ := q
  exact pts_nil.run pins s σ H Q I (w true r F H t R (Same.refl _))⟩⟩
theorem dts_one {X : Cx} {c : Expr} {t : DTT} (h : DT X c t) : DTs X [c] t := ⟨pts_one (pt_any h)⟩
/-- the whole walk of a comprehension, as HandS asks it -/
theorem comp_weak {K : PySem.W.Frag} {W : Wd} {one : Bool} {js : List Nat} {it : DTI} {tt : DTT} {te : DTE} (σ : St) (H : Hp) (Q : VK) (h : liftO K W (oComp one js it tt te) σ H Q) : tLc (liftI K W it) (cTg K one js) (anyT K tt) (anyE K te) js σ H Q := by
  obtain ⟨r, F, q, R, t, w⟩ := h
  refine ⟨r, F, _, R, t, fun ds r1 J F1 H1 ⟨hz, t1⟩ R1 s1 jk D hD => ?_⟩
  have n0 := rel_newH (o := .lst []) R1 hD
  refine ⟨fun i m H => m + i = ds.length ∧ ∃ r F2 acc av, Rel K W r F2 (wipe σ js) H ∧ Same F1 F2 ∧ H D = some (.lst av) ∧ RpAll K F2 av acc ∧ F2 D = none ∧ Apart r (wipe σ js) D ∧ acc.length ≤ i ∧ compD one js tt te (ds.drop i) acc r (fun acc r2 => q (.lst acc) r2),
    ⟨ds.length, rfl, wipeD r1 js, F1, [], [], n0.1.wipe js, Same.refl _, upd_same, .nil, n0.2.1, ?_, Nat.le_refl _, t1⟩, ?_⟩
  · refine ⟨fun i m e z => ?_, fun i g m e z => ?_⟩
    · have R1w := R1.wipe js
      rcases e with e | e
      · obtain ⟨a, o, k1, k2, _⟩ := R1w.own i m e
        rw [z] at k1; cases k1
        rw [hD] at k2; cases k2
      · obtain ⟨a, o, k1, k2, _⟩ := R1w.io i m e
        rw [z] at k1; cases k1
        rw [hD] at k2; cases k2
    · obtain ⟨u, k2, _⟩ := ((R1.wipe js).rg i g e).ob D m z
      rw [hD] at k2; cases k2
  rintro i m H2 ⟨hm, r2, F2, acc, av, R2', s2, hd, pa, fD, ap, hl, t2⟩
  have h0 : W.H0 D = none := n0.2.2.1
  by_cases hi : i < ds.length
  · refine .inr ⟨jk.go i F2 H2 s2 R2'.sub hi, fun H' => ∃ r F3 acc av, Rel K W r F3 (wipe σ js) H' ∧ Same F1 F3 ∧ H' D = some (.lst av) ∧ RpAll K F3 av acc ∧ F3 D = none ∧ Apart r (wipe σ js) D ∧ acc.length ≤ i + 1 ∧ compD one js tt te (ds.drop (i + 1)) acc r (fun acc r2 => q (.lst acc) r2),
      fun H' z => ⟨m - 1, by omega, by omega, z⟩, fun x H3 y => ?_⟩
    rw [List.drop_eq_getElem_cons hi] at t2
    obtain ⟨F3, ex, rp⟩ := jk.yld i F2 H2 x H3 ds[i] s2 R2'.sub y (by simp [hi])
    have R3 := R2'.enter.ext ex
    have nAD : ¬ (here r2 F2 (wipe σ js) H2).A D := fun z => by
      rcases z with ⟨i, m, e, z⟩ | ⟨i, g, m, e, z⟩
      · exact ap.sl i m e z
      · exact ap.rg i g m e z
    -- what stays true of D in this turn
    have stayD : ∀ {r' : DSt} {F' : Hp} {σ' : St} {H' : Hp}, Rel K (here r2 F2 (wipe σ js) H2) r' F' σ' H' → H' D = some (.lst av) ∧ F' D = none ∧ Apart r' σ' D := fun {r' F' σ' H'} R' => by
      refine ⟨R'.keep D _ hd nAD, ?_, ⟨fun i m e z => ?_, fun i g m e z => ?_⟩⟩
      · cases q : F' D with
        | none => rfl
        | some u =>
          rcases R'.new D (ne_none q) with z | z | z
          · exact absurd fD z
          · have z' : H2 D = none := z
            rw [hd] at z'; cases z'
          · exact absurd z nAD
      · rcases e with e | e
        · obtain ⟨a, o, h1, h2, h3, h4, h5⟩ := R'.own i m e
          rw [z] at h1; cases h1
          rcases h5 with z | z
          · exact nAD z
          · have z' : H2 D = none := z
            rw [hd] at z'; cases z'
        · obtain ⟨a, o, h1, h2, h3, h4, h5⟩ := R'.io i m e
          rw [z] at h1; cases h1
          exact nAD (R'.ioA i _ h5)
      · obtain ⟨u, h2, h3, h4, h5⟩ := (R'.rg i g e).ob D m z
        rcases h5 with z | z
        · exact nAD z
        · have z' : H2 D = none := z
          rw [hd] at z'; cases z'
    refine tgD_ok (W := here r2 F2 (wipe σ js) H2) R3 rp t2 fun vs r4 t4 R4 => ⟨wipe_puts, here r2 F2 (wipe σ js) H2, r4, F3, _, R4, t4, fun b r5 F5 H5 t5 R5 s5 => ?_⟩
    -- an item is left out, or taken
    have next : ∀ {r' : DSt} {F' : Hp} {H' : Hp}, Rel K (here r2 F2 (wipe σ js) H2) r' F' (putsV js vs (wipe σ js)) H' → Rel K W (wipeD r' js) F' (wipe σ js) H' ∧ Rel K (here r2 F2 (wipe σ js) H2) (wipeD r' js) F' (wipe σ js) H' := fun {r' F' H'} R' => by
      have a := (R2'.leave R').wipe js
      have b := R'.wipe js
      rw [wipe_puts] at a b
      exact ⟨a, b⟩
    cases b with
    | false =>
      rw [if_neg Bool.false_ne_true] at t5
      obtain ⟨a, b⟩ := next R5
      obtain ⟨d1, d2, d3⟩ := stayD b
      exact iteF ⟨_, F5, acc, av, a, s2.trans (ex.f.trans s5), d1, pa.up (ex.f.trans s5), d2, d3, Nat.le_succ_of_le hl, t5⟩
    | true =>
      rw [if_pos rfl] at t5
      refine iteT ⟨_, r5, F5, _, R5, t5, fun yd r6 yv F6 H6 t6 R6 s6 py => ?_⟩
      obtain ⟨a, b⟩ := next R6
      obtain ⟨d1, d2, d3⟩ := stayD b
      have sAll := ex.f.trans (s5.trans s6)
      refine ⟨av, d1, ?_, _, F6, acc ++ [yd], av ++ [yv], a.aside d2 h0 d3, s2.trans sAll, upd_same, (pa.up sAll).append (.cons py .nil), d2, d3, ?_, t6⟩
      · rw [pa.length]; omega
      · rw [List.length_append, List.length_singleton]; omega
  · refine .inl ⟨jk.stop i F2 H2 s2 R2'.sub (by omega), ?_⟩
    rw [List.drop_eq_nil_of_le (by omega)] at t2
    exact w _ r2 D _ F2 H2 t2 R2'.unwipe (s1.trans s2) hd fD ⟨av, rfl, pa⟩ h0 (Apart.unwipe R2' ap)
theorem o_comp {X : Cx} {elt tg iter : Expr} {ifs : List Expr} {scope : Scope} {own : List (Str × Nat)} {pos : Pos} {one : Bool} {js : List Nat} {it : DTI} {tt : DTT} {te : DTE} (hc : X.calm = true) (hN : X.N.Nodup) (hi : DI X tg iter it) (ok : BlkOk X.N X.env.scope scope own) (hj : own.map (·.2) = js)
    (hg : ∀ (s : Shared) (H : Hp) (C : Addr) (cl : List (Str × Addr)) (fp : List Addr), PG (X.blk s H scope (compEnvC scope cl C X.env) fp) tg (cTg X.K one js)) (ht : ∀ (s : Shared) (H : Hp) (C : Addr) (cl : List (Str × Addr)) (fp : List Addr), DTs (X.blk s H scope (compEnvC scope cl C X.env) fp) ifs tt)
    (he : ∀ (s : Shared) (H : Hp) (C : Addr) (cl : List (Str × Addr)) (fp : List Addr), DE (X.blk s H scope (compEnvC scope cl C X.env) fp) elt te) (hs : ∀ x, foldedSetIterable iter X.env x = pure x := by intro _; rfl) :
    DO X (.ListComp elt [⟨tg, iter, ifs, 0⟩] scope pos) (oComp one js it tt te) := by
  subst hj
  exact ⟨fun W => pe_weak (pe_lc (tt := anyT X.K tt) (te := anyE X.K te) hc hN (hi.run W) ok hg (fun s H C cl fp => (ht s H C cl fp).run) (fun s H C cl fp => pe_any (he s H C cl fp)) hs) comp_weak⟩
end DL
end
section
set_option Elab.async false
set_option linter.all false
set_option maxRecDepth 100000
namespace DL
open PySem PySem.Spec PyProof.Rows L2
/-- a def's promise over data: the arguments, what is wanted of its answer and of the lent objects behind it -/
abbrev DSp := List Cell → (Cell → List M → Prop) → Prop
def cst (cs : List Cell) : DSt := cs.map some
def vst (vs : List V) : St := vs.map some
theorem dat_cst : ∀ {cs : List Cell} {i : Nat}, dat (cst cs) i = cs[i]?
  | [], _ => by simp [cst, dat]
  | c :: cs, 0 => by simp [cst, dat]
  | c :: cs, i + 1 => by
    have := dat_cst (cs := cs) (i := i)
    simpa [cst, dat] using this
theorem vst_get {vs : List V} {i : Nat} : (vst vs)[i]? = (vs[i]?).map some := by unfold vst; rw [List.getElem?_map]
def noOwn (cs : List Cell) : Prop := ∀ (i : Nat) (m : M), cs[i]? ≠ some (Cell.own m)
def noRg (cs : List Cell) : Prop := ∀ (i : Nat) (g : List (Addr × M)), cs[i]? ≠ some (Cell.rg g)
def ioCount : List Cell → Nat
  | [] => 0
  | .io _ :: cs => ioCount cs + 1
  | _ :: cs => ioCount cs
def putIo : List Cell → List M → List Cell
  | .io _ :: cs, m :: ms => .io m :: putIo cs ms
  | .io c :: cs, [] => .io c :: putIo cs []
  | .sh d :: cs, ms => .sh d :: putIo cs ms
  | .own c :: cs, ms => .own c :: putIo cs ms
  | .rg c :: cs, ms => .rg c :: putIo cs ms
  | [], _ => []
/-- the lent objects' contents in the end -/
def ioOuts : List Cell → DSt → Option (List M)
  | [], _ => some []
  | .io _ :: cs, some (.io m) :: r => (ioOuts cs r).map (m :: ·)
  | .io _ :: _, _ => none
  | _ :: cs, _ :: r => ioOuts cs r
  | _ :: cs, [] => ioOuts cs []
theorem ioOuts_len : ∀ {cs : List Cell} {r : DSt} {ms : List M}, ioOuts cs r = some ms → ms.length = ioCount cs
  | [], _, _, h => by cases h; rfl
  | .io _ :: cs, [], _, h => by cases h
  | .io _ :: cs, none :: r, _, h => by cases h
  | .io _ :: cs, some (.sh _) :: r, _, h => by cases h
  | .io _ :: cs, some (.own _) :: r, _, h => by cases h
  | .io _ :: cs, some (.rg _) :: r, _, h => by cases h
  | .io _ :: cs, some (.io m) :: r, _, h => by
    unfold ioOuts at h
    cases e : ioOuts cs r with
    | none => rw [e] at h; cases h
    | some l => rw [e] at h; cases h; exact congrArg (· + 1) (ioOuts_len e)
  | .sh _ :: cs, [], _, h => ioOuts_len (cs := cs) (r := []) h
  | .own _ :: cs, [], _, h => ioOuts_len (cs := cs) (r := []) h
  | .rg _ :: cs, [], _, h => ioOuts_len (cs := cs) (r := []) h
  | .rg _ :: cs, _ :: r, _, h => ioOuts_len (cs := cs) (r := r) h
  | .sh _ :: cs, _ :: r, _, h => ioOuts_len (cs := cs) (r := r) h
  | .own _ :: cs, _ :: r, _, h => ioOuts_len (cs := cs) (r := r) h
theorem ioOuts_get : ∀ {cs : List Cell} {r : DSt} {ms : List M} {i : Nat} {m : M}, ioOuts cs r = some ms → (putIo cs ms)[i]? = some (Cell.io m) → dat r i = some (Cell.io m) ∧ ∃ n, cs[i]? = some (Cell.io n)
  | [], _, _, _, _, _, e => by simp [putIo] at e
  | .io _ :: cs, [], _, _, _, h, _ => by cases h
  | .io _ :: cs, none :: r, _, _, _, h, _ => by cases h
  | .io _ :: cs, some (.sh _) :: r, _, _, _, h, _ => by cases h
  | .io _ :: cs, some (.own _) :: r, _, _, _, h, _ => by cases h
  | .io _ :: cs, some (.rg _) :: r, _, _, _, h, _ => by cases h
  | .rg _ :: cs, [], _, i, _, h, e => by
    cases i with
    | zero => simp [putIo] at e
    | succ i =>
      have := ioOuts_get (cs := cs) (r := []) (i := i) h (by simpa [putIo] using e)
      exact ⟨by simpa [dat] using this.1, by simpa using this.2⟩
  | .rg _ :: cs, _ :: r, _, i, _, h, e => by
    cases i with
    | zero => simp [putIo] at e
    | succ i =>
      have := ioOuts_get (cs := cs) (r := r) (i := i) h (by simpa [putIo] using e)
      exact ⟨this.1, by simpa using this.2⟩
  | .io c :: cs, some (.io m) :: r, _, i, _, h, e => by
    unfold ioOuts at h
    cases q : ioOuts cs r with
    | none => rw [q] at h; cases h
    | some l =>
      rw [q] at h; cases h
      cases i with
      | zero => simp [putIo] at e; subst e; exact ⟨rfl, c, rfl⟩
      | succ i =>
        have := ioOuts_get (i := i) q (by simpa [putIo] using e)
        exact ⟨this.1, by simpa using this.2⟩
  | .sh _ :: cs, [], _, i, _, h, e => by
    cases i with
    | zero => simp [putIo] at e
    | succ i =>
      have := ioOuts_get (cs := cs) (r := []) (i := i) h (by simpa [putIo] using e)
      exact ⟨by simpa [dat] using this.1, by simpa using this.2⟩
  | .own _ :: cs, [], _, i, _, h, e => by
    cases i with
    | zero => simp [putIo] at e
    | succ i =>
      have := ioOuts_get (cs := cs) (r := []) (i := i) h (by simpa [putIo] using e)
      exact ⟨by simpa [dat] using this.1, by simpa using this.2⟩
  | .sh _ :: cs, _ :: r, _, i, _, h, e => by
    cases i with
    | zero => simp [putIo] at e
    | succ i =>
      have := ioOuts_get (cs := cs) (r := r) (i := i) h (by simpa [putIo] using e)
      exact ⟨this.1, by simpa using this.2⟩
  | .own _ :: cs, _ :: r, _, i, _, h, e => by
    cases i with
    | zero => simp [putIo] at e
    | succ i =>
      have := ioOuts_get (cs := cs) (r := r) (i := i) h (by simpa [putIo] using e)
      exact ⟨this.1, by simpa using this.2⟩
theorem putIo_sh : ∀ {cs : List Cell} {ms : List M} {i : Nat} {d : D}, (putIo cs ms)[i]? = some (Cell.sh d) → cs[i]? = some (Cell.sh d)
  | [], _, _, _, e => by simp [putIo] at e
  | .io _ :: cs, m :: ms, i, d, e => by
    cases i with
    | zero => simp [putIo] at e
    | succ i => simpa using putIo_sh (cs := cs) (ms := ms) (i := i) (by simpa [putIo] using e)
  | .io _ :: cs, [], i, d, e => by
    cases i with
    | zero => simp [putIo] at e
    | succ i => simpa using putIo_sh (cs := cs) (ms := []) (i := i) (by simpa [putIo] using e)
  | .sh _ :: cs, ms, i, d, e => by
    cases i with
    | zero => simpa [putIo] using e
    | succ i => simpa using putIo_sh (cs := cs) (ms := ms) (i := i) (by simpa [putIo] using e)
  | .own _ :: cs, ms, i, d, e => by
    cases i with
    | zero => simp [putIo] at e
    | succ i => simpa using putIo_sh (cs := cs) (ms := ms) (i := i) (by simpa [putIo] using e)
  | .rg _ :: cs, ms, i, d, e => by
    cases i with
    | zero => simp [putIo] at e
    | succ i => simpa using putIo_sh (cs := cs) (ms := ms) (i := i) (by simpa [putIo] using e)
theorem putIo_own : ∀ {cs : List Cell} {ms : List M} {i : Nat} {d : M}, (putIo cs ms)[i]? = some (Cell.own d) → cs[i]? = some (Cell.own d)
  | [], _, _, _, e => by simp [putIo] at e
  | .io _ :: cs, m :: ms, i, d, e => by
    cases i with
    | zero => simp [putIo] at e
    | succ i => simpa using putIo_own (cs := cs) (ms := ms) (i := i) (by simpa [putIo] using e)
  | .io _ :: cs, [], i, d, e => by
    cases i with
    | zero => simp [putIo] at e
    | succ i => simpa using putIo_own (cs := cs) (ms := []) (i := i) (by simpa [putIo] using e)
  | .sh _ :: cs, ms, i, d, e => by
    cases i with
    | zero => simp [putIo] at e
    | succ i => simpa using putIo_own (cs := cs) (ms := ms) (i := i) (by simpa [putIo] using e)
  | .own _ :: cs, ms, i, d, e => by
    cases i with
    | zero => simpa [putIo] using e
    | succ i => simpa using putIo_own (cs := cs) (ms := ms) (i := i) (by simpa [putIo] using e)
  | .rg _ :: cs, ms, i, d, e => by
    cases i with
    | zero => simp [putIo] at e
    | succ i => simpa using putIo_own (cs := cs) (ms := ms) (i := i) (by simpa [putIo] using e)
theorem putIo_rg : ∀ {cs : List Cell} {ms : List M} {i : Nat} {g : List (Addr × M)}, (putIo cs ms)[i]? = some (Cell.rg g) → cs[i]? = some (Cell.rg g)
  | [], _, _, _, e => by simp [putIo] at e
  | .io _ :: cs, m :: ms, i, d, e => by
    cases i with
    | zero => simp [putIo] at e
    | succ i => simpa using putIo_rg (cs := cs) (ms := ms) (i := i) (by simpa [putIo] using e)
  | .io _ :: cs, [], i, d, e => by
    cases i with
    | zero => simp [putIo] at e
    | succ i => simpa using putIo_rg (cs := cs) (ms := []) (i := i) (by simpa [putIo] using e)
  | .sh _ :: cs, ms, i, d, e => by
    cases i with
    | zero => simp [putIo] at e
    | succ i => simpa using putIo_rg (cs := cs) (ms := ms) (i := i) (by simpa [putIo] using e)
  | .own _ :: cs, ms, i, d, e => by
    cases i with
    | zero => simp [putIo] at e
    | succ i => simpa using putIo_rg (cs := cs) (ms := ms) (i := i) (by simpa [putIo] using e)
  | .rg _ :: cs, ms, i, d, e => by
    cases i with
    | zero => simpa [putIo] using e
    | succ i => simpa using putIo_rg (cs := cs) (ms := ms) (i := i) (by simpa [putIo] using e)
theorem putIo_noRg {cs : List Cell} {ms : List M} (h : noRg cs) : noRg (putIo cs ms) := fun i g e => h i g (putIo_rg e)
theorem putIo_len : ∀ {cs : List Cell} {ms : List M}, (putIo cs ms).length = cs.length
  | [], _ => rfl
  | .io _ :: cs, m :: ms => congrArg (· + 1) (putIo_len (cs := cs) (ms := ms))
  | .io _ :: cs, [] => congrArg (· + 1) (putIo_len (cs := cs) (ms := []))
  | .sh _ :: cs, ms => congrArg (· + 1) (putIo_len (cs := cs) (ms := ms))
  | .own _ :: cs, ms => congrArg (· + 1) (putIo_len (cs := cs) (ms := ms))
  | .rg _ :: cs, ms => congrArg (· + 1) (putIo_len (cs := cs) (ms := ms))
/-- what an answer is, seen from the call -/
def Ans (K : PySem.W.Frag) (H F' H' : Hp) : Cell → V → Prop
  | .sh d, v => Rp K F' v d
  | .own m, v => ∃ a o, v = .ref a ∧ H' a = some o ∧ F' a = none ∧ MOk K F' a o m ∧ H a = none
  | .io _, _ => False
  | .rg _, _ => False
def liftSp (K : PySem.W.Frag) (n : Nat) (sp : DSp) : Sp := fun vs H Q _ => vs.length = n ∧ ∃ cs F post, cs.length = n ∧ noOwn cs ∧ noRg cs ∧ Rel K (here (cst cs) F (vst vs) H) (cst cs) F (vst vs) H ∧ sp cs post ∧
  ∀ c outs v F' H', post c outs → outs.length = ioCount cs → Rel K (here (cst cs) F (vst vs) H) (cst (putIo cs outs)) F' (vst vs) H' → Ans K H F' H' c v → Q v H'
/-- a body's begin and end over data -/
def startD (n : Nat) (cs : List Cell) : DSt := cst cs ++ List.replicate (n - cs.length) none
def retD (cs : List Cell) (post : Cell → List M → Prop) (c : Cell) (r : DSt) : Prop := match ioOuts cs r with
  | some outs => post c outs
  | none => False
def runD (n : Nat) (b : DTS) (cs : List Cell) (post : Cell → List M → Prop) : Prop :=
  nrm (startD n cs) (b { nx := fun r => retD cs post (.sh .none) r, rt := fun c r => retD cs post c r })
theorem dat_app_none : ∀ {cs : DSt} {k i : Nat} {c : Cell}, dat (cs ++ List.replicate k none) i = some c → dat cs i = some c
  | [], 0, _, _, h => by simp [dat] at h
  | [], k + 1, 0, _, h => by simp [dat, List.replicate_succ] at h
  | [], k + 1, i + 1, _, h => by
    rw [List.nil_append, List.replicate_succ] at h
    have h' : dat (List.replicate k none) i = some _ := h
    have := dat_app_none (cs := []) (k := k) (i := i) (by rw [List.nil_append]; exact h')
    simp [dat] at this
  | c :: cs, k, 0, _, h => h
  | c :: cs, k, i + 1, _, h => dat_app_none (cs := cs) (k := k) (i := i) h
theorem Rel.more {K : PySem.W.Frag} {W : Wd} {cs : DSt} {F H : Hp} {σ : St} (k : Nat) (R : Rel K W cs F σ H) : Rel K W (cs ++ List.replicate k none) F (σ ++ List.replicate k none) H := by
  have lt : ∀ {i : Nat} {c : Cell}, dat cs i = some c → (σ ++ List.replicate k none)[i]? = σ[i]? := fun {i c} h => List.getElem?_append_left (R.len ▸ dat_lt h)
  have dn : ∀ {i : Nat} {m : M}, (dat (cs ++ List.replicate k none) i = some (Cell.own m) ∨ dat (cs ++ List.replicate k none) i = some (Cell.io m)) → (dat cs i = some (Cell.own m) ∨ dat cs i = some (Cell.io m)) ∧ (σ ++ List.replicate k none)[i]? = σ[i]? := fun {i m} h => by
    rcases h with h | h
    · exact ⟨.inl (dat_app_none h), lt (dat_app_none h)⟩
    · exact ⟨.inr (dat_app_none h), lt (dat_app_none h)⟩
  refine ⟨R.sub, R.f0, R.keep, R.there, R.new, fun i d e => ?_, fun i m e => ?_, fun i m e => ?_, R.ioA, fun i j m n a e1 e2 e3 e4 => ?_, by rw [List.length_append, List.length_append, List.length_replicate, List.length_replicate, R.len], fun i g e => ⟨(R.rg i g (dat_app_none e)).nd, (R.rg i g (dat_app_none e)).ob, fun a m j n hm e1 z => ?_, fun j g' e1 => (R.rg i g (dat_app_none e)).one j g' (dat_app_none e1)⟩⟩
  · have e := dat_app_none e
    rw [lt e]; exact R.sh i d e
  · have e := dat_app_none e
    rw [lt e]; exact R.own i m e
  · have e := dat_app_none e
    rw [lt e]; exact R.io i m e
  · obtain ⟨f1, l1⟩ := dn e1
    obtain ⟨f2, l2⟩ := dn e2
    rw [l1] at e3
    rw [l2] at e4
    exact R.sep i j m n a f1 f2 e3 e4
  · obtain ⟨f1, l1⟩ := dn e1
    rw [l1] at z
    exact (R.rg i g (dat_app_none e)).ap a m j n hm f1 z
section
variable {P : Program} {w : World} {K : PySem.W.Frag} {mg : Str → Option Value} {base : Heap}
/-- a def called where no repr runs -/
structure FnG (P : Program) (w : World) (K : PySem.W.Frag) (mg : Str → Option Value) (base : Heap) (CX : CXT) (k : Nat) (f : Addr) (fd : FuncData) (ps : List Str) (sp : Sp) : Prop where
  len : ∀ vs H Q E, sp vs H Q E → vs.length = ps.length
  run : ∀ (A : Around) (outer : List Env) (s : Shared) (H : Hp) (args : Args) (us : List Value) (vs : List V) (Q : VK) (E : XK), Room k A → A.guards = some [] → Env0 P w K mg base A outer s H → BindsTo s fd args (ps.zip us) → Vals vs us → sp vs H Q E →
    codeAny (model P w) A (.call (.ref f) args) (CR CX outer P w H s Q E) s
/-- how a def of the text stands behind the top -/
structure Is (K : PySem.W.Frag) (mg : Str → Option Value) (x : Str) (st : Stmt) (ps : List Str) : Prop where
  ex : ∃ f fd, Fun K x x st f fd ∧ mg x = some (.ref f) ∧ Binds K fd ps []
/-- x is a def that keeps the promise sp, n arguments, level k -/
structure Def (P : Program) (w : World) (K : PySem.W.Frag) (mg : Str → Option Value) (base : Heap) (k : Nat) (x : Str) (n : Nat) (sp : DSp) : Prop where
  ex : ∃ f fd ps, FnG P w K mg base CX0 k f fd ps (liftSp K n sp) ∧ mg x = some (.ref f) ∧ PySem.W.keepIn K (.ref f) = true ∧ Binds K fd ps []
theorem Def.mono {j k : Nat} {x : Str} {n : Nat} {sp : DSp} (h : Def P w K mg base j x n sp) (l : j ≤ k) : Def P w K mg base k x n sp := by
  obtain ⟨f, fd, ps, F, a, b, c⟩ := h.ex
  exact ⟨f, fd, ps, ⟨F.len, fun A outer s H args us vs Q E hr => F.run A outer s H args us vs Q E (hr.mono l)⟩, a, b, c⟩
theorem Def.imp {k : Nat} {x : Str} {n : Nat} {sp sp' : DSp} (h : Def P w K mg base k x n sp) (l : ∀ cs post, sp' cs post → sp cs post) : Def P w K mg base k x n sp' := by
  obtain ⟨f, fd, ps, F, a, b, c⟩ := h.ex
  have up : ∀ vs H Q E, liftSp K n sp' vs H Q E → liftSp K n sp vs H Q E := fun vs H Q E ⟨h1, cs, F, post, h2, h3, h3', h4, h5, h6⟩ => ⟨h1, cs, F, post, h2, h3, h3', h4, l _ _ h5, h6⟩
  exact ⟨f, fd, ps, ⟨fun vs H Q E q => F.len vs H Q E (up _ _ _ _ q), fun A outer s H args us vs Q E hr hg he hb hv hs => F.run A outer s H args us vs Q E hr hg he hb hv (up _ _ _ _ hs)⟩, a, b, c⟩
theorem fng_of {CX : CXT} {x : Str} {st : Stmt} {f : Addr} {fd : FuncData} {N ps : List Str} {k : Nat} {sp : Sp} (F : Fun K x x st f fd) (S : FnScope N ps (defScope st)) (len : ∀ vs H Q E, sp vs H Q E → vs.length = ps.length)
    (hbody : ∀ (cdv : Value) (A : Around) (outer : List Env) (s : Shared) (H : Hp) (vs : List V) (Q : VK) (E : XK), Room k (A.deeper (envOfC x (defScope st) s.heap.objs.size f cdv)) → A.guards = some [] → sp vs H Q E →
      ∃ t, PSs (cxOf CX P w K mg base N x (defScope st) f cdv A outer s H E) (defBody st) t ∧ t { nx := fun _ H' => Q .non H', rt := Q } (start N vs) H) : FnG P w K mg base CX (k + 1) f fd ps sp := by
  obtain ⟨oc, od, kV, doc, pm, an, cdv, ct, osl, rfl, lk, hcd⟩ := F.ex
  refine ⟨len, fun A outer s H args us vs Q E room grd e0 hb rel hs => ?_⟩
  have hl := len _ _ _ _ hs
  have there : ∀ b o, base.get? b = some o → s.heap.get? b = some o := fun b o e => (e0.bs b o e).1
  have inK : K.In s.heap := e0.mod.kin.keeps there
  refine codeAny_call_function room.depth (inK _ _ lk) rfl S.co S.gen rfl (PySem.W.codeRec_of inK hcd) (hb _ _ _ _ ?_)
  refine wpAny_newFunctionEnv_cells S.kind (fun y hy => ?_) fun env he s1 ic => ?_
  · rcases S.par y.1 (List.of_mem_zip (a := y.1) (b := y.2) hy).1 with q | q
    · exact .inl q
    · exact .inr ⟨q, PySem.W.cellsFrom_some _ _ _ (.inl q)⟩
  subst he
  refine ⟨(e0.mod.nolimit.keeps there).keeps ic.toInCall.keep, codeAny_func ?_⟩
  obtain ⟨t, ht, hq⟩ := hbody cdv A outer s H vs Q E (room.deeper _) grd hs
  refine wpAny_mono (ht.run [] s1 (start N vs) H _ (inv_start S room.hd e0 hl rel ic) hq) (fun fl s' out => ?_) fun e s' out => out
  cases fl with
  | ret u =>
    obtain ⟨v, σ', H', J, rv, q⟩ := out
    exact ⟨v, H', J.os, J.bare, J.base, J.hok, rv, q⟩
  | next =>
    obtain ⟨σ', H', J, q⟩ := out
    exact ⟨V.non, H', J.os, J.bare, J.base, J.hok, rfl, q⟩
  | brk => obtain ⟨_, _, _, q⟩ := out; exact q.elim
  | cont => obtain ⟨_, _, _, q⟩ := out; exact q.elim
/-- THE RULE of a def: its body's reading b, and that b keeps the promise -/
theorem def_of {x : Str} {st : Stmt} {N ps : List Str} {k : Nat} {sp : DSp} {b : DTS} (I : Is K mg x st ps) (S : FnScope N ps (defScope st)) (hps : ps.length ≤ N.length)
    (hb : ∀ (f : Addr) (cdv : Value) (A : Around) (outer : List Env) (s : Shared) (H : Hp), Room k (A.deeper (envOfC x (defScope st) s.heap.objs.size f cdv)) → A.guards = some [] →
      DSs (cxOf CX0 P w K mg base N x (defScope st) f cdv A outer s H E0).nox (defBody st) b)
    (hp : ∀ cs post, cs.length = ps.length → sp cs post → runD N.length b cs post) : Def P w K mg base (k + 1) x ps.length sp := by
  obtain ⟨f, fd, F, hm, bi⟩ := I.ex
  refine ⟨f, fd, ps, fng_of F S (fun vs H Q E h => h.1) (fun cdv A outer s H vs Q E room grd hs => ?_), hm, F.kp, bi⟩
  obtain ⟨hl, cs, F1, post, hcl, no, nrg, R, hsp, out⟩ := hs
  have hX := hb f cdv A outer s H room grd
  have hr := nrm_el (hp cs post hcl hsp)
  refine ⟨liftS K (here (cst cs) F1 (vst vs) H) b, (hX.run _).nox, startD N.length cs, F1, _, ?_, hr, ?_⟩
  · have q := R.more (N.length - vs.length)
    have e1 : startD N.length cs = cst cs ++ List.replicate (N.length - vs.length) none := by unfold startD; rw [hcl, hl]
    have e2 : start N vs = vst vs ++ List.replicate (N.length - vs.length) none := rfl
    rw [e1, e2]; exact q
  · have fin : ∀ {c : Cell} {r : DSt} {v : V} {σ : St} {F' H' : Hp}, retD cs post c r → Rel K (here (cst cs) F1 (vst vs) H) r F' σ H' → Same F1 F' → ResOk K (here (cst cs) F1 (vst vs) H) F' H' r σ c v → Q v H' := fun {c r v σ F' H'} h1 R' s1 res => by
      unfold retD at h1
      cases e : ioOuts cs r with
      | none => rw [e] at h1; exact h1.elim
      | some outs =>
        rw [e] at h1
        have notown : ∀ i m, dat (cst (putIo cs outs)) i ≠ some (Cell.own m) := fun i m z => by
          rw [dat_cst] at z; exact no i m (putIo_own z)
        have ioR : ∀ i m, dat (cst (putIo cs outs)) i = some (Cell.io m) → dat r i = some (Cell.io m) ∧ ∃ n, dat (cst cs) i = some (Cell.io n) := fun i m z => by
          rw [dat_cst] at z
          obtain ⟨a, n, b⟩ := ioOuts_get e z
          exact ⟨a, n, by rw [dat_cst]; exact b⟩
        have R2 : Rel K (here (cst cs) F1 (vst vs) H) (cst (putIo cs outs)) F' (vst vs) H' := by
          refine ⟨R'.sub, R'.f0, R'.keep, R'.there, R'.new, fun i d z => ?_, fun i m z => absurd z (notown i m), fun i m z => ?_, R'.ioA, fun i j m n a z1 z2 z3 z4 => ?_, ?_, fun i g z => by rw [dat_cst] at z; exact absurd z (putIo_noRg nrg i g)⟩
          · rw [dat_cst] at z
            obtain ⟨v, q1, q2⟩ := R.sh i d (by rw [dat_cst]; exact putIo_sh z)
            exact ⟨v, q1, q2.up s1⟩
          · obtain ⟨a, o, q1, q2, q3, q4, q5⟩ := R'.io i m (ioR i m z).1
            exact ⟨a, o, q5.2, q2, q3, q4, q5⟩
          · have key : ∀ {i : Nat} {m : M}, (dat (cst (putIo cs outs)) i = some (Cell.own m) ∨ dat (cst (putIo cs outs)) i = some (Cell.io m)) → ∃ n, dat (cst cs) i = some (Cell.io n) := fun {i m} z => by
              rcases z with z | z
              · exact absurd z (notown i m)
              · exact (ioR i m z).2
            obtain ⟨m', z1⟩ := key z1
            obtain ⟨n', z2⟩ := key z2
            exact R.sep i j m' n' a (.inr z1) (.inr z2) z3 z4
          · have q := R.len
            unfold cst at q ⊢
            rw [List.length_map] at q ⊢
            rw [putIo_len]; exact q
        refine out c outs v F' H' h1 (ioOuts_len e) R2 ?_
        cases c with
        | sh d => exact res
        | io m => exact res.elim
        | rg g => exact res.elim
        | own m =>
          obtain ⟨a, o, q1, q2, q3, q4, q5, q6, _⟩ := res
          refine ⟨a, o, q1, q2, q3, q4, ?_⟩
          rcases q5 with (z | ⟨i, g, n, z, _⟩) | z
          · obtain ⟨i, n, z1, z2⟩ := z
            have z1' : dat (cst cs) i = some (Cell.io n) := by
              rcases z1 with z1 | z1
              · rw [dat_cst] at z1; exact absurd z1 (no i n)
              · exact z1
            -- the lent slot i is lent still
            have hlent : ∃ m', (putIo cs outs)[i]? = some (Cell.io m') := by
              have hi : i < (putIo cs outs).length := by
                rw [putIo_len]
                rw [dat_cst] at z1'
                exact (List.getElem?_eq_some_iff.mp z1').1
              have e3 : (putIo cs outs)[i]? = some (putIo cs outs)[i] := by simp [hi]
              cases e4 : (putIo cs outs)[i] with
              | sh d =>
                rw [e4] at e3
                have := putIo_sh e3
                rw [dat_cst, this] at z1'; cases z1'
              | own d =>
                rw [e4] at e3
                exact absurd (putIo_own e3) (no i d)
              | rg g =>
                rw [e4] at e3
                exact absurd (putIo_rg e3) (nrg i g)
              | io m' => exact ⟨m', by rw [e3, e4]⟩
            obtain ⟨m', e5⟩ := hlent
            have e6 := (ioR i m' (by rw [dat_cst]; exact e5)).1
            obtain ⟨a', o', k1, k2, k3, k4, k5⟩ := R'.io i m' e6
            have e7 := k5.2
            rw [z2] at e7; cases e7
            exact absurd k1 (q6 i m' e6)
          · rw [dat_cst] at z; exact absurd z (nrg i g)
          · exact z
    exact ⟨fun r σ F' H' a b c => fin a b c .non, fun r σ F' H' a b c => a.elim, fun r σ F' H' a b c => a.elim, fun c r v σ F' H' a b k d => fin a b k d⟩
end
abbrev Arg := Sum D Nat
abbrev DTC := DSt → (List Arg → DSt → Prop) → Prop
inductive ArgOk (K : PySem.W.Frag) (F : Hp) (σ : St) : List Arg → List V → Prop
  | nil : ArgOk K F σ [] []
  | d {d : D} {v : V} {as : List Arg} {vs : List V} : Rp K F v d → ArgOk K F σ as vs → ArgOk K F σ (.inl d :: as) (v :: vs)
  | i {i : Nat} {v : V} {as : List Arg} {vs : List V} : σ[i]? = some (some v) → ArgOk K F σ as vs → ArgOk K F σ (.inr i :: as) (v :: vs)
theorem ArgOk.up {K : PySem.W.Frag} {F F' : Hp} {σ : St} (s : Same F F') : ∀ {as : List Arg} {vs : List V}, ArgOk K F σ as vs → ArgOk K F' σ as vs
  | _, _, .nil => .nil
  | _, _, .d p t => .d (p.up s) (ArgOk.up s t)
  | _, _, .i p t => .i p (ArgOk.up s t)
theorem ArgOk.len {K : PySem.W.Frag} {F : Hp} {σ : St} : ∀ {as : List Arg} {vs : List V}, ArgOk K F σ as vs → as.length = vs.length
  | _, _, .nil => rfl
  | _, _, .d _ t => congrArg (· + 1) t.len
  | _, _, .i _ t => congrArg (· + 1) t.len
theorem ArgOk.getd {K : PySem.W.Frag} {F : Hp} {σ : St} : ∀ {as : List Arg} {vs : List V} {k : Nat} {d : D}, ArgOk K F σ as vs → as[k]? = some (.inl d) → ∃ v, vs[k]? = some v ∧ Rp K F v d
  | _, _, _, _, .nil, e => by simp at e
  | _, _, 0, _, .d p _, e => by simp at e; subst e; exact ⟨_, rfl, p⟩
  | _, _, 0, _, .i p _, e => by simp at e
  | _, _, k + 1, _, .d _ t, e => by simpa using ArgOk.getd t (by simpa using e)
  | _, _, k + 1, _, .i _ t, e => by simpa using ArgOk.getd t (by simpa using e)
theorem ArgOk.geti {K : PySem.W.Frag} {F : Hp} {σ : St} : ∀ {as : List Arg} {vs : List V} {k j : Nat}, ArgOk K F σ as vs → as[k]? = some (.inr j) → ∃ v, vs[k]? = some v ∧ σ[j]? = some (some v)
  | _, _, _, _, .nil, e => by simp at e
  | _, _, 0, _, .d p _, e => by simp at e
  | _, _, 0, _, .i p _, e => by simp at e; subst e; exact ⟨_, rfl, p⟩
  | _, _, k + 1, _, .d _ t, e => by simpa using ArgOk.geti t (by simpa using e)
  | _, _, k + 1, _, .i _ t, e => by simpa using ArgOk.geti t (by simpa using e)
def liftC (K : PySem.W.Frag) (W : Wd) (t : DTC) : TA := fun σ H Q => ∃ r F q, Rel K W r F σ H ∧ t r q ∧ ∀ as r' vs F' H', q as r' → Rel K W r' F' σ H' → Same F F' → ArgOk K F' σ as vs → Q vs H'
structure DC (X : Cx) (es : List Expr) (t : DTC) : Prop where
  run : ∀ W, PA X es (liftC X.K W t)
def cNil : DTC := fun r q => q [] r
def cCons (ta : DTE) (tr : DTC) : DTC := fun r q => ta r fun x r1 => tr r1 fun xs r2 => q (.inl x :: xs) r2
def cIo (i : Nat) (tr : DTC) : DTC := fun r q => mutAt r i = true ∧ tr r fun xs r2 => q (.inr i :: xs) r2
section
variable {X : Cx}
theorem c_nil : DC X [] cNil := by
  refine ⟨fun W => pa_weak pa_nil fun σ H Q h => ?_⟩
  obtain ⟨r, F, q, R, t, w⟩ := h
  exact w [] r [] F H t R (Same.refl _) .nil
theorem c_cons {e : Expr} {es : List Expr} {ta : DTE} {tr : DTC} (ha : DE X e ta) (hr : DC X es tr) (hs : starEach (e :: es) X.env = (false, eval e X.env) :: starEach es X.env := by rfl) : DC X (e :: es) (cCons ta tr) := by
  refine ⟨fun W => pa_weak (pa_cons (ha.run W) (hr.run W) hs) fun σ H Q h => ?_⟩
  obtain ⟨r, F, q, R, t, w⟩ := h
  refine ⟨r, F, _, R, t, fun dx r1 v1 F1 H1 t1 R1 s1 p1 => ⟨r1, F1, _, R1, t1, fun ds rr vs F2 H2 t2 R2' s2 p2 => ?_⟩⟩
  exact w _ rr _ F2 H2 t2 R2' (s1.trans s2) (.d (p1.up s2) p2)
theorem c_io (i : Nat) {x : Str} {p : Pos} {es : List Expr} {tr : DTC} (hr : DC X es tr) (hN : X.N[i]? = some x := by rfl) (hv : Vis X.env.scope x := by first | exact Or.inl rfl | exact Or.inr (Or.inl rfl) | exact Or.inr (Or.inr rfl)) (hd : (x == ("__debug__" : Str)) = false := by decide)
    (hcd : (x == ("__classdict__" : Str)) = false := by decide) (hs : starEach (.Name x p :: es) X.env = (false, eval (.Name x p) X.env) :: starEach es X.env := by rfl) : DC X (.Name x p :: es) (cIo i tr) := by
  refine ⟨fun W => pa_weak (pa_cons (pe_var hN hv hd hcd) (hr.run W) hs) fun σ H Q h => ?_⟩
  obtain ⟨r, F, q, R, ⟨m, t⟩, w⟩ := h
  obtain ⟨n, io, a, e0, e1⟩ := mutAt_get R m
  exact ⟨_, e1, r, F, _, R, t, fun as r' vs F' H' a b c p => w _ r' _ F' H' a b c (.i e1 p)⟩
end
def cellsOf (r : DSt) : List Arg → Option (List Cell)
  | [] => some []
  | .inl d :: as => (cellsOf r as).map (.sh d :: ·)
  | .inr j :: as => match dat r j with
    | some (.own m) => (cellsOf r as).map (.io m :: ·)
    | some (.io m) => (cellsOf r as).map (.io m :: ·)
    | _ => none
def ixs : List Arg → List Nat
  | [] => []
  | .inl _ :: as => ixs as
  | .inr j :: as => j :: ixs as
def putM : DSt → Nat → M → DSt
  | [], _, _ => []
  | some (.own _) :: t, 0, m => some (.own m) :: t
  | some (.io _) :: t, 0, m => some (.io m) :: t
  | some (.sh d) :: t, 0, _ => some (.sh d) :: t
  | some (.rg d) :: t, 0, _ => some (.rg d) :: t
  | none :: t, 0, _ => none :: t
  | c :: t, i + 1, m => c :: putM t i m
theorem putM_eq : ∀ (r : DSt) (j : Nat) (m : M), putM r j m = match dat r j with
    | some (.own _) => dput r j (some (.own m))
    | some (.io _) => dput r j (some (.io m))
    | _ => r
  | [], _, _ => by simp [putM, dat]
  | some (.own _) :: t, 0, m => rfl
  | some (.io _) :: t, 0, m => rfl
  | some (.sh _) :: t, 0, m => rfl
  | some (.rg _) :: t, 0, m => rfl
  | none :: t, 0, m => rfl
  | c :: t, i + 1, m => by
    have h := putM_eq t i m
    have e : putM (c :: t) (i + 1) m = c :: putM t i m := by cases c with
      | none => rfl
      | some c => cases c <;> rfl
    rw [e, h]
    show _ = match dat t i with
      | some (.own _) => c :: dput t i (some (.own m))
      | some (.io _) => c :: dput t i (some (.io m))
      | _ => c :: t
    cases dat t i with
    | none => rfl
    | some d => cases d <;> rfl
def putOuts (r : DSt) : List Arg → List M → DSt
  | [], _ => r
  | .inl _ :: as, ms => putOuts r as ms
  | .inr j :: as, m :: ms => putOuts (putM r j m) as ms
  | .inr _ :: _, [] => r
def outAt : List Arg → List M → Nat → Option M
  | [], _, _ => none
  | .inl _ :: as, ms, i => outAt as ms i
  | .inr j :: as, m :: ms, i => if j = i then some m else outAt as ms i
  | .inr _ :: _, [], _ => none
theorem outAt_none {ms : List M} {i : Nat} : ∀ {as : List Arg}, i ∉ ixs as → outAt as ms i = none := by
  intro as
  induction as generalizing ms with
  | nil => intro _; rfl
  | cons a as ih =>
    intro h
    cases a with
    | inl d => exact ih h
    | inr j =>
      cases ms with
      | nil => rfl
      | cons m ms =>
        have hj : j ≠ i := fun z => h (by rw [z]; exact List.mem_cons_self)
        show (if j = i then some m else outAt as ms i) = none
        rw [if_neg hj]
        exact ih fun z => h (List.mem_cons_of_mem _ z)
/-- a slot behind the call -/
def after (o : Option M) (c : Option Cell) : Option Cell := match o, c with
  | some m, some (.own _) => some (.own m)
  | some m, some (.io _) => some (.io m)
  | _, c => c
theorem dat_putM {r : DSt} {j : Nat} {m : M} (i : Nat) : dat (putM r j m) i = if j = i then after (some m) (dat r i) else dat r i := by
  rw [putM_eq]
  by_cases h : j = i
  · subst h
    rw [if_pos rfl]
    cases e : dat r j with
    | none => simp only [after]; exact e
    | some c =>
      have hl := dat_lt e
      cases c with
      | sh d => simp only [after]; exact e
      | rg d => simp only [after]; exact e
      | own n => simp only [after]; exact dat_put_same hl
      | io n => simp only [after]; exact dat_put_same hl
  · rw [if_neg h]
    split
    · exact dat_put_ne h
    · exact dat_put_ne h
    · rfl
theorem dat_putOuts (i : Nat) : ∀ {as : List Arg} {r : DSt} {ms : List M}, (ixs as).Nodup → dat (putOuts r as ms) i = after (outAt as ms i) (dat r i) := by
  intro as
  induction as with
  | nil => intro r ms _; simp [putOuts, outAt, after]
  | cons a as ih =>
    intro r ms nd
    cases a with
    | inl d => exact ih nd
    | inr j =>
      cases ms with
      | nil => simp [putOuts, outAt, after]
      | cons m ms =>
        have nd' := List.nodup_cons.mp nd
        show dat (putOuts (putM r j m) as ms) i = after (if j = i then some m else outAt as ms i) (dat r i)
        rw [ih nd'.2, dat_putM]
        by_cases h : j = i
        · subst h
          rw [if_pos rfl, if_pos rfl, outAt_none nd'.1]
          simp only [after]
        · rw [if_neg h, if_neg h]
theorem putOuts_len : ∀ {as : List Arg} {r : DSt} {ms : List M}, (putOuts r as ms).length = r.length := by
  intro as
  induction as with
  | nil => intro r ms; rfl
  | cons a as ih =>
    intro r ms
    cases a with
    | inl d => exact ih
    | inr j =>
      cases ms with
      | nil => rfl
      | cons m ms =>
        show (putOuts (putM r j m) as ms).length = r.length
        rw [ih]
        rw [putM_eq]
        split
        · exact dput_len _ _ _
        · exact dput_len _ _ _
        · rfl
theorem cells_len : ∀ {as : List Arg} {r : DSt} {cs : List Cell}, cellsOf r as = some cs → cs.length = as.length := by
  intro as
  induction as with
  | nil => intro r cs h; cases h; rfl
  | cons a as ih =>
    intro r cs h
    cases a with
    | inl d =>
      unfold cellsOf at h
      cases e : cellsOf r as with
      | none => rw [e] at h; cases h
      | some l => rw [e] at h; cases h; exact congrArg (· + 1) (ih e)
    | inr j =>
      unfold cellsOf at h
      cases e : cellsOf r as with
      | none => split at h <;> first | (rw [e] at h; cases h) | cases h
      | some l =>
        split at h
        · rw [e] at h; cases h; exact congrArg (· + 1) (ih e)
        · rw [e] at h; cases h; exact congrArg (· + 1) (ih e)
        · cases h
theorem cells_get : ∀ {as : List Arg} {r : DSt} {cs : List Cell} {i : Nat} {c : Cell}, cellsOf r as = some cs → cs[i]? = some c →
    (∃ d, c = .sh d ∧ as[i]? = some (.inl d)) ∨ (∃ j m, c = .io m ∧ as[i]? = some (.inr j) ∧ (dat r j = some (Cell.own m) ∨ dat r j = some (Cell.io m))) := by
  intro as
  induction as with
  | nil => intro r cs i c h e; cases h; simp at e
  | cons a as ih =>
    intro r cs i c h e
    cases a with
    | inl d =>
      unfold cellsOf at h
      cases q : cellsOf r as with
      | none => rw [q] at h; cases h
      | some l =>
        rw [q] at h; cases h
        cases i with
        | zero => simp at e; subst e; exact .inl ⟨d, rfl, rfl⟩
        | succ i =>
          have := ih (i := i) q (by simpa using e)
          simpa using this
    | inr j =>
      unfold cellsOf at h
      cases q : cellsOf r as with
      | none => split at h <;> first | (rw [q] at h; cases h) | cases h
      | some l =>
        split at h
        · rename_i m em
          rw [q] at h; cases h
          cases i with
          | zero => simp at e; subst e; exact .inr ⟨j, m, rfl, rfl, .inl em⟩
          | succ i =>
            have := ih (i := i) q (by simpa using e)
            simpa using this
        · rename_i m em
          rw [q] at h; cases h
          cases i with
          | zero => simp at e; subst e; exact .inr ⟨j, m, rfl, rfl, .inr em⟩
          | succ i =>
            have := ih (i := i) q (by simpa using e)
            simpa using this
        · cases h
theorem out_get : ∀ {as : List Arg} {r : DSt} {cs : List Cell} {ms : List M} {j : Nat} {m : M}, cellsOf r as = some cs → outAt as ms j = some m → ∃ i : Nat, as[i]? = some (Sum.inr j) ∧ (putIo cs ms)[i]? = some (Cell.io m) := by
  intro as
  induction as with
  | nil => intro r cs ms j m _ h; cases h
  | cons a as ih =>
    intro r cs ms j m h e
    cases a with
    | inl d =>
      unfold cellsOf at h
      cases q : cellsOf r as with
      | none => rw [q] at h; cases h
      | some l =>
        rw [q] at h; cases h
        obtain ⟨i, h1, h2⟩ := ih q e
        exact ⟨i + 1, by simpa using h1, by simpa [putIo] using h2⟩
    | inr k =>
      unfold cellsOf at h
      cases ms with
      | nil => cases e
      | cons n ms =>
        have e' : (if k = j then some n else outAt as ms j) = some m := e
        have go : ∀ {l : List Cell} {n0 : M}, cellsOf r as = some l → ∃ i : Nat, (Sum.inr k :: as : List Arg)[i]? = some (Sum.inr j) ∧ (putIo (.io n0 :: l) (n :: ms))[i]? = some (Cell.io m) := fun {l n0} q => by
          by_cases hk : k = j
          · rw [if_pos hk] at e'; cases e'
            exact ⟨0, by simp [hk], by simp [putIo]⟩
          · rw [if_neg hk] at e'
            obtain ⟨i, h1, h2⟩ := ih q e'
            exact ⟨i + 1, by simpa using h1, by simpa [putIo] using h2⟩
        cases q : cellsOf r as with
        | none => split at h <;> first | (rw [q] at h; cases h) | cases h
        | some l =>
          split at h
          · rw [q] at h; cases h; exact go q
          · rw [q] at h; cases h; exact go q
          · cases h
theorem out_some : ∀ {as : List Arg} {r : DSt} {cs : List Cell} {ms : List M} {i j : Nat}, cellsOf r as = some cs → ms.length = ioCount cs → as[i]? = some (Sum.inr j) → ∃ m, outAt as ms j = some m := by
  intro as
  induction as with
  | nil => intro r cs ms i j _ _ h; simp at h
  | cons a as ih =>
    intro r cs ms i j h hl e
    cases a with
    | inl d =>
      unfold cellsOf at h
      cases q : cellsOf r as with
      | none => rw [q] at h; cases h
      | some l =>
        rw [q] at h; cases h
        cases i with
        | zero => simp at e
        | succ i => exact ih (i := i) q hl (by simpa using e)
    | inr k =>
      unfold cellsOf at h
      have go : ∀ {l : List Cell} {n0 : M}, cellsOf r as = some l → ms.length = ioCount (.io n0 :: l) → ∃ m, outAt (.inr k :: as) ms j = some m := fun {l n0} q hl => by
        cases ms with
        | nil => cases hl
        | cons n ms =>
          by_cases hk : k = j
          · exact ⟨n, by show (if k = j then some n else outAt as ms j) = some n; rw [if_pos hk]⟩
          · cases i with
            | zero => simp at e; exact absurd e hk
            | succ i =>
              obtain ⟨m, hm⟩ := ih (i := i) q (Nat.succ.inj hl) (by simpa using e)
              exact ⟨m, by show (if k = j then some n else outAt as ms j) = some m; rw [if_neg hk]; exact hm⟩
      cases q : cellsOf r as with
      | none => split at h <;> first | (rw [q] at h; cases h) | cases h
      | some l =>
        split at h
        · rw [q] at h; cases h; exact go q hl
        · rw [q] at h; cases h; exact go q hl
        · cases h
theorem ixs_uniq : ∀ {as : List Arg} {i k j : Nat}, (ixs as).Nodup → as[i]? = some (.inr j) → as[k]? = some (.inr j) → i = k := by
  have mem : ∀ {as : List Arg} {i j : Nat}, as[i]? = some (.inr j) → j ∈ ixs as := by
    intro as
    induction as with
    | nil => intro i j h; simp at h
    | cons a as ih =>
      intro i j h
      cases i with
      | zero => simp at h; subst h; exact List.mem_cons_self
      | succ i =>
        have := ih (i := i) (by simpa using h)
        cases a with
        | inl d => exact this
        | inr k => exact List.mem_cons_of_mem _ this
  intro as
  induction as with
  | nil => intro i k j _ h; simp at h
  | cons a as ih =>
    intro i k j nd h1 h2
    cases a with
    | inl d =>
      cases i with
      | zero => simp at h1
      | succ i =>
        cases k with
        | zero => simp at h2
        | succ k => exact congrArg (· + 1) (ih nd (by simpa using h1) (by simpa using h2))
    | inr l =>
      have nd' := List.nodup_cons.mp nd
      cases i with
      | zero =>
        simp at h1; subst h1
        cases k with
        | zero => rfl
        | succ k => exact absurd (mem (by simpa using h2)) nd'.1
      | succ i =>
        cases k with
        | zero =>
          simp at h2; subst h2
          exact absurd (mem (by simpa using h1)) nd'.1
        | succ k => exact congrArg (· + 1) (ih nd'.2 (by simpa using h1) (by simpa using h2))
theorem putOuts_rg {as : List Arg} {r : DSt} {ms : List M} {i : Nat} {g : List (Addr × M)} (nd : (ixs as).Nodup) (e : dat (putOuts r as ms) i = some (Cell.rg g)) : dat r i = some (Cell.rg g) := by
  rw [dat_putOuts i nd] at e
  cases e2 : dat r i with
  | none => rw [e2] at e; cases e3 : outAt as ms i <;> (rw [e3] at e; simp [after] at e)
  | some c =>
    rw [e2] at e
    cases c with
    | sh d => cases e3 : outAt as ms i <;> (rw [e3] at e; simp [after] at e)
    | own d => cases e3 : outAt as ms i <;> (rw [e3] at e; simp [after] at e)
    | io d => cases e3 : outAt as ms i <;> (rw [e3] at e; simp [after] at e)
    | rg d => cases e3 : outAt as ms i <;> (rw [e3] at e; simpa [after] using e)
def callR (n : Nat) (sp : DSp) (tc : DTC) (r : DSt) (q : Cell → DSt → Prop) : Prop := tc r fun as r1 => as.length = n ∧ match cellsOf r1 as with
  | some cs => (ixs as).Nodup ∧ sp cs fun c outs => nrm (putOuts r1 as outs) (q c)
  | none => False
def asE (q : D → DSt → Prop) (c : Cell) (r : DSt) : Prop := match c with
  | .sh d => q d r
  | .own (.lst ds) => q (.list ds) r
  | .own (.dic ds) => q (.dict ds) r
  | _ => False
def asO (q : M → DSt → Prop) (c : Cell) (r : DSt) : Prop := match c with
  | .own m => q m r
  | _ => False
def eCallF (n : Nat) (sp : DSp) (tc : DTC) : DTE := fun r q => callR n sp tc r (asE q)
def oCallF (n : Nat) (sp : DSp) (tc : DTC) : DTO := fun r q => callR n sp tc r (asO q)
section
variable {K : PySem.W.Frag} {W : Wd} {r : DSt} {F : Hp} {σ : St} {H : Hp}
theorem Rel.args {as : List Arg} {cs : List Cell} {vs : List V} (R : Rel K W r F σ H) (h : cellsOf r as = some cs) (nd : (ixs as).Nodup) (a : ArgOk K F σ as vs) : Rel K (here (cst cs) F (vst vs) H) (cst cs) F (vst vs) H ∧ noOwn cs ∧ noRg cs := by
  have no : noOwn cs := fun i m z => by
    rcases cells_get h z with ⟨d, e, _⟩ | ⟨j, n, e, _⟩ <;> cases e
  have nrg : noRg cs := fun i m z => by
    rcases cells_get h z with ⟨d, e, _⟩ | ⟨j, n, e, _⟩ <;> cases e
  have io : ∀ {i : Nat} {m : M}, dat (cst cs) i = some (Cell.io m) → ∃ (j : Nat) (b : Addr) (o : HO), as[i]? = some (Sum.inr j) ∧ vs[i]? = some (V.ref b) ∧ σ[j]? = some (some (V.ref b)) ∧ H b = some o ∧ F b = none ∧ MOk K F b o m ∧ (∃ n, dat r j = some (Cell.own n) ∨ dat r j = some (Cell.io n)) := fun {i m} e => by
    rw [dat_cst] at e
    rcases cells_get h e with ⟨d, z, _⟩ | ⟨j, n, z, e1, e2⟩
    · cases z
    · cases z
      obtain ⟨v, k1, k2⟩ := a.geti e1
      rcases e2 with e2 | e2
      · obtain ⟨b, o, h1, h2, h3, h4, _⟩ := R.own j m e2
        rw [k2] at h1; cases h1
        exact ⟨j, b, o, e1, k1, k2, h2, h3, h4, m, .inl e2⟩
      · obtain ⟨b, o, h1, h2, h3, h4, _⟩ := R.io j m e2
        rw [k2] at h1; cases h1
        exact ⟨j, b, o, e1, k1, k2, h2, h3, h4, m, .inr e2⟩
  refine ⟨⟨R.sub, Same.refl _, fun b o e _ => e, fun b e => e, fun b e => .inl e, fun i d e => ?_, fun i m e => ?_, fun i m e => ?_, fun i b e => ?_, fun i j m n b e1 e2 e3 e4 => ?_, ?_, fun i g e => by rw [dat_cst] at e; exact absurd e (nrg i g)⟩, no, nrg⟩
  · rw [dat_cst] at e
    rcases cells_get h e with ⟨d', z, e1⟩ | ⟨j, n, z, _⟩
    · cases z
      obtain ⟨v, k1, k2⟩ := a.getd e1
      exact ⟨v, by rw [vst_get, k1]; rfl, k2⟩
    · cases z
  · rw [dat_cst] at e; exact absurd e (no i m)
  · obtain ⟨j, b, o, e1, k1, k2, h2, h3, h4, _⟩ := io e
    have k3 : (vst vs)[i]? = some (some (V.ref b)) := by rw [vst_get, k1]; rfl
    exact ⟨b, o, k3, h2, h3, h4, ⟨m, e⟩, k3⟩
  · obtain ⟨⟨m, e1⟩, e2⟩ := e
    exact .inl ⟨i, m, .inr e1, e2⟩
  · have key : ∀ {i : Nat} {m : M}, (dat (cst cs) i = some (Cell.own m) ∨ dat (cst cs) i = some (Cell.io m)) → dat (cst cs) i = some (Cell.io m) := fun {i m} z => by
      rcases z with z | z
      · rw [dat_cst] at z; exact absurd z (no i m)
      · exact z
    obtain ⟨j1, b1, o1, a1, k1, l1, _, _, _, n1, f1⟩ := io (key e1)
    obtain ⟨j2, b2, o2, a2, k2, l2, _, _, _, n2, f2⟩ := io (key e2)
    rw [vst_get, k1] at e3
    rw [vst_get, k2] at e4
    have e3' : V.ref b1 = V.ref b := Option.some.inj (Option.some.inj e3)
    have e4' : V.ref b2 = V.ref b := Option.some.inj (Option.some.inj e4)
    cases e3'; cases e4'
    have hj := R.sep j1 j2 n1 n2 _ f1 f2 l1 l2
    subst hj
    exact ixs_uniq nd a1 a2
  · unfold cst vst
    rw [List.length_map, List.length_map, cells_len h, a.len]
theorem Rel.back {as : List Arg} {cs : List Cell} {vs : List V} {outs : List M} {F' H' : Hp} (R : Rel K W r F σ H) (h : cellsOf r as = some cs) (nd : (ixs as).Nodup) (a : ArgOk K F σ as vs) (hl : outs.length = ioCount cs)
    (Rc : Rel K (here (cst cs) F (vst vs) H) (cst (putIo cs outs)) F' (vst vs) H') : Rel K W (putOuts r as outs) F' σ H' := by
  -- a lent address is a slot's of ours that was handed in
  have lent : ∀ {b : Addr}, AtSlot (cst cs) (vst vs) b → ∃ (i j : Nat) (m : M), as[i]? = some (Sum.inr j) ∧ σ[j]? = some (some (V.ref b)) ∧ (dat r j = some (Cell.own m) ∨ dat r j = some (Cell.io m)) := fun {b} z0 => by
    rcases z0 with ⟨i, m, e, z⟩ | ⟨i, g, m, e, z⟩
    rotate_left
    · rw [dat_cst] at e
      rcases cells_get h e with ⟨d, z, _⟩ | ⟨j, n, z, _⟩ <;> cases z
    have e' : cs[i]? = some (Cell.own m) ∨ cs[i]? = some (Cell.io m) := by
      rcases e with e | e
      · rw [dat_cst] at e; exact .inl e
      · rw [dat_cst] at e; exact .inr e
    have : ∃ j : Nat, as[i]? = some (Sum.inr j) ∧ ∃ n : M, (dat r j = some (Cell.own n) ∨ dat r j = some (Cell.io n)) := by
      rcases e' with e' | e'
      · rcases cells_get h e' with ⟨d, z, _⟩ | ⟨j, n, z, _⟩ <;> cases z
      · rcases cells_get h e' with ⟨d, z, _⟩ | ⟨j, n, z, e1, e2⟩
        · cases z
        · exact ⟨j, e1, n, e2⟩
    obtain ⟨j, e1, n, e2⟩ := this
    obtain ⟨v, k1, k2⟩ := a.geti e1
    rw [vst_get, k1] at z
    have z' : v = V.ref b := Option.some.inj (Option.some.inj z)
    subst z'
    exact ⟨i, j, n, e1, k2, e2⟩
  have ours : ∀ {b : Addr}, AtSlot (cst cs) (vst vs) b → W.A b ∨ W.H0 b = none := fun {b} z => by
    obtain ⟨i, j, m, _, e2, e3⟩ := lent z
    exact R.atSlot (.inl ⟨j, m, e3, e2⟩)
  have h0 : ∀ {b : Addr}, H b = none → W.H0 b = none := fun {b} e => by
    cases q : W.H0 b with
    | none => rfl
    | some u => exact absurd e (R.there b (ne_none q))
  -- one slot that holds an object, behind the call
  have slot : ∀ {j : Nat} {m0 m : M}, (dat r j = some (Cell.own m0) ∨ dat r j = some (Cell.io m0)) → (outAt as outs j = some m ∨ (outAt as outs j = none ∧ m = m0)) →
      ∃ b o, σ[j]? = some (some (V.ref b)) ∧ H' b = some o ∧ F' b = none ∧ MOk K F' b o m := fun {j m0 m} e z => by
    obtain ⟨b, o, h1, h2, h3, h4⟩ : ∃ b o, σ[j]? = some (some (V.ref b)) ∧ H b = some o ∧ F b = none ∧ MOk K F b o m0 := by
      rcases e with e | e
      · obtain ⟨b, o, h1, h2, h3, h4, _⟩ := R.own j m0 e
        exact ⟨b, o, h1, h2, h3, h4⟩
      · obtain ⟨b, o, h1, h2, h3, h4, _⟩ := R.io j m0 e
        exact ⟨b, o, h1, h2, h3, h4⟩
    rcases z with z | ⟨z, rfl⟩
    · obtain ⟨i, e1, e2⟩ := out_get h z
      obtain ⟨b', o', k1, k2, k3, k4, k5⟩ := Rc.io i m (by rw [dat_cst]; exact e2)
      obtain ⟨v, l1, l2⟩ := a.geti e1
      rw [vst_get, l1] at k1
      have k1' : v = V.ref b' := Option.some.inj (Option.some.inj k1)
      subst k1'
      exact ⟨b', o', l2, k2, k3, k4⟩
    · have nA : ¬ AtSlot (cst cs) (vst vs) b := fun y => by
        obtain ⟨i, j', m', e1, e2, e3⟩ := lent y
        have hj := R.sep j j' _ _ b e e3 h1 e2
        subst hj
        obtain ⟨m2, e4⟩ := out_some h hl e1
        rw [z] at e4; cases e4
      refine ⟨b, o, h1, Rc.keep b o h2 nA, ?_, h4.up Rc.f0⟩
      cases q : F' b with
      | none => rfl
      | some u =>
        rcases Rc.new b (ne_none q) with y | y | y
        · exact absurd h3 y
        · have y' : H b = none := y
          rw [h2] at y'; cases y'
        · exact absurd y nA
  have key : ∀ {j : Nat} {c : Cell}, dat (putOuts r as outs) j = some c → ((∃ d, c = .sh d ∧ dat r j = some (Cell.sh d)) ∨ ∃ g, c = .rg g ∧ dat r j = some (Cell.rg g)) ∨ (∃ m m0, c = .own m ∧ dat r j = some (Cell.own m0) ∧ (outAt as outs j = some m ∨ (outAt as outs j = none ∧ m = m0))) ∨
      (∃ m m0, c = .io m ∧ dat r j = some (Cell.io m0) ∧ (outAt as outs j = some m ∨ (outAt as outs j = none ∧ m = m0))) := fun {j c} e => by
    rw [dat_putOuts j nd] at e
    cases e1 : outAt as outs j with
    | none =>
      rw [e1] at e
      cases e2 : dat r j with
      | none => rw [e2] at e; simp [after] at e
      | some c0 =>
        rw [e2] at e
        simp only [after] at e
        cases e
        cases c with
        | sh d => exact .inl (.inl ⟨d, rfl, rfl⟩)
        | rg d => exact .inl (.inr ⟨d, rfl, rfl⟩)
        | own m => exact .inr (.inl ⟨m, m, rfl, rfl, .inr ⟨rfl, rfl⟩⟩)
        | io m => exact .inr (.inr ⟨m, m, rfl, rfl, .inr ⟨rfl, rfl⟩⟩)
    | some m =>
      rw [e1] at e
      cases e2 : dat r j with
      | none => rw [e2] at e; simp [after] at e
      | some c0 =>
        rw [e2] at e
        cases c0 with
        | sh d => simp only [after] at e; cases e; exact .inl (.inl ⟨d, rfl, rfl⟩)
        | rg d => simp only [after] at e; cases e; exact .inl (.inr ⟨d, rfl, rfl⟩)
        | own n => simp only [after] at e; cases e; exact .inr (.inl ⟨m, n, rfl, rfl, .inl rfl⟩)
        | io n => simp only [after] at e; cases e; exact .inr (.inr ⟨m, n, rfl, rfl, .inl rfl⟩)
  have key2 : ∀ {j : Nat} {m : M}, (dat (putOuts r as outs) j = some (Cell.own m) ∨ dat (putOuts r as outs) j = some (Cell.io m)) → ∃ n, (dat r j = some (Cell.own n) ∨ dat r j = some (Cell.io n)) := fun {j m} e => by
    rcases e with e | e
    · rcases key e with (⟨d, z, _⟩ | ⟨d, z, _⟩) | ⟨m, n, z, e2, _⟩ | ⟨m, n, z, e2, _⟩
      · cases z
      · cases z
      · exact ⟨n, .inl e2⟩
      · cases z
    · rcases key e with (⟨d, z, _⟩ | ⟨d, z, _⟩) | ⟨m, n, z, e2, _⟩ | ⟨m, n, z, e2, _⟩
      · cases z
      · cases z
      · cases z
      · exact ⟨n, .inr e2⟩
  refine ⟨Rc.sub, R.f0.trans Rc.f0, fun b o e1 e2 => ?_, fun b e => Rc.there b (R.there b e), fun b e => ?_, fun j d e => ?_, fun j m e => ?_, fun j m e => ?_, R.ioA, fun j k m n b e1 e2 e3 e4 => ?_, by rw [putOuts_len]; exact R.len, fun j g e => ?_⟩
  · refine Rc.keep b o (R.keep b o e1 e2) fun z => ?_
    rcases ours z with y | y
    · exact e2 y
    · rw [y] at e1; cases e1
  · rcases Rc.new b e with z | z | z
    · exact R.new b z
    · exact .inr (.inl (h0 z))
    · rcases ours z with y | y
      · exact .inr (.inr y)
      · exact .inr (.inl y)
  · rcases key e with (⟨d', z, e2⟩ | ⟨d', z, e2⟩) | ⟨m, n, z, _⟩ | ⟨m, n, z, _⟩
    rotate_left
    · cases z
    rotate_right
    · cases z
      obtain ⟨v, k1, k2⟩ := R.sh j _ e2
      exact ⟨v, k1, k2.up Rc.f0⟩
    · cases z
    · cases z
  · rcases key e with (⟨d, z, _⟩ | ⟨d, z, _⟩) | ⟨m', n, z, e2, e3⟩ | ⟨m', n, z, _⟩
    · cases z
    · cases z
    · cases z
      obtain ⟨b, o, k1, k2, k3, k4⟩ := slot (.inl e2) e3
      obtain ⟨b', o', l1, _, _, _, l5⟩ := R.own j n e2
      rw [k1] at l1; cases l1
      exact ⟨b, o, k1, k2, k3, k4, l5⟩
    · cases z
  · rcases key e with (⟨d, z, _⟩ | ⟨d, z, _⟩) | ⟨m', n, z, _⟩ | ⟨m', n, z, e2, e3⟩
    · cases z
    · cases z
    · cases z
    · cases z
      obtain ⟨b, o, k1, k2, k3, k4⟩ := slot (.inr e2) e3
      obtain ⟨b', o', l1, _, _, _, l5⟩ := R.io j n e2
      rw [k1] at l1; cases l1
      exact ⟨b, o, k1, k2, k3, k4, l5⟩
  · obtain ⟨m', f1⟩ := key2 e1
    obtain ⟨n', f2⟩ := key2 e2
    exact R.sep j k m' n' b f1 f2 e3 e4
  · have rgk : ∀ {j : Nat} {g : List (Addr × M)}, dat (putOuts r as outs) j = some (Cell.rg g) → dat r j = some (Cell.rg g) := fun {j g} e => by
      rcases key e with (⟨d, z, _⟩ | ⟨d, z, e2⟩) | ⟨m, n, z, _⟩ | ⟨m, n, z, _⟩
      · cases z
      · cases z; exact e2
      · cases z
      · cases z
    have G := R.rg j g (rgk e)
    refine ⟨G.nd, fun b m hm => ?_, fun b m k n hm e1 z => ?_, fun k g' e1 => G.one k g' (rgk e1)⟩
    · obtain ⟨o, h2, h3, h4, h5⟩ := G.ob b m hm
      have nA : ¬ AtSlot (cst cs) (vst vs) b := fun y => by
        obtain ⟨i, j', m', e1, e2, e3⟩ := lent y
        exact G.ap b m j' m' hm e3 e2
      refine ⟨o, Rc.keep b o h2 nA, ?_, h4.up Rc.f0, h5⟩
      cases q : F' b with
      | none => rfl
      | some u =>
        rcases Rc.new b (ne_none q) with y | y | y
        · exact absurd h3 y
        · have y' : H b = none := y
          rw [h2] at y'; cases y'
        · exact absurd y nA
    · obtain ⟨n', f1⟩ := key2 e1
      exact G.ap b m k n' hm f1 z
end
section
variable {X : Cx} {k n : Nat} {x : Str} {sp : DSp} {e : Expr} {es : List Expr} {tc : DTC} {p pos : Pos}
/-- what a call's promise asks, from its reading -/
theorem call_sp {K : PySem.W.Frag} {W : Wd} {σ : St} {H : Hp} {r : DSt} {F : Hp} {as : List Arg} {vs : List V} {q : Cell → DSt → Prop} {Q : VK} {E : XK} (R : Rel K W r F σ H) (a : ArgOk K F σ as vs) (ha : vs.length = n)
    (t : match cellsOf r as with
      | some cs => (ixs as).Nodup ∧ sp cs fun c outs => nrm (putOuts r as outs) (q c)
      | none => False)
    (h : ∀ c r2 v F' H', q c r2 → Rel K W r2 F' σ H' → Same F F' → Ans K H F' H' c v → (∀ b, H b = none → W.H0 b = none ∧ Apart r2 σ b) → Q v H') : liftSp K n sp vs H Q E := by
  cases e : cellsOf r as with
  | none => rw [e] at t; exact t.elim
  | some cs =>
    rw [e] at t
    obtain ⟨nd, t⟩ := t
    obtain ⟨Rc, no, nrg⟩ := R.args e nd a
    refine ⟨ha, cs, F, _, by rw [cells_len e, a.len]; exact ha, no, nrg, Rc, t, fun c outs v F' H' hq hl R2 an => ?_⟩
    have R3 := R.back e nd a hl R2
    refine h c _ v F' H' (nrm_el hq) R3 R2.f0 an fun b hb => ⟨?_, ⟨fun i m z y => ?_, fun i g m z y => ?_⟩⟩
    · cases q : W.H0 b with
      | none => rfl
      | some u => exact absurd hb (R.there b (ne_none q))
    · -- the slots of ours stand at addresses that were there
      have key : ∀ {c : Cell}, dat (putOuts r as outs) i = some c → (∃ m, c = .own m ∨ c = .io m) → ∃ m0, dat r i = some (Cell.own m0) ∨ dat r i = some (Cell.io m0) := fun {c} e1 hc => by
        rw [dat_putOuts i nd] at e1
        cases e2 : dat r i with
        | none =>
          rw [e2] at e1
          cases e3 : outAt as outs i <;> (rw [e3] at e1; simp [after] at e1)
        | some c0 =>
          rw [e2] at e1
          cases c0 with
          | own m0 => exact ⟨m0, .inl rfl⟩
          | io m0 => exact ⟨m0, .inr rfl⟩
          | sh d =>
            exfalso
            obtain ⟨m, hc | hc⟩ := hc <;> subst hc <;> (cases e3 : outAt as outs i <;> (rw [e3] at e1; simp [after] at e1))
          | rg d =>
            exfalso
            obtain ⟨m, hc | hc⟩ := hc <;> subst hc <;> (cases e3 : outAt as outs i <;> (rw [e3] at e1; simp [after] at e1))
      obtain ⟨m0, f⟩ : ∃ m0, dat r i = some (Cell.own m0) ∨ dat r i = some (Cell.io m0) := by
        rcases z with z | z
        · exact key z ⟨m, .inl rfl⟩
        · exact key z ⟨m, .inr rfl⟩
      rcases f with f | f
      · obtain ⟨b', o, k1, k2, _⟩ := R.own i m0 f
        rw [y] at k1; cases k1
        rw [hb] at k2; cases k2
      · obtain ⟨b', o, k1, k2, _⟩ := R.io i m0 f
        rw [y] at k1; cases k1
        rw [hb] at k2; cases k2
    · obtain ⟨o, k2, _⟩ := (R.rg i g (putOuts_rg nd z)).ob b m y
      rw [hb] at k2; cases k2
theorem pe_callG {f : Addr} {fd : FuncData} {ps : List Str} {spv : Sp} {t : TA} (F : FnG X.prog X.w X.K X.mg X.base CX0 k f fd ps spv) (hr : Room k X.A) (hgd : X.A.guards = some []) (hg : Gl X x) (hm : X.mg x = some (.ref f)) (hk : PySem.W.keepIn X.K (.ref f) = true) (hb : Binds X.K fd ps [])
    (ha : PA X (e :: es) t) (hdb : (x == ("__debug__" : Str)) = false := by decide) (he : starEach (e :: es) X.env = (false, eval e X.env) :: starEach es X.env := by rfl) (hpl : (backTo pos (starEach es X.env)).any (·.1) = false := by rfl) :
    PE X (.Call (.Name x p) (e :: es) [] pos) (tCall spv [] E0 t) := by
  refine ⟨fun pins s σ H Q I h => ?_⟩
  refine wpAny_Call_Name_kw (ld_glob I hg hm ?_ hdb)
  refine PySem.W.callWith_K (h₀ := X.base) I.ok.mod.kin hk (thn (ha.run pos pins s σ H _ I h) fun us s1 ⟨vs, H1, I1, rv, q⟩ => ⟨I1.kIn, ?_⟩) he hpl
  have hl : (us ++ []).length = ps.length := by
    have z := F.len _ _ _ _ q
    rw [List.append_nil] at z ⊢
    rw [← rv.length]; exact z
  have rv2 : Vals (vs ++ []) (us ++ []) := rv.append .nil
  refine wpAny_call (codeAny_mono (F.run X.A X.stack s1 H1 ⟨us, []⟩ (us ++ []) (vs ++ []) Q E0 hr hgd I1.env0 (hb s1 us I1.kIn hl) rv2 q) fun res s' out => ?_)
  cases res with
  | error z => exact False.elim out
  | ok fl =>
    cases fl with
    | ret u => exact I1.after out
    | next => exact False.elim out
    | brk => exact False.elim out
    | cont => exact False.elim out
theorem d_call (F : Def X.prog X.w X.K X.mg X.base k x n sp) {j : Nat} (hr : Room j X.A) (hk : k ≤ j) (hgd : X.A.guards = some []) (hg : Gl X x) (ha : DC X (e :: es) tc)
    (hdb : (x == ("__debug__" : Str)) = false := by decide) (he : starEach (e :: es) X.env = (false, eval e X.env) :: starEach es X.env := by rfl) (hpl : (backTo pos (starEach es X.env)).any (·.1) = false := by rfl) : DE X (.Call (.Name x p) (e :: es) [] pos) (eCallF n sp tc) := by
  obtain ⟨f, fd, ps, F, hm, kp, hb⟩ := F.ex
  refine ⟨fun W => pe_weak (pe_lk (pe_callG F (hr.mono hk) hgd hg hm kp hb (ha.run W) hdb he hpl)) fun σ H Q h => ?_⟩
  obtain ⟨r, F1, q, R, t, w⟩ := h
  refine ⟨r, F1, _, R, t, fun as r1 vs F2 H2 t1 R1 s1 a => ?_⟩
  show liftSp X.K n sp (vs ++ []) H2 (orLock Q) E0
  rw [List.append_nil]
  refine call_sp (q := asE q) R1 a (a.len ▸ t1.1) t1.2 fun c r2 v F' H' hq R3 s3 an fr => ?_
  cases c with
  | sh d => exact .inl (w d r2 v F' H' hq R3 (s1.trans s3) an)
  | io m => exact hq.elim
  | rg m => exact hq.elim
  | own m =>
    cases m with
    | ins C fs => exact hq.elim
    | lok _ _ _ => exact hq.elim
    | dic ds =>
      obtain ⟨b, o, rfl, k2, k3, k4, k5⟩ := an
      obtain ⟨z1, z2⟩ := fr b k5
      exact R3.absorbD k2 k3 z1 z2 k4 fun od R4 s4 p4 => w _ r2 _ _ _ hq R4 (s1.trans (s3.trans s4)) p4
    | lst ds =>
      obtain ⟨b, o, rfl, k2, k3, ⟨vs, rfl, k4⟩, k5⟩ := an
      obtain ⟨z1, z2⟩ := fr b k5
      obtain ⟨R4, s4⟩ := R3.absorb k2 k3 z1 z2
      exact .inl (w _ r2 _ _ _ hq R4 (s1.trans (s3.trans s4)) (.lst upd_same (k4.up s4)))
theorem o_call (F : Def X.prog X.w X.K X.mg X.base k x n sp) {j : Nat} (hr : Room j X.A) (hk : k ≤ j) (hgd : X.A.guards = some []) (hg : Gl X x) (ha : DC X (e :: es) tc)
    (hdb : (x == ("__debug__" : Str)) = false := by decide) (he : starEach (e :: es) X.env = (false, eval e X.env) :: starEach es X.env := by rfl) (hpl : (backTo pos (starEach es X.env)).any (·.1) = false := by rfl) : DO X (.Call (.Name x p) (e :: es) [] pos) (oCallF n sp tc) := by
  obtain ⟨f, fd, ps, F, hm, kp, hb⟩ := F.ex
  refine ⟨fun W => pe_weak (pe_callG F (hr.mono hk) hgd hg hm kp hb (ha.run W) hdb he hpl) fun σ H Q h => ?_⟩
  obtain ⟨r, F1, q, R, t, w⟩ := h
  refine ⟨r, F1, _, R, t, fun as r1 vs F2 H2 t1 R1 s1 a => ?_⟩
  show liftSp X.K n sp (vs ++ []) H2 Q E0
  rw [List.append_nil]
  refine call_sp (q := asO q) R1 a (a.len ▸ t1.1) t1.2 fun c r2 v F' H' hq R3 s3 an fr => ?_
  cases c with
  | sh d => exact hq.elim
  | io m => exact hq.elim
  | rg m => exact hq.elim
  | own m =>
    obtain ⟨b, o, rfl, k2, k3, k4, k5⟩ := an
    obtain ⟨z1, z2⟩ := fr b k5
    exact w m r2 b o F' H' hq R3 (s1.trans s3) k2 k3 k4 z1 z2
end
end DL
end
section
set_option Elab.async false
set_option linter.all false
set_option maxRecDepth 100000
namespace DL
open PySem PySem.Spec PyProof.Rows L2
section
variable {X : Cx} {K : PySem.W.Frag}
theorem fin_flat {F H : Hp} {q : D → Prop} {Q : VK} {d : D} {v : V} (s : Same F H) (h : Fin2 K F H q Q) (p : Rp K F v d) (qd : q d) : Q v H := h d v F H qd (Ext.refl s) p
def pI2 (g : Int → Int → D) : P2 := fun x y q => match x, y with
  | .int i, .int j => q (g i j)
  | _, _ => False
def pI2c (C : Int → Int → Prop) (g : Int → Int → D) : P2 := fun x y q => match x, y with
  | .int i, .int j => C i j ∧ q (g i j)
  | _, _ => False
theorem v_int {g : Int → Int → Int} : VOp K (rI0 fun i j => .int (g i j)) (pI2 fun i j => .int (g i j)) := by
  intro F H x y dx dy q Q s px py t h
  cases px <;> cases py <;> first | exact t.elim | exact ⟨_, _, rfl, rfl, fin_flat s h (.int _) t⟩
theorem v_intB {g : Int → Int → Bool} : VOp K (rI0 fun i j => .bl (g i j)) (pI2 fun i j => .bool (g i j)) := by
  intro F H x y dx dy q Q s px py t h
  cases px <;> cases py <;> first | exact t.elim | exact ⟨_, _, rfl, rfl, fin_flat s h (.bl _) t⟩
theorem v_intC {C : Int → Int → Prop} {g : Int → Int → Int} : VOp K (rI C fun i j => .int (g i j)) (pI2c C fun i j => .int (g i j)) := by
  intro F H x y dx dy q Q s px py t h
  cases px <;> cases py <;> first | exact t.elim | exact ⟨_, _, rfl, rfl, t.1, fin_flat s h (.int _) t.2⟩
def pSub : P2 := pI2 fun i j => .int (i - j)
def DivOk (i j : Int) : Prop := 0 < j ∧ j.natAbs.log2 < 9000
theorem DivOk.small {i j : Int} (h : 0 < j) (h2 : j < 2 ^ 64) : DivOk i j := by
  refine ⟨h, ?_⟩
  have : j.natAbs < 2 ^ 64 := by omega
  have := PySem.Flt.log2_lt_of (n := j.natAbs) (k := 64) (by decide) this
  omega
def pDiv : P2 := pI2c DivOk fun i j => .int (i / j)
def pMod : P2 := pI2c (fun _ j => 0 < j) fun i j => .int (i % j)
def pPow : P2 := pI2c CPow fun i j => .int (i ^ j.toNat)
def pLt : P2 := pI2 fun i j => .bool (decide (i < j))
def pLe : P2 := pI2 fun i j => .bool (decide (i ≤ j))
def pGt : P2 := pI2 fun i j => .bool (decide (j < i))
def pGe : P2 := pI2 fun i j => .bool (decide (j ≤ i))
def MulOk (i j : Int) : Prop := CMul i j ∨ CMulW i j
theorem MulOk.left {i j : Int} (h : i.natAbs < 2 ^ 64) : MulOk i j := .inl (.inl (by omega))
theorem MulOk.right {i j : Int} (h : j.natAbs < 2 ^ 64) : MulOk i j := .inl (.inr (by omega))
theorem op_fdivD : OpR X (binaryOp .FloorDiv) (rI DivOk fun i j => .int (i / j)) := op_fdivW
def pAdd : P2 := fun x y q => match x, y with
  | .int i, .int j => q (.int (i + j))
  | .str a, .str b => a.length + b.length ≤ sizeLine ∧ q (.str (a ++ b))
  | .list a, .list b => a.length + b.length ≤ sizeLine ∧ q (.list (a ++ b))
  | .tuple a, .tuple b => a.length + b.length ≤ sizeLine ∧ q (.tuple (a ++ b))
  | _, _ => False
def rAddA (K : PySem.W.Frag) : R2 := fun x y H Q => (∃ i j, x = .int i ∧ y = .int j ∧ Q (.int (i + j)) H) ∨ (∃ i j, x = .str i ∧ y = .str j ∧ i.length + j.length ≤ sizeLine ∧ Q (.str (i ++ j)) H) ∨ rCat x y H Q ∨ rCatA K x y H Q
theorem op_addA : OpR X (binaryOp .Add) (rAddA X.K) := op_add.or (op_add_str.or (op_cat.or op_catA))
theorem v_add : VOp K (rAddA K) pAdd := by
  intro F H x y dx dy q Q s px py t h
  cases px with
  | int i =>
    cases py with
    | int j => exact .inl ⟨i, j, rfl, rfl, fin_flat s h (.int _) t⟩
    | _ => exact t.elim
  | str a =>
    cases py with
    | str b => exact .inr (.inl ⟨a, b, rfl, rfl, t.1, fin_flat s h (.str _) t.2⟩)
    | _ => exact t.elim
  | @lst _ vs _ h1 h2 =>
    cases py with
    | @lst _ ws _ k1 k2 =>
      refine .inr (.inr (.inl ⟨_, _, _, _, rfl, rfl, s _ _ h1, s _ _ k1, by rw [h2.length, k2.length]; exact t.1, fun p hp => ?_⟩))
      have e := ext_new (o := .lst (vs ++ ws)) s hp
      exact h _ _ _ _ t.2 e (.lst upd_same ((h2.append k2).up e.f))
    | _ => exact t.elim
  | @tup _ vs _ h1 h2 =>
    cases py with
    | @tup _ ws _ k1 k2 =>
      refine .inr (.inr (.inr ⟨_, _, _, _, rfl, rfl, same_tup s h1, same_tup s k1, by rw [h2.length, k2.length]; exact t.1, fun z => ?_, fun z y => ?_, fun z y p hp => ?_⟩))
      · subst z
        cases h2
        exact h _ _ _ _ t.2 (Ext.refl s) (.tup k1 k2)
      · subst y
        cases k2
        have t2 := t.2
        rw [List.append_nil] at t2
        exact h _ _ _ _ t2 (Ext.refl s) (.tup h1 h2)
      · have e := ext_new (o := .tup (vs ++ ws)) s hp
        exact h _ _ _ _ t.2 e (.tup (.inl (.inl upd_same)) ((h2.append k2).up e.f))
    | _ => exact t.elim
  | _ => exact t.elim
def scalD : D → D → Option Bool
  | .none, .none => some true
  | .none, .int _ => some false
  | .int _, .none => some false
  | .none, .bool _ => some false
  | .bool _, .none => some false
  | .none, .str _ => some false
  | .str _, .none => some false
  | .int i, .int j => some (decide (i = j))
  | .bool i, .bool j => some (decide (i = j))
  | .str i, .str j => some (decide (i = j))
  | .int _, .str _ => some false
  | .str _, .int _ => some false
  | .bool _, .str _ => some false
  | .str _, .bool _ => some false
  | _, _ => none
def pEq : P2 := fun x y q => match scalD x y with
  | some b => q (.bool b)
  | none => SeqAt.shaped x = true ∧ SeqAt.shaped y = true ∧ q (.bool (PyData.eqv x y))
def pNe : P2 := fun x y q => match scalD x y with
  | some b => q (.bool (!b))
  | none => SeqAt.shaped x = true ∧ SeqAt.shaped y = true ∧ q (.bool (!PyData.eqv x y))
mutual
theorem dp_of {K : PySem.W.Frag} {F H : Hp} (s : Same F H) : ∀ (d : D) (v : V), d.canLay0 = true → Rp K F v d → Dp K H v d
  | .none, _, _, h => by cases h; exact .non
  | .bool b, _, _, h => by cases h; exact .bl b
  | .int i, _, _, h => by cases h; exact .int i
  | .str z, _, _, h => by cases h; exact .str z
  | .list ds, _, c, h => by
    cases h with
    | lst h1 h2 => exact .lst (SqL.of (s _ _ h1)) (dpAll_of s ds _ (by simpa [PyData.canLay0] using c) h2)
  | .tuple ds, _, c, h => by
    cases h with
    | tup h1 h2 => exact .tup (same_tup s h1) (dpAll_of s ds _ (by simpa [PyData.canLay0] using c) h2)
  | .dict ds, _, c, _ => by simp [PyData.canLay0] at c
theorem dpAll_of {K : PySem.W.Frag} {F H : Hp} (s : Same F H) : ∀ (ds : List D) (vs : List V), PyData.canLayAll0 ds = true → RpAll K F vs ds → DpAll K H vs ds
  | [], _, _, h => by cases h; exact .nil
  | d :: ds, _, c, h => by
    cases h with
    | cons h1 h2 =>
      have c' : d.canLay0 = true ∧ PyData.canLayAll0 ds = true := by simpa [PyData.canLayAll0] using c
      exact .cons (dp_of s d _ c'.1 h1) (dpAll_of s ds _ c'.2 h2)
end
theorem lay_of {d : D} (h : SeqAt.shaped d = true) : d.canLay0 = true := SeqAt.canLay_of_shaped h
def rEqA (K : PySem.W.Frag) : R2 := fun x y H Q => rEq x y H Q ∨ rEqD K x y H Q
def rNeA (K : PySem.W.Frag) : R2 := fun x y H Q => rNe x y H Q ∨ rNeD K x y H Q
theorem op_eqA (hu : X.A.units + 64 < cLine) : OpR X (compareOp .Eq) (rEqA X.K) := op_eq.or (op_eqD hu)
theorem op_neA (hu : X.A.units + 64 < cLine) : OpR X (compareOp .NotEq) (rNeA X.K) := op_ne.or (op_neD hu)
theorem scal_of {K : PySem.W.Frag} {F : Hp} {x y : V} {dx dy : D} {b : Bool} (px : Rp K F x dx) (py : Rp K F y dy) (e : scalD dx dy = some b) : scal x y = true ∧ decide (x = y) = b := by
  cases px <;> cases py <;> simp [scalD] at e <;> (subst e; first | exact ⟨rfl, by simp⟩ | exact ⟨rfl, by rw [dec_bl]; simp⟩)
theorem v_eq : VOp K (rEqA K) pEq := by
  intro F H x y dx dy q Q s px py t h
  unfold pEq at t
  split at t
  · rename_i b e
    obtain ⟨e1, e2⟩ := scal_of px py e
    exact .inl ⟨e1, by rw [e2]; exact fin_flat s h (.bl _) t⟩
  · exact .inr ⟨dx, dy, dp_of s dx x (lay_of t.1) px, dp_of s dy y (lay_of t.2.1) py, t.1, t.2.1, fin_flat s h (.bl _) t.2.2⟩
theorem v_ne : VOp K (rNeA K) pNe := by
  intro F H x y dx dy q Q s px py t h
  unfold pNe at t
  split at t
  · rename_i b e
    obtain ⟨e1, e2⟩ := scal_of px py e
    exact .inl ⟨e1, by rw [e2]; exact fin_flat s h (.bl _) t⟩
  · exact .inr ⟨dx, dy, dp_of s dx x (lay_of t.1) px, dp_of s dy y (lay_of t.2.1) py, t.1, t.2.1, fin_flat s h (.bl _) t.2.2⟩
def pIs : P2 := fun x y q => match y with
  | .none => q (.bool (match x with | .none => true | _ => false))
  | .bool b => (match x with
    | .bool a => q (.bool (decide (a = b)))
    | _ => False)
  | _ => False
def pIsN : P2 := fun x y q => match y with
  | .none => q (.bool (!(match x with | .none => true | _ => false)))
  | .bool b => (match x with
    | .bool a => q (.bool (!decide (a = b)))
    | _ => False)
  | _ => False
def rIsA : R2 := fun x y H Q => (y = .non ∧ Q (.bl (decide (x = .non))) H) ∨ rIsB x y H Q
def rIsNA : R2 := fun x y H Q => (y = .non ∧ Q (.bl (!decide (x = .non))) H) ∨ rNotB x y H Q
theorem op_isA : OpR X (compareOp .Is) rIsA := op_isN.or op_isBl
theorem op_isNA : OpR X (compareOp .IsNot) rIsNA := op_notN.or op_notBl
theorem v_is : VOp K rIsA pIs := by
  intro F H x y dx dy q Q s px py t h
  cases py with
  | non => cases px <;> exact .inl ⟨rfl, fin_flat s h (.bl _) t⟩
  | bl b => cases px <;> first | exact t.elim | exact .inr ⟨_, _, rfl, rfl, fin_flat s h (.bl _) t⟩
  | _ => exact t.elim
theorem v_isN : VOp K rIsNA pIsN := by
  intro F H x y dx dy q Q s px py t h
  cases py with
  | non => cases px <;> exact .inl ⟨rfl, fin_flat s h (.bl _) t⟩
  | bl b => cases px <;> first | exact t.elim | exact .inr ⟨_, _, rfl, rfl, fin_flat s h (.bl _) t⟩
  | _ => exact t.elim
def flatD : D → Bool
  | .none => true
  | .bool _ => true
  | .int _ => true
  | .str _ => true
  | _ => false
theorem flat_of {F : Hp} {v : V} {d : D} (p : Rp K F v d) (h : flatD d = true) : flatV v = true := by
  cases p <;> first | rfl | cases h
theorem flats_of {F : Hp} : ∀ {vs : List V} {ds : List D}, RpAll K F vs ds → ds.all flatD = true → vs.all flatV = true
  | _, _, .nil, _ => rfl
  | _, _, .cons p t, h => by
    rw [List.all_cons, Bool.and_eq_true] at h ⊢
    exact ⟨flat_of p h.1, flats_of t h.2⟩
theorem eqV_of {F : Hp} {x y : V} {dx dy : D} (px : Rp K F x dx) (py : Rp K F y dy) (hx : flatD dx = true) (hy : flatD dy = true) : eqV y x = PyData.eqv dy dx := by
  cases px <;> cases py <;> first | (simp [eqV, PyData.eqv]; done) | cases hx | cases hy
theorem inV_of {F : Hp} {x : V} {dx : D} (px : Rp K F x dx) (hx : flatD dx = true) : ∀ {vs : List V} {ds : List D}, RpAll K F vs ds → ds.all flatD = true → inV x vs = ds.any fun z => PyData.eqv z dx
  | _, _, .nil, _ => rfl
  | _, _, .cons p t, h => by
    rw [List.all_cons, Bool.and_eq_true] at h
    unfold inV
    rw [List.any_cons, List.any_cons, eqV_of px p hx h.1]
    exact congrArg _ (inV_of px hx t h.2)
def pIn (neg : Bool) : P2 := fun x y q => match y with
  | .list ds => flatD x = true ∧ ds.all flatD = true ∧ q (.bool (if neg then !(ds.any fun z => PyData.eqv z x) else ds.any fun z => PyData.eqv z x))
  | .tuple ds => flatD x = true ∧ ds.all flatD = true ∧ q (.bool (if neg then !(ds.any fun z => PyData.eqv z x) else ds.any fun z => PyData.eqv z x))
  | .str z => (match x with
    | .str c => c.cps.size = 1 ∧ q (.bool (if neg then !decide (c.cps.getD 0 0 ∈ z.cps.toList) else decide (c.cps.getD 0 0 ∈ z.cps.toList)))
    | _ => False)
  | _ => False
def rInA (K : PySem.W.Frag) : R2 := fun x y H Q => rIn K false x y H Q ∨ (∃ (c : Nat) (z : Str), x = .str ⟨#[c]⟩ ∧ y = .str z ∧ Q (.bl (decide (c ∈ z.cps.toList))) H)
theorem op_inA : OpR X (compareOp .In) (rInA X.K) := op_in_seq.or op_in_sign
theorem one_sign {z : Str} (h : z.cps.size = 1) : z = ⟨#[z.cps.getD 0 0]⟩ := by
  obtain ⟨⟨l⟩⟩ := z
  match l, h with
  | [c], _ => simp
theorem v_in : VOp K (rInA K) (pIn false) := by
  intro F H x y dx dy q Q s px py t h
  cases py with
  | lst h1 h2 => exact .inl ⟨_, _, rfl, .inl (SqL.of (s _ _ h1)), flat_of px t.1, flats_of h2 t.2.1, by rw [inV_of px t.1 h2 t.2.1]; exact fin_flat s h (.bl _) t.2.2⟩
  | tup h1 h2 => exact .inl ⟨_, _, rfl, .inr (same_tup s h1), flat_of px t.1, flats_of h2 t.2.1, by rw [inV_of px t.1 h2 t.2.1]; exact fin_flat s h (.bl _) t.2.2⟩
  | str z =>
    cases px with
    | str c => exact .inr ⟨_, z, congrArg V.str (one_sign t.1), rfl, fin_flat s h (.bl _) t.2⟩
    | _ => exact t.elim
  | _ => exact t.elim
def pNeg : P1 := fun x q => match x with
  | .int i => q (.int (-i))
  | _ => False
theorem v_neg : VUn K (rU fun i => .int (-i)) pNeg := by
  intro F H x dx q Q s px t h
  cases px <;> first | exact t.elim | exact ⟨_, rfl, fin_flat s h (.int _) t⟩
end
end DL
namespace DL
open PySem PySem.Spec PyProof.Rows L2
end DL
end
section
set_option Elab.async false
set_option linter.all false
set_option maxRecDepth 100000
set_option maxHeartbeats 4000000
namespace DL
open PySem PySem.Spec PyProof.Rows L2
theorem tup_mul_same (l : Addr) (items : Array Value) (n : Nat) (dd : Option Addr) (sl : Array (Option Value)) (x : Int) (u : Tok) (c0 : (decide (x < -(2 ^ 63)) || decide (x ≥ 2 ^ 63)) = false) (c1 : (items.isEmpty || x == 1) = true) :
    Meets (Builtin.«tuple.__mul__» ⟨[.ref l, .int x u], []⟩) (fun _ R s => s.heap.get? l = some { cls := .type "tuple", dict := dd, data := .seq items n, slots := sl } ∧ R (.ok (.ret (Value.ref l))) s) :=
  .of_wp fun prog w A R s h => by
    obtain ⟨hp, g, d, tk, os⟩ := s
    obtain ⟨hl, h⟩ := h
    have f1 := AutoSeq1.idx_int
    wp_walk using wpAny_loadPart' hl
    repeat (first
      | (refine wpAny_ite_false (decide_eq_false (by rw [c0]; exact Bool.false_ne_true)) ?_; wp_walk using wpAny_loadPart' hl)
      | (refine wpAny_ite_true (decide_eq_true (by rw [c1])) ?_; wp_walk using wpAny_loadPart' hl))
    exact ⟨_, rfl, h⟩
theorem tup_mul_none (l : Addr) (items : Array Value) (n : Nat) (dd : Option Addr) (sl : Array (Option Value)) (x : Int) (u : Tok) (c0 : (decide (x < -(2 ^ 63)) || decide (x ≥ 2 ^ 63)) = false) (c1 : (items.isEmpty || x == 1) = false) (c2 : (decide (x ≤ 0) || items.isEmpty) = true) :
    Meets (Builtin.«tuple.__mul__» ⟨[.ref l, .int x u], []⟩) (fun _ R s => s.heap.get? l = some { cls := .type "tuple", dict := dd, data := .seq items n, slots := sl } ∧
      R (.ok (.ret (Value.ref s.heap.objs.size))) { s with heap := s.heap.push { cls := Value.type "tuple", data := Data.seq #[] }, toks := s.toks }) :=
  .of_wp fun prog w A R s h => by
    obtain ⟨hp, g, d, tk, os⟩ := s
    obtain ⟨hl, h⟩ := h
    have f1 := AutoSeq1.idx_int
    wp_walk using wpAny_loadPart' hl
    repeat (first
      | (refine wpAny_ite_false (decide_eq_false (by rw [c0]; exact Bool.false_ne_true)) ?_; wp_walk using wpAny_loadPart' hl)
      | (refine wpAny_ite_false (decide_eq_false (by rw [c1]; exact Bool.false_ne_true)) ?_; wp_walk using wpAny_loadPart' hl)
      | (refine wpAny_ite_true (decide_eq_true (by rw [c2])) ?_; wp_walk using wpAny_loadPart' hl))
    exact ⟨_, rfl, h⟩
def rRepA (K : PySem.W.Frag) : R2 := fun x y H Q => ∃ l k xs, x = .ref l ∧ y = .int k ∧ SqT K H l xs ∧ -(2 ^ 63) ≤ k ∧ k < 2 ^ 63 ∧ xs.length * k.toNat ≤ sizeLine ∧
  ((xs = [] ∨ k = 1) → Q (.ref l) H) ∧ (xs ≠ [] → k ≠ 1 → ∀ p, H p = none → Q (.ref p) (upd H p (.tup (List.replicate k.toNat xs).flatten)))
theorem op_repA {X : Cx} : OpR X (binaryOp .Mult) (rRepA X.K) := by
  intro pins s σ H x y v u Q I rx ry h
  obtain ⟨l, k, xs, rfl, rfl, hT, hk1, hk2, hz, q1, q2⟩ := h
  cases rx
  obtain ⟨t, rfl⟩ := ry
  obtain ⟨its, r, ⟨⟨cls, dd, data, sl⟩, ho, hc, n, hd⟩, hs⟩ := I.tuple hT
  simp only at hc hd
  subst hc hd
  have hle : its.length = xs.length := r.length.symm
  have c0 : (decide (k < -(2 ^ 63)) || decide (k ≥ 2 ^ 63)) = false := by
    rw [decide_eq_false (by omega), decide_eq_false (by omega)] <;> rfl
  have hsz0 : its.toArray.size = xs.length := by rw [List.size_toArray, hle]
  have emp : its.toArray.isEmpty = xs.isEmpty := by
    cases r <;> simp
  have tail : ∀ {R : Value → Shared → Prop}, wpAny (model X.prog X.w) X.A (call (.builtin "tuple.__mul__") [.ref l, .int k t]) R X.xe s → wpAny (model X.prog X.w) X.A (binaryOp .Mult (.ref l) (.int k t)) R X.xe s := fun {R} h =>
    wpAny_binaryOp_repeat_ref (T := "tuple") (U := "int") (by decide) ⟨_, ho, rfl⟩ (fun s' => typeIs_int s' k t) noFill_tuple_mul F.fills_int_mul F.slot_int_rmul repeat_tuple F.slot_int_index.lookup
      (call_meets F.slot_int_rmul (typeIs_int s k t) F.entry_int_rmul (F.args_int_rmul_2 _ _) (int_rmul_tuple k t l its.toArray n dd sl) ⟨ho, rfl, ⟨_, ho, rfl⟩, h⟩)
  by_cases h1 : (its.toArray.isEmpty || k == 1) = true
  · refine tail (call_meets F.slot_tuple_mul ⟨_, ho, rfl⟩ F.entry_tuple_mul (F.args_tuple_mul_2 _ _) (tup_mul_same l its.toArray n dd sl k t c0 h1) ⟨ho, ?_⟩)
    refine ⟨.ref l, H, I, rfl, q1 ?_⟩
    rw [Bool.or_eq_true, emp] at h1
    rcases h1 with z | z
    · exact .inl (by simpa using z)
    · exact .inr (by simpa using z)
  · have h1' : (its.toArray.isEmpty || k == 1) = false := by simpa using h1
    have h1b := h1'
    rw [Bool.or_eq_false_iff, emp] at h1b
    have ne : xs ≠ [] := by simpa using h1b.1
    have nk : k ≠ 1 := by simpa using h1b.2
    by_cases h2 : (decide (k ≤ 0) || its.toArray.isEmpty) = true
    · refine tail (call_meets F.slot_tuple_mul ⟨_, ho, rfl⟩ F.entry_tuple_mul (F.args_tuple_mul_2 _ _) (tup_mul_none l its.toArray n dd sl k t c0 h1' h2) ⟨ho, ?_⟩)
      have k0 : k.toNat = 0 := by
        rw [Bool.or_eq_true, emp] at h2
        rcases h2 with z | z
        · have := of_decide_eq_true z
          omega
        · exact absurd (by simpa using z) ne
      have e : (List.replicate k.toNat xs).flatten = [] := by rw [k0]; rfl
      have q3 := q2 ne nk
      rw [e] at q3
      refine ⟨.ref s.heap.objs.size, _, I.laid (t' := s.toks) (o := .tup []) (fun b ob q => Heap.get?_push_of_some _ q) (Nat.le_refl _) ?_, rfl, q3 _ (I.hok.fresh (Nat.le_refl _))⟩
      exact ⟨Nat.zero_le _, [], .nil, IsTup.new _ _⟩
    · have h2' : (decide (k ≤ 0) || its.toArray.isEmpty) = false := by simpa using h2
      have h2b := h2'
      rw [Bool.or_eq_false_iff] at h2b
      have kp : 0 < k := by
        have := of_decide_eq_false h2b.1
        omega
      have hm : ((its.toArray.size : Nat) : Int) * k ≤ 16777216 := by
        rw [hsz0]
        have e1 : (k.toNat : Int) = k := by omega
        have e2 : ((xs.length * k.toNat : Nat) : Int) ≤ 16777216 := by
          have := hz
          rw [sizeLine_eq] at this
          omega
        rw [Int.natCast_mul, e1] at e2
        exact e2
      have flen : (List.replicate k.toNat its).flatten.length ≤ sizeLine := by
        rw [PyProof.Rows.lm_len_rep_flat, hle, Nat.mul_comm]
        exact hz
      have c4 : Builtin.Tuple.tupleTooMany (((its.toArray.size : Nat) : Int) * k) = false := by
        unfold Builtin.Tuple.tupleTooMany
        rw [sizeLine_eq]
        exact decide_eq_false (by omega)
      refine tail (call_meets F.slot_tuple_mul ⟨_, ho, rfl⟩ F.entry_tuple_mul (F.args_tuple_mul_2 _ _) (tuple_mulW l its.toArray n dd sl k t c0 h1' h2' (by omega) c4 (by rw [size_rep, List.size_toArray]; exact flen)) ⟨ho, ?_⟩)
      rw [size_rep]
      refine ⟨.ref s.heap.objs.size, _, I.laid (t' := s.toks) (o := .tup (List.replicate k.toNat xs).flatten) (fun b ob q => Heap.get?_push_of_some _ q) (Nat.le_refl _) ?_, rfl, q2 ne nk _ (I.hok.fresh (Nat.le_refl _))⟩
      exact ⟨by rw [PyProof.Rows.lm_len_rep_flat, Nat.mul_comm]; exact hz, _, r.rep k.toNat, IsTup.new _ _⟩
def pMul : P2 := fun x y q => match x, y with
  | .int i, .int j => MulOk i j ∧ q (.int (i * j))
  | .list a, .int k => (-(2 ^ 63) ≤ k ∧ k < 2 ^ 63 ∧ a.length * k.toNat ≤ sizeLine) ∧ q (.list (List.replicate k.toNat a).flatten)
  | .tuple a, .int k => (-(2 ^ 63) ≤ k ∧ k < 2 ^ 63 ∧ a.length * k.toNat ≤ sizeLine) ∧ q (.tuple (List.replicate k.toNat a).flatten)
  | _, _ => False
def rMulA (K : PySem.W.Frag) : R2 := fun x y H Q => (rI CMul (fun i j => .int (i * j)) x y H Q ∨ rI CMulW (fun i j => .int (i * j)) x y H Q) ∨ rRep x y H Q ∨ rRepA K x y H Q
theorem op_mulA {X : Cx} : OpR X (binaryOp .Mult) (rMulA X.K) := (op_mul.or op_mulW).or (op_rep.or op_repA)
theorem rep_one {α : Type} (xs : List α) : (List.replicate (1 : Int).toNat xs).flatten = xs := by
  show (List.replicate 1 xs).flatten = xs
  simp [List.replicate]
theorem rep_nil {α : Type} (k : Nat) : (List.replicate k ([] : List α)).flatten = [] := by
  induction k with
  | zero => rfl
  | succ k ih => rw [List.replicate_succ, List.flatten_cons, ih]; rfl
theorem v_mul {K : PySem.W.Frag} : VOp K (rMulA K) pMul := by
  intro F H x y dx dy q Q s px py t h
  cases px with
  | int i =>
    cases py with
    | int j =>
      rcases t.1 with z | z
      · exact .inl (.inl ⟨i, j, rfl, rfl, z, fin_flat s h (.int _) t.2⟩)
      · exact .inl (.inr ⟨i, j, rfl, rfl, z, fin_flat s h (.int _) t.2⟩)
    | _ => exact t.elim
  | @lst a vs ds h1 h2 =>
    cases py with
    | int k =>
      refine .inr (.inl ⟨_, k, vs, rfl, rfl, s _ _ h1, t.1.1, t.1.2.1, by rw [h2.length]; exact t.1.2.2, fun p hp => ?_⟩)
      have e := ext_new (o := .lst (List.replicate k.toNat vs).flatten) s hp
      exact h _ _ _ _ t.2 e (.lst upd_same ((h2.flat k.toNat).up e.f))
    | _ => exact t.elim
  | @tup a vs ds h1 h2 =>
    cases py with
    | int k =>
      refine .inr (.inr ⟨_, k, vs, rfl, rfl, same_tup s h1, t.1.1, t.1.2.1, by rw [h2.length]; exact t.1.2.2, fun z => ?_, fun z1 z2 p hp => ?_⟩)
      · have t2 := t.2
        rcases z with z | z
        · subst z
          cases h2
          rw [rep_nil] at t2
          exact h _ _ _ _ t2 (Ext.refl s) (.tup h1 .nil)
        · subst z
          rw [rep_one] at t2
          exact h _ _ _ _ t2 (Ext.refl s) (.tup h1 h2)
      · have e := ext_new (o := .tup (List.replicate k.toNat vs).flatten) s hp
        exact h _ _ _ _ t.2 e (.tup (.inl (.inl upd_same)) ((h2.flat k.toNat).up e.f))
    | _ => exact t.elim
  | _ => exact t.elim
end DL
end
section
set_option Elab.async false
set_option linter.all false
set_option maxRecDepth 100000
set_option maxHeartbeats 1000000
namespace DL
open PySem PySem.Spec PyProof.Rows L2
section
variable {X : Cx} {K : PySem.W.Frag}
/-- of what may not be there -/
def optD {α : Type} (o : Option α) (q : α → Prop) : Prop := match o with
  | some d => q d
  | none => False
theorem optD_of {α : Type} {o : Option α} {d : α} {q : α → Prop} (e : o = some d) (h : q d) : optD o q := by rw [e]; exact h
def pIx : P2 := fun x k q => match x, k with
  | .list ds, .int i => optD (atI ds i) q
  | .tuple ds, .int i => optD (atI ds i) q
  | .str z, .int i => z.length ≤ sizeLine ∧ optD (atI z.cps.toList i) fun c => q (.str ⟨#[c]⟩)
  | _, _ => False
theorem at_rp {F : Hp} {vs : List V} {ds : List D} {i : Int} {d : D} (p : RpAll K F vs ds) (h : atI ds i = some d) : ∃ v, atI vs i = some v ∧ Rp K F v d := by
  unfold atI at h ⊢
  rw [p.length]
  cases e : ixN ds.length i with
  | none => rw [e] at h; cases h
  | some j =>
    rw [e] at h
    obtain ⟨v, h1, h2⟩ := p.getD (i := j) h
    exact ⟨v, h1, h2⟩
theorem v_ix : VOp K (rIx K) pIx := by
  intro F H x y dx dy q Q s px py t h
  cases px with
  | @lst a vs ds h1 h2 =>
    cases py with
    | int i =>
      have t' : optD (atI ds i) q := t
      cases e : atI ds i with
      | none => rw [e] at t'; exact t'.elim
      | some d =>
        rw [e] at t'
        obtain ⟨v, k1, k2⟩ := at_rp h2 e
        exact .inl ⟨_, vs, i, v, rfl, rfl, SqL.of (s _ _ h1), k1, fin_flat s h k2 t'⟩
    | _ => exact t.elim
  | @tup a vs ds h1 h2 =>
    cases py with
    | int i =>
      have t' : optD (atI ds i) q := t
      cases e : atI ds i with
      | none => rw [e] at t'; exact t'.elim
      | some d =>
        rw [e] at t'
        obtain ⟨v, k1, k2⟩ := at_rp h2 e
        exact .inr (.inl ⟨_, vs, i, v, rfl, rfl, same_tup s h1, k1, fin_flat s h k2 t'⟩)
    | _ => exact t.elim
  | str z =>
    cases py with
    | int i =>
      obtain ⟨hz, t⟩ := t
      have t' : optD (atI z.cps.toList i) (fun c => q (.str ⟨#[c]⟩)) := t
      cases e : atI z.cps.toList i with
      | none => rw [e] at t'; exact t'.elim
      | some c =>
        rw [e] at t'
        exact .inr (.inr ⟨z, i, c, rfl, rfl, hz, e, fin_flat s h (.str _) t'⟩)
    | _ => exact t.elim
  | _ => cases py <;> exact t.elim
theorem d_ix {a b : Expr} {ta tb : DTE} {pos : Pos} (ha : DE X a ta) (hb : DE X b tb) (hs : PlainIx b) : DE X (.Subscript a b pos) (eOp2 pIx ta tb) :=
  ⟨fun W => pe_weak (pe_ix ix_seq (ha.run W) (hb.run W) hs) (op2_weak v_ix)⟩
/-- of a slot: an owner's list may be read -/
def eIxV (i : Nat) (tb : DTE) : DTE := fun r q => match dat r i with
  | some (.sh d) => tb r fun k r1 => pIx d k fun y => q y r1
  | some (.rg _) => False
  | some _ => tb r fun k r1 => (match dat r1 i with
    | some (.own (.lst ds)) => pIx (.list ds) k fun y => q y r1
    | some (.io (.lst ds)) => pIx (.list ds) k fun y => q y r1
    | _ => False)
  | _ => False
theorem slot_list {W : Wd} {r : DSt} {F : Hp} {σ : St} {H : Hp} {i : Nat} {ds : List D} (R : Rel K W r F σ H) (h : dat r i = some (.own (.lst ds)) ∨ dat r i = some (.io (.lst ds))) : ∃ a vs, σ[i]? = some (some (V.ref a)) ∧ H a = some (.lst vs) ∧ F a = none ∧ RpAll K F vs ds := by
  rcases h with h | h
  · obtain ⟨a, o, h1, h2, h3, ⟨vs, rfl, h4⟩, _⟩ := R.own i _ h
    exact ⟨a, vs, h1, h2, h3, h4⟩
  · obtain ⟨a, o, h1, h2, h3, ⟨vs, rfl, h4⟩, _⟩ := R.io i _ h
    exact ⟨a, vs, h1, h2, h3, h4⟩
theorem d_ixv (i : Nat) {x : Str} {p : Pos} {b : Expr} {tb : DTE} {pos : Pos} (hb : DE X b tb) (hs : PlainIx b) (hN : X.N[i]? = some x := by rfl) (hv : Vis X.env.scope x := by first | exact Or.inl rfl | exact Or.inr (Or.inl rfl) | exact Or.inr (Or.inr rfl)) (hd : (x == ("__debug__" : Str)) = false := by decide)
    (hcd : (x == ("__classdict__" : Str)) = false := by decide) : DE X (.Subscript (.Name x p) b pos) (eIxV i tb) := by
  refine ⟨fun W => pe_weak (pe_ix ix_seq (pe_var hN hv hd hcd) (hb.run W) hs) fun σ H Q h => ?_⟩
  obtain ⟨r, F, q, R, t, w⟩ := h
  unfold eIxV at t
  split at t
  · rename_i d e
    obtain ⟨v, e1, e2⟩ := R.sh i d e
    refine ⟨v, e1, r, F, _, R, t, fun k r1 kv F1 H1 t1 R1 s1 pk => ?_⟩
    exact v_ix F1 H1 v kv d k _ Q R1.sub (e2.up s1) pk t1 fun y z F' H' qy ex rp => w y r1 z F' H' qy (R1.ext ex) (s1.trans ex.f) rp
  · exact t.elim
  · rename_i c nsh nrg e
    obtain ⟨m0, hm⟩ : ∃ m, dat r i = some (Cell.own m) ∨ dat r i = some (Cell.io m) := by
      cases c with
      | sh d => exact (nsh d rfl).elim
      | rg g => exact (nrg g rfl).elim
      | own m => exact ⟨m, .inl e⟩
      | io m => exact ⟨m, .inr e⟩
    obtain ⟨a, ha⟩ : ∃ a, σ[i]? = some (some (V.ref a)) := by
      rcases hm with e | e
      · obtain ⟨a, o, h1, _⟩ := R.own i _ e
        exact ⟨a, h1⟩
      · obtain ⟨a, o, h1, _⟩ := R.io i _ e
        exact ⟨a, h1⟩
    refine ⟨_, ha, r, F, _, R, t, fun k r1 kv F1 H1 t1 R1 s1 pk => ?_⟩
    have go : ∀ {ds : List D}, (dat r1 i = some (.own (.lst ds)) ∨ dat r1 i = some (.io (.lst ds))) → (pIx (.list ds) k fun y => q y r1) → rIx X.K (.ref a) kv H1 Q := fun {ds} e t2 => by
      obtain ⟨a', vs, h1, h2, h3, h4⟩ := slot_list R1 e
      rw [ha] at h1; cases h1
      cases pk with
      | int j =>
        have t' : optD (atI ds j) (fun d => q d r1) := t2
        cases e2 : atI ds j with
        | none => rw [e2] at t'; exact t'.elim
        | some d =>
          rw [e2] at t'
          obtain ⟨v, k1, k2⟩ := at_rp h4 e2
          exact .inl ⟨_, vs, j, v, rfl, rfl, SqL.of h2, k1, w d r1 v F1 H1 t' R1 s1 k2⟩
      | _ => exact t2.elim
    split at t1
    · rename_i ds e; exact go (.inl e) t1
    · rename_i ds e; exact go (.inr e) t1
    · exact t1.elim
  · exact t.elim
abbrev DTP := DSt → (Option Int → DSt → Prop) → Prop
def liftP (K : PySem.W.Frag) (W : Wd) (t : DTP) : TO := fun σ H Q => ∃ r F q, Rel K W r F σ H ∧ t r q ∧ ∀ o r' F' H', q o r' → Rel K W r' F' σ H' → Same F F' → Q o H'
structure DP (X : Cx) (e : Option Expr) (t : DTP) : Prop where
  run : ∀ W, PO X e (liftP X.K W t)
def pNo : DTP := fun r q => q none r
def pSome (te : DTE) : DTP := fun r q => te r fun d r1 => match d with
  | .int i => q (some i) r1
  | _ => False
theorem po_weak {e : Option Expr} {t t' : TO} (h : PO X e t) (w : ∀ σ H Q, t' σ H Q → t σ H Q) : PO X e t' := ⟨fun pins s σ H Q I q => h.run pins s σ H Q I (w σ H Q q)⟩
theorem dp_no : DP X none pNo := by
  refine ⟨fun W => po_weak po_none fun σ H Q h => ?_⟩
  obtain ⟨r, F, q, R, t, w⟩ := h
  exact w none r F H t R (Same.refl _)
theorem dp_some {e : Expr} {te : DTE} (h : DE X e te) : DP X (some e) (pSome te) := by
  refine ⟨fun W => po_weak (po_some (h.run W)) fun σ H Q h => ?_⟩
  obtain ⟨r, F, q, R, t, w⟩ := h
  refine ⟨r, F, _, R, t, fun d r' v F' H' a b c p => ?_⟩
  cases p with
  | int i => exact ⟨i, rfl, w _ r' F' H' a b c⟩
  | _ => exact a.elim
def cutD {α : Type} (xs : List α) (lo hi : Option Int) : List α := (xs.drop (HT.sIx xs.length 0 lo)).take (HT.sIx xs.length xs.length hi - HT.sIx xs.length 0 lo)
theorem cut_rp {F : Hp} {vs : List V} {ds : List D} (p : RpAll K F vs ds) (lo hi : Option Int) : RpAll K F (cutV vs lo hi) (cutD ds lo hi) := by
  unfold cutV cutD
  rw [p.length]
  exact (p.drop _).take _
def pSl (x : D) (lo hi : Option Int) (q : D → Prop) : Prop := match x with
  | .list ds => q (.list (cutD ds lo hi))
  | .tuple ds => q (.tuple (cutD ds lo hi))
  | .str z => z.length ≤ sizeLine ∧ q (.str (cutS z lo hi))
  | .dict [(.none, .list ds)] => q (.list (cutD ds lo hi))
  | _ => False
def rSlAll (K : PySem.W.Frag) : V → Option Int → Option Int → Hp → VK → Prop := fun x lo hi H Q => rSlL K x lo hi H Q ∨ rSlA K x lo hi H Q ∨ rSlS x lo hi H Q
theorem sl_all : SlR X (rSlAll X.K) := sl_list.or (sl_tupA.or sl_str)
theorem cut_all {α : Type} {xs : List α} {lo hi : Option Int} (h : HT.sIx xs.length 0 lo = 0 ∧ HT.sIx xs.length xs.length hi = xs.length) : cutD xs lo hi = xs := by
  unfold cutD
  rw [h.1, h.2, List.drop_zero, Nat.sub_zero, List.take_length]
theorem v_sl {F H : Hp} {x : V} {dx : D} {lo hi : Option Int} {q : D → Prop} {Q : VK} (s : Same F H) (px : Rp K F x dx) (t : pSl dx lo hi q) (h : Fin2 K F H q Q) : rSlAll K x lo hi H Q := by
  have newL : ∀ {vs : List V} {ds : List D}, RpAll K F vs ds → q (.list (cutD ds lo hi)) → ∀ p, H p = none → Q (.ref p) (upd H p (.lst (cutV vs lo hi))) := fun {vs ds} h2 t p hp => by
    have e := ext_new (o := .lst (cutV vs lo hi)) s hp
    exact h _ _ _ _ t e (.lst upd_same ((cut_rp h2 lo hi).up e.f))
  cases px with
  | @lst a vs ds h1 h2 => exact .inl ⟨_, vs, rfl, SqL.of (s _ _ h1), newL h2 t⟩
  | @tup a vs ds h1 h2 =>
    refine .inr (.inl ⟨_, vs, rfl, same_tup s h1, fun z => ?_, fun z p hp => ?_⟩)
    · rw [h2.length] at z
      have t' : q (.tuple (cutD ds lo hi)) := t
      rw [cut_all z] at t'
      exact fin_flat s h (.tup h1 h2) t'
    · have e := ext_new (o := .tup (cutV vs lo hi)) s hp
      exact h _ _ _ _ t e (.tup (.inl (.inl upd_same)) ((cut_rp h2 lo hi).up e.f))
  | str z => exact .inr (.inr ⟨z, rfl, t.1, fin_flat s h (.str _) t.2⟩)
  | @scr a vs ds h1 h2 => exact .inl ⟨_, vs, rfl, s.seq h1, newL h2 t⟩
  | dic h1 h2 =>
    cases h2 with
    | nil => exact t.elim
    | @cons k v ps d ds k1 k2 =>
      cases k <;> exact t.elim
  | dit h1 hn h2 =>
    cases h2 with
    | nil => exact t.elim
    | cons _ _ _ _ => exact t.elim
  | _ => exact t.elim
/-- of a slot whose list is one's own: without giving it away -/
def eSlV (i : Nat) (tl th : DTP) : DTE := fun r q => match dat r i with
  | some (.sh d) => tl r fun l r2 => th r2 fun u r3 => pSl d l u fun y => q y r3
  | some (.rg _) => False
  | some _ => tl r fun l r2 => th r2 fun u r3 => (match dat r3 i with
    | some (.own (.lst ds)) => q (.list (cutD ds l u)) r3
    | some (.io (.lst ds)) => q (.list (cutD ds l u)) r3
    | _ => False)
  | _ => False
theorem d_slv (i : Nat) {x : Str} {p : Pos} {lo hi : Option Expr} {tl th : DTP} {pos p2 : Pos} (hl : DP X lo tl) (hu : DP X hi th) (hN : X.N[i]? = some x := by rfl) (hv : Vis X.env.scope x := by first | exact Or.inl rfl | exact Or.inr (Or.inl rfl) | exact Or.inr (Or.inr rfl)) (hd : (x == ("__debug__" : Str)) = false := by decide)
    (hcd : (x == ("__classdict__" : Str)) = false := by decide) : DE X (.Subscript (.Name x p) (.Slice lo hi none p2) pos) (eSlV i tl th) := by
  refine ⟨fun W => pe_weak (pe_slice sl_all (pe_var hN hv hd hcd) (hl.run W) (hu.run W)) fun σ H Q h => ?_⟩
  obtain ⟨r, F, q, R, t, w⟩ := h
  unfold eSlV at t
  split at t
  · rename_i d e
    obtain ⟨v, e1, e2⟩ := R.sh i d e
    refine ⟨v, e1, r, F, _, R, t, fun l r2 F2 H2 t2 R2' s2 => ⟨r2, F2, _, R2', t2, fun u r3 F3 H3 t3 R3 s3 => ?_⟩⟩
    exact v_sl R3.sub (e2.up (s2.trans s3)) t3 fun y z F' H' qy ex rp => w y r3 z F' H' qy (R3.ext ex) (s2.trans (s3.trans ex.f)) rp
  · exact t.elim
  · rename_i c nsh nrg e
    obtain ⟨a, ha⟩ : ∃ a, σ[i]? = some (some (V.ref a)) := by
      cases c with
      | sh d => exact (nsh d rfl).elim
      | rg g => exact (nrg g rfl).elim
      | own m => obtain ⟨a, o, h1, _⟩ := R.own i m e; exact ⟨a, h1⟩
      | io m => obtain ⟨a, o, h1, _⟩ := R.io i m e; exact ⟨a, h1⟩
    refine ⟨_, ha, r, F, _, R, t, fun l r2 F2 H2 t2 R2' s2 => ⟨r2, F2, _, R2', t2, fun u r3 F3 H3 t3 R3 s3 => ?_⟩⟩
    have go : ∀ {ds : List D}, (dat r3 i = some (.own (.lst ds)) ∨ dat r3 i = some (.io (.lst ds))) → q (.list (cutD ds l u)) r3 → rSlAll X.K (.ref a) l u H3 Q := fun {ds} e t => by
      obtain ⟨a', vs, h1, h2, h3, h4⟩ := slot_list R3 e
      rw [ha] at h1; cases h1
      refine .inl ⟨a, vs, rfl, SqL.of h2, fun p hp => ?_⟩
      have ex := ext_new (o := .lst (cutV vs l u)) R3.sub hp
      exact w _ r3 _ _ _ t (R3.ext ex) (s2.trans (s3.trans ex.f)) (.lst upd_same ((cut_rp h4 l u).up ex.f))
    split at t3
    · rename_i ds e; exact go (.inl e) t3
    · rename_i ds e; exact go (.inr e) t3
    · exact t3.elim
  · exact t.elim
end
end DL
end
section
set_option Elab.async false
set_option linter.all false
set_option maxRecDepth 100000
set_option maxHeartbeats 1000000
namespace DL
open PySem PySem.Spec PyProof.Rows L2 RZ
def enumD : Int → List D → List D
  | _, [] => []
  | k, d :: t => .tuple [.int k, d] :: enumD (k + 1) t
theorem enumD_len : ∀ (k : Int) (ds : List D), (enumD k ds).length = ds.length
  | _, [] => rfl
  | k, _ :: t => congrArg (· + 1) (enumD_len (k + 1) t)
theorem enumD_get : ∀ (k : Int) (ds : List D) (i : Nat), (enumD k ds)[i]? = (ds[i]?).map fun d => PyData.tuple [.int (k + (i : Nat)), d]
  | _, [], _ => by simp [enumD]
  | k, d :: t, 0 => by simp [enumD]
  | k, d :: t, i + 1 => by
    have := enumD_get (k + 1) t i
    simp only [enumD, List.getElem?_cons_succ, this]
    have e : k + 1 + (i : Int) = k + ((i + 1 : Nat) : Int) := by omega
    simp only [e]
def zipD : List D → List D → List D
  | a :: s, b :: t => .tuple [a, b] :: zipD s t
  | _, _ => []
theorem zipD_get : ∀ (as bs : List D) (i : Nat) (d : D), (zipD as bs)[i]? = some d → ∃ a b, as[i]? = some a ∧ bs[i]? = some b ∧ d = .tuple [a, b]
  | [], _, _, _, h => by simp [zipD] at h
  | _ :: _, [], _, _, h => by simp [zipD] at h
  | a :: s, b :: t, 0, d, h => by simp [zipD] at h; exact ⟨a, b, rfl, rfl, h.symm⟩
  | a :: s, b :: t, i + 1, d, h => by simpa using zipD_get s t i d (by simpa [zipD] using h)
theorem zipD_len : ∀ (as bs : List D), (zipD as bs).length = min as.length bs.length
  | [], _ => by simp [zipD]
  | _ :: _, [] => by simp [zipD]
  | a :: s, b :: t => by simp [zipD, zipD_len s t]
def signsD (z : Str) : List D := z.cps.toList.map fun c => PyData.str ⟨#[c]⟩
section
variable {X : Cx} {K : PySem.W.Frag}
theorem jok_enum {F0 : Hp} {a : Addr} {vs : List V} {ds : List D} (h : SqL K F0 a vs) (p : RpAll K F0 vs ds) : JOk K F0 (Ite K a) (enumD 0 ds) where
  stop := fun i F H s1 s2 hi => ⟨vs, s2.seq (s1.seq h), by rw [enumD_len] at hi; rw [p.length]; exact hi⟩
  go := fun i F H s1 s2 hi => by
    rw [enumD_len] at hi
    have hi' : i < vs.length := p.length ▸ hi
    exact ⟨vs, vs[i], s2.seq (s1.seq h), by simp [hi']⟩
  yld := fun i F H x H' d s1 s2 y e => by
    obtain ⟨T, v, rfl, hT, rfl, y⟩ := y
    have ex := y vs (s2.seq (s1.seq h))
    obtain ⟨d', e1, e2⟩ := p.get ex
    rw [enumD_get, e1] at e
    have e' : PyData.tuple [.int (0 + (i : Nat)), d'] = d := Option.some.inj e
    subst e'
    have xt := ext_new (o := .tup [.int (i : Nat), v]) s2 hT
    refine ⟨_, xt, .tup (.inl (.inl upd_same)) (.cons ?_ (.cons ((e2.up s1).up xt.f) .nil))⟩
    rw [Int.zero_add]
    exact .int _
theorem jok_zip {F0 : Hp} {a b : Addr} {vs ws : List V} {ds es : List D} (h : SqL K F0 a vs) (p : RpAll K F0 vs ds) (h' : SqL K F0 b ws) (p' : RpAll K F0 ws es) : JOk K F0 (Itz K a b) (zipD ds es) where
  stop := fun i F H s1 s2 hi => ⟨vs, ws, s2.seq (s1.seq h), s2.seq (s1.seq h'), by rw [zipD_len] at hi; rw [p.length, p'.length]; omega⟩
  go := fun i F H s1 s2 hi => by
    rw [zipD_len] at hi
    have h1 : i < vs.length := by rw [p.length]; omega
    have h2 : i < ws.length := by rw [p'.length]; omega
    exact ⟨vs, ws, vs[i], ws[i], s2.seq (s1.seq h), s2.seq (s1.seq h'), by simp [h1], by simp [h2]⟩
  yld := fun i F H x H' d s1 s2 y e => by
    obtain ⟨T, u, v, rfl, hT, rfl, y1, y2⟩ := y
    obtain ⟨d1, d2, e1, e2, rfl⟩ := zipD_get _ _ _ _ e
    obtain ⟨d1', k1, k2⟩ := p.get (y1 vs (s2.seq (s1.seq h)))
    obtain ⟨d2', k3, k4⟩ := p'.get (y2 ws (s2.seq (s1.seq h')))
    rw [e1] at k1; cases k1
    rw [e2] at k3; cases k3
    have xt := ext_new (o := .tup [u, v]) s2 hT
    exact ⟨_, xt, .tup (.inl (.inl upd_same)) (.cons ((k2.up s1).up xt.f) (.cons ((k4.up s1).up xt.f) .nil))⟩
theorem jok_zipT {F0 : Hp} {a b : Addr} {vs ws : List V} {ds es : List D} (h : SqT K F0 a vs) (p : RpAll K F0 vs ds) (h' : SqT K F0 b ws) (p' : RpAll K F0 ws es) : JOk K F0 (ItzT K a b) (zipD ds es) where
  stop := fun i F H s1 s2 hi => ⟨vs, ws, same_tup s2 (same_tup s1 h), same_tup s2 (same_tup s1 h'), by rw [zipD_len] at hi; rw [p.length, p'.length]; omega⟩
  go := fun i F H s1 s2 hi => by
    rw [zipD_len] at hi
    have h1 : i < vs.length := by rw [p.length]; omega
    have h2 : i < ws.length := by rw [p'.length]; omega
    exact ⟨vs, ws, vs[i], ws[i], same_tup s2 (same_tup s1 h), same_tup s2 (same_tup s1 h'), by simp [h1], by simp [h2]⟩
  yld := fun i F H x H' d s1 s2 y e => by
    obtain ⟨T, u, v, rfl, hT, rfl, y1, y2⟩ := y
    obtain ⟨d1, d2, e1, e2, rfl⟩ := zipD_get _ _ _ _ e
    obtain ⟨d1', k1, k2⟩ := p.get (y1 vs (same_tup s2 (same_tup s1 h)))
    obtain ⟨d2', k3, k4⟩ := p'.get (y2 ws (same_tup s2 (same_tup s1 h')))
    rw [e1] at k1; cases k1
    rw [e2] at k3; cases k3
    have xt := ext_new (o := .tup [u, v]) s2 hT
    exact ⟨_, xt, .tup (.inl (.inl upd_same)) (.cons ((k2.up s1).up xt.f) (.cons ((k4.up s1).up xt.f) .nil))⟩
theorem jok_str {F0 : Hp} (z : Str) : JOk K F0 (Its z) (signsD z) where
  stop := fun i F H s1 s2 hi => by
    unfold signsD at hi
    show z.cps.size ≤ i
    simpa using hi
  go := fun i F H s1 s2 hi => by
    unfold signsD at hi
    show i < z.cps.size
    simpa using hi
  yld := fun i F H x H' d s1 s2 y e => by
    obtain ⟨rfl, c, y1, rfl⟩ := y
    unfold signsD at e
    rw [List.getElem?_map] at e
    have : z.cps.toList[i]? = some c := by simpa using y1
    rw [this] at e
    cases e
    exact ⟨F, Ext.refl s2, .str _⟩
def iZp (ta : DTA) : DTI := fun r q => ta r fun ds r1 => match ds with
  | [.list xs, .list ys] => q (zipD xs ys) r1
  | [.tuple xs, .tuple ys] => q (zipD xs ys) r1
  | _ => False
theorem scr_inv {F : Hp} {v : V} {ds : List D} (p : Rp K F v (.dict [(.none, .list ds)])) : ∃ a vs, v = .ref a ∧ SqL K F a vs ∧ RpAll K F vs ds := by
  cases p with
  | scr h1 h2 => exact ⟨_, _, rfl, h1, h2⟩
  | dic h1 h2 =>
    have key : ∀ {ps : List (Key × V)} {es : List (D × D)}, RpKv K F ps es → es ≠ [(.none, .list ds)] := fun {ps es} z => by
      cases z with
      | nil => exact fun y => by cases y
      | @cons k v ps d ds' k1 k2 => exact fun y => by cases k <;> cases y
    exact absurd rfl (key h2)
  | dit h1 hn h2 => nomatch h2
theorem di_zip {e e2 : Expr} {ta : DTA} {p pos tpos : Pos} {elts : List Expr} {kk : Nat} (hg : Gl X "zip") (hm : X.mg "zip" = none) (ha : DA X [e, e2] ta)
    (hs : starEach [e, e2] X.env = (false, eval e X.env) :: starEach [e2] X.env := by rfl) (hpl : (backTo pos (starEach [e2] X.env)).any (·.1) = false := by rfl) :
    DI X (.Tuple elts kk tpos) (.Call (.Name "zip" p) [e, e2] [] pos) (iZp ta) := by
  refine ⟨fun W => pi_weak (pi_zipA hg hm (ha.run W) hs hpl) fun σ H Q h => ?_⟩
  obtain ⟨r, F, q, R, t, w⟩ := h
  refine ⟨r, F, _, R, t, fun ds r' vs F' H' a b c p => ?_⟩
  match ds, p, a with
  | [.list xs, .list ys], .cons (.lst h1 h2) (.cons (.lst k1 k2) .nil), a => exact ⟨_, _, _, _, rfl, .inl ⟨SqL.of (b.sub _ _ h1), SqL.of (b.sub _ _ k1), w _ r' _ F' H' a b c (jok_zip (SqL.of h1) h2 (SqL.of k1) k2)⟩⟩
  | [.tuple xs, .tuple ys], .cons (.tup h1 h2) (.cons (.tup k1 k2) .nil), a => exact ⟨_, _, _, _, rfl, .inr ⟨same_tup b.sub h1, same_tup b.sub k1, w _ r' _ F' H' a b c (jok_zipT h1 h2 k1 k2)⟩⟩
def lenD : D → (Nat → Prop) → Prop
  | .list ds, q => q ds.length
  | .tuple ds, q => q ds.length
  | .str z, q => z.length ≤ sizeLine ∧ q z.length
  | .dict [(.none, .list ds)], q => q ds.length
  | _, _ => False
def pLen : PN := fun xs q => match xs with
  | [x] => lenD x fun n => q (.int (n : Nat))
  | _ => False
theorem v_len : VCall K (fun xs H Q => ∃ x n, xs = [x] ∧ LenV K x H n ∧ Q (.int n) H) pLen := by
  intro F H xs ds q Q s p t h
  cases p with
  | nil => exact t.elim
  | cons p1 p2 =>
    cases p2 with
    | cons _ _ => exact t.elim
    | nil =>
      cases p1 with
      | lst h1 h2 => exact ⟨_, _, rfl, .inl ⟨_, SqL.of (s _ _ h1), h2.length.symm⟩, fin_flat s h (.int _) t⟩
      | tup h1 h2 => exact ⟨_, _, rfl, .inr ⟨_, same_tup s h1, h2.length.symm⟩, fin_flat s h (.int _) t⟩
      | str z => exact ⟨_, _, rfl, ⟨t.1, rfl⟩, fin_flat s h (.int _) t.2⟩
      | scr h1 h2 => exact ⟨_, _, rfl, .inl ⟨_, s.seq h1, h2.length.symm⟩, fin_flat s h (.int _) t⟩
      | dic h1 h2 =>
        cases h2 with
        | nil => exact t.elim
        | @cons k v ps d ds k1 k2 => cases k <;> exact t.elim
      | dit h1 hn h2 =>
        cases h2 with
        | nil => exact t.elim
        | cons _ _ _ _ => exact t.elim
      | _ => exact t.elim
def pAbs : PN := fun xs q => match xs with
  | [.int i] => q (.int (if i < 0 then -i else i))
  | _ => False
theorem v_abs : VCall K (fun xs H Q => ∃ i, xs = [.int i] ∧ Q (.int (if i < 0 then -i else i)) H) pAbs := by
  intro F H xs ds q Q s p t h
  match ds, p, t with
  | [.int i], .cons (.int _) .nil, t => exact ⟨i, rfl, fin_flat s h (.int _) t⟩
def pInt : PN := fun xs q => match xs with
  | [.int i] => q (.int i)
  | [.bool b] => q (.int (if b then 1 else 0))
  | _ => False
theorem v_int1 : VCall K (fun xs H Q => (∃ i, xs = [.int i] ∧ Q (.int i) H) ∨ ∃ k, xs = [.bl k] ∧ Q (.int (if k then 1 else 0)) H) pInt := by
  intro F H xs ds q Q s p t h
  match ds, p, t with
  | [.int i], .cons (.int _) .nil, t => exact .inl ⟨i, rfl, fin_flat s h (.int _) t⟩
  | [.bool b], .cons (.bl _) .nil, t => exact .inr ⟨b, rfl, fin_flat s h (.int _) t⟩
def pMax2 : PN := fun xs q => match xs with
  | [.int i, .int j] => q (.int (if j > i then j else i))
  | _ => False
theorem v_max2 : VCall K (fun xs H Q => ∃ i j, xs = [.int i, .int j] ∧ Q (.int (if j > i then j else i)) H) pMax2 := by
  intro F H xs ds q Q s p t h
  match ds, p, t with
  | [.int i, .int j], .cons (.int _) (.cons (.int _) .nil), t => exact ⟨i, j, rfl, fin_flat s h (.int _) t⟩
def pMin2 : PN := fun xs q => match xs with
  | [.int i, .int j] => q (.int (if j < i then j else i))
  | _ => False
theorem v_min2 : VCall K (fun xs H Q => ∃ i j, xs = [.int i, .int j] ∧ Q (.int (if j < i then j else i)) H) pMin2 := by
  intro F H xs ds q Q s p t h
  match ds, p, t with
  | [.int i, .int j], .cons (.int _) (.cons (.int _) .nil), t => exact ⟨i, j, rfl, fin_flat s h (.int _) t⟩
def pDvm : PN := fun xs q => match xs with
  | [.int i, .int j] => CDivP i j ∧ q (.tuple [.int (i / j), .int (i % j)])
  | _ => False
theorem CDivP.wide {i j : Int} (h : 0 < j) (h2 : j.natAbs.log2 < 9000) : CDivP i j := ⟨h, PyProof.noPylong_of_log2 h2⟩
theorem v_dvm : VCall K (fun xs H Q => ∃ i j, xs = [.int i, .int j] ∧ CDivP i j ∧ ∀ p, H p = none → Q (.ref p) (upd H p (.tup [.int (i / j), .int (i % j)]))) pDvm := by
  intro F H xs ds q Q s p t h
  match ds, p, t with
  | [.int i, .int j], .cons (.int _) (.cons (.int _) .nil), t =>
    refine ⟨i, j, rfl, t.1, fun p hp => ?_⟩
    have e := ext_new (o := .tup [.int (i / j), .int (i % j)]) s hp
    exact h _ _ _ _ t.2 e (.tup (.inl (.inl upd_same)) (.cons (.int _) (.cons (.int _) .nil)))
/-- list(x): one's own -/
def oList (te : DTE) : DTO := fun r q => te r fun d r1 => match d with
  | .list ds => q (.lst ds) r1
  | .tuple ds => q (.lst ds) r1
  | .dict [(.none, .list ds)] => q (.lst ds) r1
  | _ => False
theorem o_list {e : Expr} {te : DTE} {p pos : Pos} (he : DE X e te) (hg : Gl X "list") (hm : X.mg "list" = none) (hb : bootBuiltins "list" = some (.type "list"))
    (hst : starEach [e] X.env = (false, eval e X.env) :: starEach [] X.env := by rfl) (hpl : (backTo pos (starEach [] X.env)).any (·.1) = false := by rfl) : DO X (.Call (.Name "list" p) [e] [] pos) (oList te) := by
  refine ⟨fun W => pe_weak (pe_callTy call_list_of hg hm hb (pa_cons (he.run W) pa_nil hst) (by decide) (by decide) hst hpl) fun σ H Q h => ?_⟩
  obtain ⟨r, F, q, R, t, w⟩ := h
  refine ⟨r, F, _, R, t, fun d r1 v F1 H1 t1 R1 s1 p1 => ?_⟩
  have go : ∀ {a : Addr} {vs : List V} {ds : List D}, (SqL X.K H1 a vs ∨ SqT X.K H1 a vs) → RpAll X.K F1 vs ds → q (.lst ds) r1 → ∃ p ys, [V.ref a] = [V.ref p] ∧ (SqL X.K H1 p ys ∨ SqT X.K H1 p ys) ∧ ∀ l, H1 l = none → Q (.ref l) (upd H1 l (.lst ys)) := fun {a vs ds} h1 h2 t => by
    refine ⟨a, vs, rfl, h1, fun l hl => ?_⟩
    obtain ⟨R4, f4, h4, ap⟩ := rel_newH (o := .lst vs) R1 hl
    exact w _ r1 l _ F1 _ t R4 s1 upd_same f4 ⟨_, rfl, h2⟩ h4 ap
  cases p1 with
  | lst h1 h2 => exact go (.inl (SqL.of (R1.sub _ _ h1))) h2 t1
  | tup h1 h2 => exact go (.inr (same_tup R1.sub h1)) h2 t1
  | scr h1 h2 => exact go (.inl (R1.sub.seq h1)) h2 t1
  | dic h1 h2 =>
    cases h2 with
    | nil => exact t1.elim
    | @cons k v ps d ds k1 k2 => cases k <;> exact t1.elim
  | dit h1 hn h2 =>
    cases h2 with
    | nil => exact t1.elim
    | cons _ _ _ _ => exact t1.elim
  | _ => exact t1.elim
def pAny : PN := fun xs q => match xs with
  | [.list ds] => ∃ bs : List Bool, ds = bs.map PyData.bool ∧ q (.bool (bs.any id))
  | _ => False
def pAll : PN := fun xs q => match xs with
  | [.list ds] => ∃ bs : List Bool, ds = bs.map PyData.bool ∧ q (.bool (bs.all id))
  | _ => False
theorem RpAll.ofBools {F : Hp} : ∀ {bs : List Bool} {vs : List V}, RpAll K F vs (bs.map PyData.bool) → vs = bs.map V.bl
  | [], _, h => by cases h; rfl
  | n :: ns, _, h => by
    cases h with
    | cons h1 h2 =>
      cases h1
      rw [RpAll.ofBools h2]
      rfl
theorem v_any : VCall K (rAny K) pAny := by
  intro F H xs ds q Q s p t h
  match ds, p, t with
  | [.list es], .cons (@Rp.lst _ _ a vs _ h1 h2) .nil, ⟨bs, e, t⟩ =>
    subst e
    exact ⟨a, bs, rfl, by rw [← RpAll.ofBools h2]; exact SqL.of (s _ _ h1), fin_flat s h (.bl _) t⟩
theorem v_all : VCall K (rAll K) pAll := by
  intro F H xs ds q Q s p t h
  match ds, p, t with
  | [.list es], .cons (@Rp.lst _ _ a vs _ h1 h2) .nil, ⟨bs, e, t⟩ =>
    subst e
    exact ⟨a, bs, rfl, by rw [← RpAll.ofBools h2]; exact SqL.of (s _ _ h1), fin_flat s h (.bl _) t⟩
def rSumA (K : PySem.W.Frag) : List V → Hp → VK → Prop := fun vs H Q => ∃ (a : Addr) (ns : List Int), vs = [V.ref a] ∧ (SqL K H a (ns.map V.int) ∨ SqT K H a (ns.map V.int)) ∧ Q (.int ns.sum) H
theorem cr_sumA (hc : X.calm = true) : CallR X (.builtin "sum") (rSumA X.K) := by
  intro pins s σ H vs us Q I r h
  obtain ⟨a, ns, rfl, hs | hs, q⟩ := h
  · exact cr_sum hc pins s σ H _ us Q I r ⟨a, ns, rfl, hs, q⟩
  · obtain ⟨its, rv, hl, _⟩ := I.tuple hs
    rw [Vals.ref1 r]
    have hi := rv.ints
    obtain ⟨xs, e⟩ := hi.allInts.items
    have hn : numsOf (intItems xs).toList = ns := by rw [← e]; exact hi.numsOf
    rw [nums_intItems] at hn
    have hl' : s.heap.IsTuple a (intItems xs) := by rw [← e]; exact hl
    refine PySem.W.ktm_sumG (I.ok.hd hc) hl' fun h' tk t' hk => ?_
    rw [preSum_eq, List.take_of_length_le (by simp), hn]
    exact ⟨.int _, H, I.kept hk, ⟨_, rfl⟩, q⟩
def pSum : PN := fun xs q => match xs with
  | [.list ds] => ∃ ns : List Int, ds = ns.map PyData.int ∧ q (.int ns.sum)
  | [.tuple ds] => ∃ ns : List Int, ds = ns.map PyData.int ∧ q (.int ns.sum)
  | _ => False
theorem v_sum : VCall K (rSumA K) pSum := by
  intro F H xs ds q Q s p t h
  match ds, p, t with
  | [.list es], .cons (@Rp.lst _ _ a vs _ h1 h2) .nil, ⟨ns, e, t⟩ =>
    subst e
    exact ⟨a, ns, rfl, .inl (by rw [← RpAll.ofInts h2]; exact SqL.of (s _ _ h1)), fin_flat s h (.int _) t⟩
  | [.tuple es], .cons (@Rp.tup _ _ a vs _ h1 h2) .nil, ⟨ns, e, t⟩ =>
    subst e
    exact ⟨a, ns, rfl, .inr (by rw [← RpAll.ofInts h2]; exact same_tup s h1), fin_flat s h (.int _) t⟩
def typeD : D → String
  | .none => "NoneType"
  | .bool _ => "bool"
  | .int _ => "int"
  | .str _ => "str"
  | .list _ => "list"
  | .tuple _ => "tuple"
  | .dict _ => "dict"
inductive Ty where
  | int | bool | str | list | tuple
def Ty.name : Ty → String
  | .int => "int"
  | .bool => "bool"
  | .str => "str"
  | .list => "list"
  | .tuple => "tuple"
def isTy : Ty → D → Bool
  | .int, .int _ => true
  | .int, .bool _ => true
  | .bool, .bool _ => true
  | .str, .str _ => true
  | .list, .list _ => true
  | .tuple, .tuple _ => true
  | _, _ => false
theorem kit_pairs : kitB "NoneType" "int" = some false ∧ kitB "bool" "int" = some true ∧ kitB "int" "int" = some true ∧ kitB "str" "int" = some false ∧ kitB "list" "int" = some false ∧ kitB "tuple" "int" = some false ∧ kitB "NoneType" "bool" = some false ∧ kitB "bool" "bool" = some true ∧ kitB "int" "bool" = some false ∧ kitB "str" "bool" = some false ∧ kitB "list" "bool" = some false ∧ kitB "tuple" "bool" = some false ∧ kitB "NoneType" "str" = some false ∧ kitB "bool" "str" = some false ∧ kitB "int" "str" = some false ∧ kitB "str" "str" = some true ∧ kitB "list" "str" = some false ∧ kitB "tuple" "str" = some false ∧ kitB "NoneType" "list" = some false ∧ kitB "bool" "list" = some false ∧ kitB "int" "list" = some false ∧ kitB "str" "list" = some false ∧ kitB "list" "list" = some true ∧ kitB "tuple" "list" = some false ∧ kitB "NoneType" "tuple" = some false ∧ kitB "bool" "tuple" = some false ∧ kitB "int" "tuple" = some false ∧ kitB "str" "tuple" = some false ∧ kitB "list" "tuple" = some false ∧ kitB "tuple" "tuple" = some true := by
  refine ⟨?_, ?_, ?_, ?_, ?_, ?_, ?_, ?_, ?_, ?_, ?_, ?_, ?_, ?_, ?_, ?_, ?_, ?_, ?_, ?_, ?_, ?_, ?_, ?_, ?_, ?_, ?_, ?_, ?_, ?_⟩ <;> decide +kernel
theorem kitB_ty (T : Ty) (d : D) (h : ∀ x, d ≠ .dict x) : kitB (typeD d) T.name = some (isTy T d) := by
  obtain ⟨k0, k1, k2, k3, k4, k5, k6, k7, k8, k9, k10, k11, k12, k13, k14, k15, k16, k17, k18, k19, k20, k21, k22, k23, k24, k25, k26, k27, k28, k29⟩ := kit_pairs
  cases T <;> cases d <;> first | exact absurd rfl (h _) | exact k0 | exact k1 | exact k2 | exact k3 | exact k4 | exact k5 | exact k6 | exact k7 | exact k8 | exact k9 | exact k10 | exact k11 | exact k12 | exact k13 | exact k14 | exact k15 | exact k16 | exact k17 | exact k18 | exact k19 | exact k20 | exact k21 | exact k22 | exact k23 | exact k24 | exact k25 | exact k26 | exact k27 | exact k28 | exact k29
theorem tyx_of {F H : Hp} {v : V} {d : D} (s : Same F H) (p : Rp K F v d) (h : ∀ x, d ≠ .dict x) : TyX K H v (.type (typeD d)) := by
  cases p with
  | non => exact .base .non
  | bl b => exact .base (.bl b)
  | int i => exact .base (.int i)
  | str z => exact .base (.str z)
  | lst h1 h2 => exact .base (.lst (s _ _ h1))
  | tup h1 h2 =>
    rcases h1 with (h1 | ⟨o, h1⟩) | ⟨o, its, n, e1, e2, _⟩
    · exact .base (.tup (s _ _ h1))
    · exact .fTuple (s _ _ h1)
    · exact .kTuple e1 e2
  | scr _ _ => exact absurd rfl (h _)
  | dic _ _ => exact absurd rfl (h _)
  | exc _ _ => exact absurd rfl (h _)
  | exn _ _ _ => exact absurd rfl (h _)
  | tgt _ _ => exact absurd rfl (h _)
  | dit _ _ _ => exact absurd rfl (h _)
  | ptr _ => exact absurd rfl (h _)
def notDict : D → Bool
  | .dict _ => false
  | _ => true
theorem notDict_ne {d : D} (h : notDict d = true) : ∀ x, d ≠ .dict x := fun x e => by subst e; cases h
def eIsi (T : Ty) (te : DTE) : DTE := fun r q => te r fun d r1 => notDict d = true ∧ q (.bool (isTy T d)) r1
theorem d_isi (T : Ty) {x : Str} {e : Expr} {te : DTE} {p p2 pos : Pos} (he : DE X e te) (hg : Gl X "isinstance") (hm : X.mg "isinstance" = none) (hb : bootBuiltins "isinstance" = some (.builtin "isinstance"))
    (hg2 : Gl X x) (hm2 : X.mg x = none) (hb2 : bootBuiltins x = some (.type T.name)) (hn : x ≠ "__name__") (hdb : (x == ("__debug__" : Str)) = false)
    (hst : starEach [e, .Name x p2] X.env = (false, eval e X.env) :: starEach [.Name x p2] X.env := by rfl) (hst2 : starEach [.Name x p2] X.env = (false, eval (.Name x p2) X.env) :: starEach [] X.env := by rfl) (hpl : (backTo pos (starEach [.Name x p2] X.env)).any (·.1) = false := by rfl) :
    DE X (.Call (.Name "isinstance" p) [e, .Name x p2] [] pos) (eIsi T te) := by
  refine ⟨fun W => pe_weak (pe_callB call_isi hg hm hb (pa_cons (he.run W) (pa_cons (pe_bltn (v := .ty T.name) hg2 hm2 hb2 rfl hn hdb) pa_nil hst2) hst) (by decide) (by decide) hst hpl) fun σ H Q h => ?_⟩
  obtain ⟨r, F, q, R, t, w⟩ := h
  refine ⟨r, F, _, R, t, fun d r1 v F1 H1 t1 R1 s1 p1 => ?_⟩
  exact ⟨v, .ty T.name, .type (typeD d), .type T.name, _, rfl, .ty _, tyx_of R1.sub p1 (notDict_ne t1.1), kit_ty (kitB_ty T d (notDict_ne t1.1)), w _ r1 _ F1 H1 t1.2 R1 s1 (.bl _)⟩
def VMut (r : V → List V → Hp → VK → Prop) (p : List D → List D → (D → List D → Prop) → Prop) : Prop :=
  ∀ (K : PySem.W.Frag) F H a vs ds xs es (q : D → List D → Prop) Q, Same F H → H a = some (.lst vs) → F a = none → RpAll K F vs ds → RpAll K F xs es → p ds es q →
    (∀ d ds' v vs', q d ds' → RpAll K F vs' ds' → Rp K F v d → Q v (upd H a (.lst vs'))) → r (.ref a) xs H Q
def eMut (i : Nat) (p : List D → List D → (D → List D → Prop) → Prop) (ta : DTA) : DTE := fun r q => mutAt r i = true ∧ ta r fun es r1 => match dat r1 i with
  | some (.own (.lst ds)) => p ds es fun d ds' => q d (dput r1 i (some (.own (.lst ds'))))
  | some (.io (.lst ds)) => p ds es fun d ds' => q d (dput r1 i (some (.io (.lst ds'))))
  | _ => False
def lstAt (r : DSt) (i : Nat) : Bool := match dat r i with
  | some (.own (.lst _)) => true
  | some (.io (.lst _)) => true
  | _ => false
def eMutL (i : Nat) (p : List D → List D → (D → List D → Prop) → Prop) (ta : DTA) : DTE := fun r q => lstAt r i = true ∧ eMut i p ta r q
theorem d_mut (i : Nat) {x name : Str} {id : String} {e : Expr} {es : List Expr} {rr : V → List V → Hp → VK → Prop} {pp : List D → List D → (D → List D → Prop) → Prop} {ta : DTA} {p apos cpos : Pos} (slot : Slot "list" name id) (hty : typeOf (.builtin id) = pure (.type "method_descriptor")) (hm : MtR X id rr) (hv : VMut rr pp) (ha : DA X (e :: es) ta)
    (hN : X.N[i]? = some x := by rfl) (hvis : Vis X.env.scope x := by first | exact Or.inl rfl | exact Or.inr (Or.inl rfl) | exact Or.inr (Or.inr rfl)) (hd : (x == ("__debug__" : Str)) = false := by decide) (hcd : (x == ("__classdict__" : Str)) = false := by decide)
    (hpe : ∀ (W : Wd), PE X (.Call (.Attribute (.Name x p) name apos) (e :: es) [] cpos) (tBM X.K "list" rr (tVar i) (liftA X.K W ta))) :
    DE X (.Call (.Attribute (.Name x p) name apos) (e :: es) [] cpos) (eMutL i pp ta) := by
  refine ⟨fun W => pe_weak (hpe W) fun σ H Q h => ?_⟩
  obtain ⟨r, F, q, R, ⟨hl, hm1, t⟩, w⟩ := h
  obtain ⟨m, io, a, e0, e1⟩ := mutAt_get R hm1
  have ty : tyV X.K "list" (.ref a) H := by
    unfold lstAt at hl
    split at hl
    · rename_i ds z
      obtain ⟨a', vs, k1, k2, _⟩ := slot_list R (.inl z)
      rw [e1] at k1; cases k1
      exact .inl ⟨rfl, vs, SqL.of k2⟩
    · rename_i ds z
      obtain ⟨a', vs, k1, k2, _⟩ := slot_list R (.inr z)
      rw [e1] at k1; cases k1
      exact .inl ⟨rfl, vs, SqL.of k2⟩
    · cases hl
  refine ⟨_, e1, ty, r, F, _, R, t, fun es' r1 vs F1 H1 t1 R1 s1 p1 => ?_⟩
  have go : ∀ {io : Bool} {ds : List D}, dat r1 i = some (isMut (.lst ds) io) → (pp ds es' fun d ds' => q d (dput r1 i (some (isMut (.lst ds') io)))) → rr (.ref a) vs H1 Q := fun {io ds} z t2 => by
    obtain ⟨a', o, k1, k2, ⟨ws, rfl, k3⟩, k4, k5⟩ := R1.mut z
    rw [e1] at k1; cases k1
    exact hv X.K F1 H1 a ws ds vs es' _ Q R1.sub k2 k4 k3 p1 t2 fun d ds' v vs' qd pa pv => w d _ v F1 _ qd (k5 (.lst vs') (.lst ds') ⟨vs', rfl, pa⟩) s1 pv
  split at t1
  · rename_i ds z; exact go (io := false) z t1
  · rename_i ds z; exact go (io := true) z t1
  · exact t1.elim
end
end DL
end
section
set_option Elab.async false
set_option linter.all false
set_option maxRecDepth 100000
namespace DL
open PySem PySem.Spec PyProof.Rows L2
/-- the script, as a law's def gets it -/
def scrD (ns : List Int) : D := .dict [(.none, .list (ns.map PyData.int))]
def spLaw : DSp := fun cs post => ∃ ns : List Int, cs = [.sh (scrD ns)] ∧ ns.length ≤ 63 ∧ (∀ n ∈ ns, Builtin.Int.intBits n ≤ 1048576) ∧ post (.sh (.bool true)) []
theorem start_sp {K : PySem.W.Frag} {H : Hp} {a : Addr} {ns : List Int} (hs : SqL K H a (ns.map V.int)) (hl : ns.length ≤ 63) (hb : ∀ n ∈ ns, Builtin.Int.intBits n ≤ 1048576) :
    liftSp K 1 spLaw [.ref a] H (fun v _ => v = .bl true) fun _ _ _ => False := by
  have rp : Rp K H (.ref a) (scrD ns) := .scr hs (RpAll.ints ns)
  refine ⟨rfl, [.sh (scrD ns)], H, fun c o => c = .sh (.bool true), rfl, fun i m z => ?_, fun i m z => ?_, ⟨fun _ _ e => e, fun _ _ e => e, fun _ _ e _ => e, fun _ e => e, fun _ e => .inl e, fun i d e => ?_, fun i m e => ?_, fun i m e => ?_, fun i b e => ?_, fun i j m n b e1 => ?_, rfl, fun i g e => ?_⟩, ⟨ns, rfl, hl, hb, rfl⟩, fun c outs v F' H' q _ _ an => ?_⟩
  · match i, z with
    | 0, z => simp at z
    | i + 1, z => simp at z
  · match i, z with
    | 0, z => simp at z
    | i + 1, z => simp at z
  · match i, e with
    | 0, e =>
      have e' : some (Cell.sh (scrD ns)) = some (Cell.sh d) := e
      cases e'
      exact ⟨_, rfl, rp⟩
  · match i, e with
    | 0, e => cases e
  · match i, e with
    | 0, e => cases e
  · obtain ⟨⟨m, e⟩, _⟩ := e
    match i, e with
    | 0, e => cases e
  · match i, e1 with
    | 0, e1 => rcases e1 with e1 | e1 <;> cases e1
    | i + 1, e1 => rcases e1 with e1 | e1 <;> cases e1
  · match i, e with
    | 0, e => cases e
  · subst q
    cases an
    rfl
theorem law_run {P : Program} {w : World} {K : PySem.W.Frag} {mg mb : Str → Option Value} {k : Nat} {fa a : Addr} {s : Shared} {vals : List Value} {ns : List Int}
    (KX : K.In s.heap) (hns : s.heap.Ns mainGlobals mg) (hb : s.heap.Ns builtinsNs mb) (hbb : ∀ x : Str, x ≠ "__name__" → mb x = bootBuiltins x) (hlim : s.heap.NoLimit) (hgen : s.gens = #[])
    (ha : s.heap.get? a = some { cls := .type "list", data := .seq vals.toArray }) (hi : IntsAre vals ns) (hl : ns.length ≤ sizeLine) (hr : Room k callerA) (hm : mg "law" = some (.ref fa))
    (F : ∀ base : Heap, K.In base → base.Ns mainGlobals mg → Def P w K mg base k "law" 1 spLaw)
    (hsp : ∀ H : Hp, SqL K H a (ns.map V.int) → liftSp K 1 spLaw [.ref a] H (fun v _ => v = .bl true) fun _ _ _ => False) :
    codeAny (model P w) callerA (.call (.ref fa) ⟨[.ref a], []⟩) (fun r s' => r = .ok (.ret (.bool true)) ∧ OldK s.heap s'.heap ∧ s'.os = s.os ∧ AllBare s'.gens) s := by
  have rv := vals_ints hi
  have lenV := hi.length
  -- from a heap in which at most the script is tracked
  have go : ∀ H : Hp, Only H → SqL K H a (ns.map V.int) → HOk P w H s.heap → (∀ b, H b ≠ none → b = a) → (H a ≠ none → K.lookup a = none) →
      codeAny (model P w) callerA (.call (.ref fa) ⟨[.ref a], []⟩) (fun r s' => r = .ok (.ret (.bool true)) ∧ OldK s.heap s'.heap ∧ s'.os = s.os ∧ AllBare s'.gens) s := by
    intro H only sq hok onlyA kA
    have dictFree : ∀ {b : Addr} {o : Obj} {es : Array DictEntry} {ep : Nat}, s.heap.get? b = some o → o.data = .dict es ep → H b = none := fun {b o es ep} e d => by
      cases q : H b with
      | none => rfl
      | some u =>
        obtain rfl := onlyA b (ne_none q)
        rw [ha] at e; cases e
        have d' : Data.seq vals.toArray _ = Data.dict es ep := d
        cases d'
    have nsKeep : ∀ {b : Addr} {m : Str → Option Value}, s.heap.Ns b m → (hidT s.heap H).Ns b m := fun {b m} ⟨o, es, ep, e, d, z⟩ => ⟨o, es, ep, hidT_get e (dictFree e d), d, z⟩
    have inB : K.In (hidT s.heap H) := fun b o e => hidT_get (KX b o e) (by
      cases q : H b with
      | none => rfl
      | some u =>
        obtain rfl := onlyA b (ne_none q)
        rw [kA (ne_none q)] at e; cases e)
    have mod : Mod K mg (hidT s.heap H) := ⟨inB, nsKeep hns, ⟨mb, nsKeep hb, hbb⟩, let ⟨mc, h1, h2⟩ := hlim; ⟨mc, nsKeep h1, h2⟩⟩
    have e0 : Env0 P w K mg (hidT s.heap H) callerA [] s H := ⟨rfl, mod, fun b o e => of_hidT e, Nat.le_of_eq (hidT_size _ _), trivial, fun b hb => absurd (show b ∈ ([] : List Addr) from hb) (by simp), hok, .of_eq hgen⟩
    obtain ⟨f, fd, ps, G, hf, _, bi⟩ := (F _ inB (nsKeep hns)).ex
    rw [hm] at hf
    cases hf
    have hlen := G.len _ _ _ _ (hsp H sq)
    have bd : BindsTo s fd ⟨[.ref a], []⟩ (ps.zip ([.ref a] ++ [])) := bi s [.ref a] KX hlen
    refine codeAny_mono (G.run callerA [] s H ⟨[.ref a], []⟩ [.ref a] [.ref a] _ _ hr rfl e0 bd (.cons rfl .nil) (hsp H sq)) fun r s' out => ?_
    cases r with
    | error e => exact False.elim out
    | ok fl =>
      cases fl with
      | next => exact False.elim out
      | brk => exact False.elim out
      | cont => exact False.elim out
      | ret u =>
        obtain ⟨v, H', os, bare, un, hok', rel, q⟩ := out
        have q' : v = .bl true := q
        subst q'
        obtain rfl : u = Value.bool true := rel
        refine ⟨rfl, OldK.of_keep fun b o e => ?_, os, bare⟩
        cases z : H b with
        | none => exact un.keep b o e z (fun y => absurd (show b ∈ ([] : List Addr) from y) (by simp)) (by simp)
        | some u =>
          rcases only b with y | ⟨ob, xs, y⟩
          · rw [z] at y; cases y
          · have y2 := un.frzs b ob _ y
            obtain ⟨f1, _⟩ := hok b _ y
            obtain ⟨f2, _⟩ := hok' b _ y2
            rw [e] at f1; cases f1
            exact f2
  cases hk : K.lookup a with
  | some o =>
    have e := KX a o hk
    rw [ha] at e
    cases e
    exact go (fun _ => none) (fun _ => .inl rfl) (.inr ⟨_, vals.toArray, _, hk, rfl, rfl, rfl, by rw [List.size_toArray, lenV]; exact hl, by simpa using rv⟩) (fun b u z => by have z' : (none : Option HO) = some u := z; cases z') (fun b z => absurd rfl z) fun z => absurd rfl z
  | none =>
    have at_a : ∀ {b : Addr} {u : HO}, (if b = a then some (HO.frz { cls := .type "list", data := .seq vals.toArray } (.lst (ns.map V.int))) else none) = some u → b = a ∧ u = HO.frz { cls := .type "list", data := .seq vals.toArray } (.lst (ns.map V.int)) := fun {b u} z => by
      by_cases hb : b = a
      · rw [if_pos hb] at z; cases z; exact ⟨hb, rfl⟩
      · rw [if_neg hb] at z; cases z
    refine go (fun b => if b = a then some (.frz { cls := .type "list", data := .seq vals.toArray } (.lst (ns.map V.int))) else none) (fun b => ?_) (.inl (.inr ⟨_, if_pos rfl⟩)) (fun b u z => ?_) (fun b z => ?_) fun _ => hk
    · by_cases hb : b = a
      · exact .inr ⟨_, _, if_pos hb⟩
      · exact .inl (if_neg hb)
    · obtain ⟨rfl, rfl⟩ := at_a z
      exact ⟨ha, by rw [List.length_map]; exact hl, vals, _, rv, ha⟩
    · obtain ⟨u, z⟩ := some_of z
      exact (at_a z).1
/-- THE END: the goal that k_head leaves, from the law's promise over every base -/
theorem law_end {l : PySem.W.OpenLaw} {k : Nat} {q : Program} {loose : List Str} {XP : (Str → Option Value) → Heap → Prop} {YP : World → Heap → Prop} {d : DefRec} {K : Params → PySem.W.Frag}
    (hn : l.most = some 63) (hdf : d.params.defaults = []) (hr : Room k callerA) (hname : d.name = "law")
    (hY : ∀ (w : World) (h : Heap), YP w h → (K w.params).In h)
    (F : ∀ (w : World) (mg : Str → Option Value) (h : Heap), (K w.params).In h → h.Ns mainGlobals mg → ∀ base : Heap, (K w.params).In base → base.Ns mainGlobals mg → Def l.prog w (K w.params) mg base k "law" 1 spLaw) :
    PySem.W.WalkO q loose XP YP l.row.toRowW d [] (fun f vs => PySem.call f vs) := by
  refine Att.attach_callB hn hdf fun w s0 s1 mg mb fa o pm cd doc a vs ns G Y ho hd hcd hmg hobj hints hlen hbits hg => ?_
  rw [hname] at hmg
  exact law_run (hY w _ Y) G.T.g G.T.b G.T.builtins G.T.nolimit hg hobj hints (Nat.le_trans hlen (by decide)) hr hmg (F w mg _ (hY w _ Y) G.T.g) fun H hS => start_sp hS hlen hbits
/-- a def as the head's facts tell it -/
theorem is_mk {K : PySem.W.Frag} {h : Heap} {mg : Str → Option Value} {x : Str} {st : Stmt} {ps : List Str} (X : K.In h) (G : h.Ns mainGlobals mg) {f : Addr} {oc : Value} {od an : Option Addr} {osl : Array (Option Value)} {kV doc pm cdv ct : Value}
    (a : PySem.W.nsIn K mainGlobals x = some (some (.ref f))) (l : K.lookup f = some ⟨oc, od, .func (PySem.W.fnOf x x (defArgs st) (defBody st) (defScope st) .none kV doc pm an cdv ct), osl⟩) (c : PySem.W.codeIn K cdv x = true) (k : PySem.W.keepIn K (.ref f) = true)
    (hb : ∀ (kV doc pm : Value) (an : Option Addr) (cdv ct : Value) (us : List Value), us.length = ps.length → bindArgs (PySem.W.fnOf x x (defArgs st) (defBody st) (defScope st) .none kV doc pm an cdv ct) ⟨us, []⟩ = pure (ps.zip us)) : Is K mg x st ps :=
  ⟨f, _, fun_mk l c k, PySem.W.mg_of X G a, (fun_mk l c k).binds hb⟩
end DL
namespace DL
end DL
end
section
set_option Elab.async false
set_option linter.all false
set_option maxRecDepth 100000
namespace DL
open PySem PySem.Spec PyProof.Rows L2
def iAnyV (K : PySem.W.Frag) (tl : TE) : TI := fun σ H R => tl σ H fun x H1 => (∃ a, x = .ref a ∧ (∃ xs, SqL K H1 a xs) ∧ R (Itl K a) H1) ∨ (∃ a, x = .ref a ∧ (∃ xs, SqT K H1 a xs) ∧ R (Itt K a) H1) ∨ ∃ z, x = .str z ∧ R (Its z) H1
def iAny (te : DTE) : DTI := fun r q => te r fun d r1 => match d with
  | .list ds => q ds r1
  | .tuple ds => q ds r1
  | .str z => q (signsD z) r1
  | _ => False
section
variable {X : Cx} {tg : Expr}
theorem pi_any {l : Expr} {tl : TE} (hl : PE X l tl) : PI X tg l (iAnyV X.K tl) := by
  -- each kind by its own rule, over a reading that keeps just this kind
  refine ⟨fun pins s σ H R I h => ?_⟩
  refine thn (hl.run pins s σ H _ I h) fun v s1 ⟨x, H1, I1, r1, q⟩ => ?_
  rcases q with ⟨a, rfl, ⟨xs, hq⟩, q⟩ | ⟨a, rfl, ⟨xs, hq⟩, q⟩ | ⟨z, rfl, q⟩
  · cases r1
    obtain ⟨its, rv, p, hz⟩ := I1.list hq
    refine wpAny_pyIter_list p.isList ⟨s1.heap.objs.size, [s1.heap.objs.size], _, _, H1, rfl, I1.kept (t' := s1.toks) fun b o e => Heap.get?_push_of_some _ e, turn_list a _, ⟨_, Heap.get?_push_size _ rfl, rfl, rfl⟩, fun b hb => ?_, q⟩
    obtain rfl : b = s1.heap.objs.size := by simpa using hb
    exact I1.fpOk (Nat.le_refl _) (I1.hok.fresh (Nat.le_refl _))
  · cases r1
    obtain ⟨its, rv, p, hz⟩ := I1.tuple hq
    refine wpAny_pyIter_tuple (show s1.heap.IsTuple a its.toArray from p) ⟨s1.heap.objs.size, [s1.heap.objs.size], _, _, H1, rfl, I1.kept (t' := s1.toks) fun b o e => Heap.get?_push_of_some _ e, turn_tuple a _, ⟨_, Heap.get?_push_size _ rfl, rfl, rfl⟩, fun b hb => ?_, q⟩
    obtain rfl : b = s1.heap.objs.size := by simpa using hb
    exact I1.fpOk (Nat.le_refl _) (I1.hok.fresh (Nat.le_refl _))
  · obtain ⟨t, rfl⟩ := r1
    cases ha : z.cps.all (· < 128)
    · exact wpAny_pyIter_wide ha (pi_one (tk := s1.toks) I1 _ (turn_str _ z t "str_iterator" (.inr rfl)) ⟨_, Heap.get?_push_size _ rfl, rfl, rfl⟩ q)
    · exact wpAny_pyIter_ascii ha (pi_one (tk := s1.toks) I1 _ (turn_str _ z t "str_ascii_iterator" (.inl rfl)) ⟨_, Heap.get?_push_size _ rfl, rfl, rfl⟩ q)
theorem di_any {l : Expr} {te : DTE} (h : DE X l te) : DI X tg l (iAny te) := by
  refine ⟨fun W => pi_weak (pi_any (h.run W)) fun σ H Q h => ?_⟩
  obtain ⟨r, F, q, R, t, w⟩ := h
  refine ⟨r, F, _, R, t, fun d r' v F' H' a b c p => ?_⟩
  cases p with
  | lst h1 h2 => exact .inl ⟨_, rfl, ⟨_, SqL.of (b.sub _ _ h1)⟩, w _ r' _ F' H' a b c (jok_list (SqL.of h1) h2)⟩
  | tup h1 h2 => exact .inr (.inl ⟨_, rfl, ⟨_, same_tup b.sub h1⟩, w _ r' _ F' H' a b c (jok_tup h1 h2)⟩)
  | str z => exact .inr (.inr ⟨z, rfl, w _ r' _ F' H' a b c (jok_str z)⟩)
  | _ => exact a.elim
def eLenV (i : Nat) : DTE := fun r q => match dat r i with
  | some (.sh d) => lenD d fun n => q (.int (n : Nat)) r
  | some (.own (.lst ds)) => q (.int (ds.length : Nat)) r
  | some (.io (.lst ds)) => q (.int (ds.length : Nat)) r
  | _ => False
theorem d_lenv (i : Nat) {x : Str} {pp p pos : Pos} (hg : Gl X "len") (hm : X.mg "len" = none) (hN : X.N[i]? = some x := by rfl) (hv : Vis X.env.scope x := by first | exact Or.inl rfl | exact Or.inr (Or.inl rfl) | exact Or.inr (Or.inr rfl)) (hd : (x == ("__debug__" : Str)) = false := by decide)
    (hcd : (x == ("__classdict__" : Str)) = false := by decide) (hst : starEach [.Name x p] X.env = (false, eval (.Name x p) X.env) :: starEach [] X.env := by rfl) (hpl : (backTo pos (starEach [] X.env)).any (·.1) = false := by rfl) :
    DE X (.Call (.Name "len" pp) [.Name x p] [] pos) (eLenV i) := by
  refine ⟨fun W => pe_weak (pe_callB call_len hg hm PySem.boot_len (pa_cons (pe_var hN hv hd hcd) pa_nil hst) (by decide) (by decide) hst hpl) fun σ H Q h => ?_⟩
  obtain ⟨r, F, q, R, t, w⟩ := h
  unfold eLenV at t
  split at t
  · rename_i d e
    obtain ⟨v, e1, e2⟩ := R.sh i d e
    exact ⟨v, e1, v_len F H [v] [d] (fun y => q y r) Q R.sub (.cons e2 .nil) t fun y z F' H' qy ex rp => w y r z F' H' qy (R.ext ex) ex.f rp⟩
  · rename_i ds e
    obtain ⟨a, vs, h1, h2, h3, h4⟩ := slot_list R (.inl e)
    refine ⟨_, h1, _, vs.length, rfl, .inl ⟨vs, SqL.of h2, rfl⟩, ?_⟩
    rw [h4.length]
    exact w _ r _ F H t R (Same.refl _) (.int _)
  · rename_i ds e
    obtain ⟨a, vs, h1, h2, h3, h4⟩ := slot_list R (.inr e)
    refine ⟨_, h1, _, vs.length, rfl, .inl ⟨vs, SqL.of h2, rfl⟩, ?_⟩
    rw [h4.length]
    exact w _ r _ F H t R (Same.refl _) (.int _)
  · exact t.elim
end
end DL
end
section
set_option Elab.async false
set_option linter.all false
set_option maxRecDepth 100000
set_option maxHeartbeats 1000000
namespace DL
open PySem PySem.Spec PyProof.Rows L2
def sBad : DTS := fun _ _ => False
section
variable {X : Cx}
theorem ds_bad {st : Stmt} : DS X st sBad := by
  refine ⟨fun W => ⟨fun pins s σ H D I h => ?_⟩⟩
  obtain ⟨r, F, q, R, t, w⟩ := h
  exact t.elim
end
end DL
end
section
set_option Elab.async false
set_option linter.all false
set_option maxRecDepth 100000
set_option maxHeartbeats 1000000
namespace DL
open PySem PySem.Spec PyProof.Rows L2
open Sem (wp)
theorem new_enumB {v : Value} {o : Obj} {G : Heap → Prop} (B : Begins v o G) : Meets (Builtin.«enumerate.__new__» ⟨[.type "enumerate", v], []⟩) (fun _ R s => G s.heap ∧
    R (.ok (.ret (.ref (s.heap.push o).objs.size))) { s with heap := (s.heap.push o).push { cls := .type "enumerate", data := .fields #[.none, .bool false, .ref s.heap.objs.size, rawInt 0, .none, .none] } }) :=
  .of_wp fun prog w A R s h => by
    obtain ⟨hp, g, dd, tk, os⟩ := s
    obtain ⟨hl, h⟩ := h
    have kk := sub_enumerate
    have itr : ∀ {A' : Around} {E' : Value → Shared → Prop} {Q' : Value → Shared → Prop}, Q' (.ref hp.objs.size) ⟨hp.push o, g, dd, tk, os⟩ → wpAny (model prog w) A' (pyIter v) Q' E' ⟨hp, g, dd, tk, os⟩ := fun q => B.iter prog w _ _ ⟨hp, g, dd, tk, os⟩ _ hl q
    wp_walk using itr
    refine wpAny_stack_any (fun stk => wpAny_pure ?_); split
    · rename_i c _ _ _ _ _
      cases (c == Value.type "enumerate") <;> (wp_walk using itr; exact ⟨_, rfl, h⟩)
    · wp_walk using itr; exact ⟨_, rfl, h⟩
theorem call_enumB {prog : Program} {w : World} {A : Around} {E : Value → Shared → Prop} {s : Shared} {v : Value} {o : Obj} {G : Heap → Prop} {Q : Value → Shared → Prop} (B : Begins v o G) (h1 : G s.heap)
    (h : ∀ h', IsEnum h' (s.heap.objs.size + 1) s.heap.objs.size 0 .none → h'.get? s.heap.objs.size = some o → h'.objs.size = s.heap.objs.size + 2 → (∀ b u, s.heap.get? b = some u → h'.get? b = some u) → Q (.ref (s.heap.objs.size + 1)) { s with heap := h' }) :
    wpAny (model prog w) A (call (.type "enumerate") [v]) Q E s := by
  refine callType_new PySem.F.called_enumerate (by decide) (PySem.F.typeCall_enumerate_1 _) (PySem.F.newCall_enumerate_1 _) (fun ob => PySem.F.args_object_init_2 ob _) PySem.F.entry_enumerate_new (new_enumB B) ⟨h1, ?_⟩
  have hz : (s.heap.push o).objs.size = s.heap.objs.size + 1 := Heap.size_push .. 
  show _ ∧ _; rw [hz]
  have he := Heap.get?_push_size (s.heap.push o) (o := { cls := .type "enumerate", data := .fields #[.none, .bool false, .ref s.heap.objs.size, rawInt 0, .none, .none] }) rfl
  rw [hz] at he
  exact ⟨⟨_, he, rfl⟩, h _ he (Heap.get?_push_of_some _ (Heap.get?_push_size _ B.free)) (by rw [Heap.size_push, hz]) fun b u x => Heap.get?_push_of_some _ (Heap.get?_push_of_some _ x)⟩
/-- the tuple at a as it stands at each turn, each item in a new pair -/
def IteT (K : PySem.W.Frag) (a : Addr) : It :=
  ⟨fun i H => ∃ (vs : List V) (x : V), SqT K H a vs ∧ vs[i]? = some x, fun i H v H' => ∃ T x, v = .ref T ∧ H T = none ∧ H' = upd H T (.tup [.int (i : Nat), x]) ∧ ∀ vs, SqT K H a vs → vs[i]? = some x, fun i H => ∃ vs : List V, SqT K H a vs ∧ vs.length ≤ i⟩
theorem turn_enumT {P : Program} {w : World} {K : PySem.W.Frag} {elts : List Expr} {kk : Nat} {tpos : Pos} (a e it : Addr) :
    Turn P w K (.Tuple elts kk tpos) (IteT K a) [e, it] e (fun i h => (∃ old, IsEnum h e it ((i : Nat) : Int) old) ∧ h.IsTupleIter it a i ∧ e ≠ it ∧ e ≠ a ∧ a ≠ it) where
  mem := by simp
  obj := fun i h st b hb => by
    obtain ⟨⟨old, he⟩, ⟨o, ho, hc, hd⟩, _⟩ := st
    rcases (by simpa using hb : b = e ∨ b = it) with z | z
    · rw [z]; exact ⟨_, he, fun v q => nomatch q⟩
    · rw [z]; exact ⟨o, ho, fun v q => by rw [hd] at q; cases q⟩
  keep := fun i h h' st k => let ⟨⟨old, he⟩, hi, hr⟩ := st; ⟨⟨old, k e (by simp) _ he⟩, hi.at fun o q => k it (by simp) o q, hr⟩
  item := by
    intro X hP hw hK hc i pins s σ H E I hf st hg
    subst hP hw hK
    obtain ⟨⟨old, he⟩, hit, hne, hea, hai⟩ := st
    obtain ⟨vs, x, hq, hx⟩ := hg
    obtain ⟨its, rv, p, hz⟩ := I.tuple hq
    obtain ⟨u, hu, ru⟩ := rv.get hx
    have hel : e < s.heap.objs.size := Heap.lt_size he
    have hil : it < s.heap.objs.size := by obtain ⟨_, q, _⟩ := hit; exact Heap.lt_size q
    have hlt : i < its.toArray.size := by have := (List.getElem?_eq_some_iff.1 hu).1; simpa using this
    refine wpAny_pyNext_enum_itemD (Draws.tuple (A := X.A.in1) (show X.A.in1.handled = none from I.ok.hd hc) it a hai its.toArray) he ⟨hit, p⟩ hlt hne (by simp [hne, hea]) fun y h' tk hy ho hst hT hsz hk => ?_
    have hy' : its[i]? = some y := by simpa using hy
    rw [hu] at hy'
    cases hy'
    refine ⟨_, rfl, wpAny_letOwnedTupleGo_enum (s := { s with heap := h', toks := tk + 1 }) ho fun h2 he' sb => ?_⟩
    have hT2 : h2.get? s.heap.objs.size = some { cls := .type "tuple", data := .seq #[.int i tk, u] } := (sb.2 _ (Nat.ne_of_gt hel)).trans hT
    have new : ObjOk X.prog X.w (upd H s.heap.objs.size (.tup [.int (i : Nat), x])) h2 s.heap.objs.size (.tup [.int (i : Nat), x]) := ⟨(by decide : 2 ≤ sizeLine), [.int i tk, u], .cons ⟨_, rfl⟩ (.cons ru .nil), ⟨_, hT2, rfl, _, rfl⟩⟩
    have I1 : Inv X pins σ (upd H s.heap.objs.size (.tup [.int (i : Nat), x])) { s with heap := h2, toks := tk + 1 } :=
      I.turnedNew (ch := [e, it]) (fun b ob hb q => (sb.2 b (fun z => hb (by simp [z]))).trans (hk b ob (fun z => hb (by simp [z])) (fun z => hb (by simp [z])) q)) hf (Nat.le_refl _) new
    refine ⟨.ref s.heap.objs.size, _, I1, rfl, ⟨_, x, rfl, I.hok.fresh (Nat.le_refl _), rfl, fun ys hy => by rw [I.tuple_inj hy hq]; exact hx⟩, ⟨⟨u, ?_⟩, hst.1.at fun o q => (sb.2 it (Ne.symm hne)).trans q, hne, hea, hai⟩, fun b hb => ?_⟩
    · rw [show ((i + 1 : Nat) : Int) = (i : Int) + 1 by omega]; exact he'
    · have hb' : b < s.heap.objs.size := by
        rcases (by simpa using hb : b = e ∨ b = it) with z | z
        · rw [z]; exact hel
        · rw [z]; exact hil
      rw [upd_ne (Nat.ne_of_lt hb')]; exact (hf b hb).1
  done := by
    intro X hP hw hK hc i pins s σ H E I hf st hg
    subst hP hw hK
    obtain ⟨⟨old, he⟩, hit, hne, hea, hai⟩ := st
    obtain ⟨vs, hq, hx⟩ := hg
    obtain ⟨its, rv, p, hz⟩ := I.tuple hq
    obtain ⟨f0, f1, f2, f3, f4, f5⟩ := hf it (by simp)
    have hl := rv.length
    have D : Draws X.prog X.w X.A.in1 it [it, a] i (fun _ _ => True) (fun j h => j = i ∧ h.IsTupleIter it a i ∧ h.IsTuple a its.toArray) := {
      live := fun _ _ st => let ⟨o, ho, _⟩ := st.2.1; ⟨o, ho⟩
      frame := fun _ _ _ st hk => ⟨st.1, st.2.1.at fun o e => hk it (by simp) o e, st.2.2.at fun o e => hk a (by simp) o e⟩
      item := fun j s Q E hj st _ => absurd st.1 (Nat.ne_of_lt hj)
      done := fun s Q E st hE => wpAny_nextOf_tuple_end (show X.A.in1.handled = none from I.ok.hd hc) st.2.1 st.2.2 (by simp; omega) hE }
    exact wpAny_pyNext_enum_endD D he ⟨rfl, hit, p⟩ fun h' eb => ⟨rfl, I.turned (t' := s.toks) (fun b o hb q => eb b o hb q) f0 f1 f3 f4 f5⟩
  self := fun A i s Q E st h => let ⟨⟨_, he⟩, _⟩ := st; wpAny_pyIter_enum he h
def iEnumA (K : PySem.W.Frag) (ta : TA) : TI := fun σ H R => ta σ H fun vs H1 => ∃ a xs, vs = [.ref a] ∧ ((SqL K H1 a xs ∧ R (Ite K a) H1) ∨ (SqT K H1 a xs ∧ R (IteT K a) H1))
theorem pi_enumA {X : Cx} {e : Expr} {ta : TA} {p pos tpos : Pos} {elts : List Expr} {kk : Nat} (hg : Gl X "enumerate") (hm : X.mg "enumerate" = none) (ha : PA X [e] ta) (hs : starEach [e] X.env = [(false, eval e X.env)] := by rfl) :
    PI X (.Tuple elts kk tpos) (.Call (.Name "enumerate" p) [e] [] pos) (iEnumA X.K ta) := by
  refine ⟨fun pins s σ H R I h => ?_⟩
  refine Call_ (ld_blt I hg hm boot_enumerate (PyProof.Rows.callWith_type1 (thn (ha.run pos pins s σ H _ I h) fun us s1 ⟨vs, H1, I1, r1, a, xs, ex, q⟩ => ?_) hs rfl))
  subst ex
  cases r1 with
  | cons r rr =>
    cases rr
    cases r
    have two : ∀ b, b ∈ [s1.heap.objs.size + 1, s1.heap.objs.size] → FpOk X pins H1 b := fun b hb => by
      have hle : s1.heap.objs.size ≤ b := by
        rcases (by simpa using hb : b = s1.heap.objs.size + 1 ∨ b = s1.heap.objs.size) with z | z <;> omega
      exact I1.fpOk hle (I1.hok.fresh hle)
    rcases q with ⟨hq, q⟩ | ⟨hq, q⟩
    · obtain ⟨its, rv, p', hz⟩ := I1.list hq
      refine call_enumerate_list p'.isList fun h' he hit hsz hk => wpAny_pyIter_enum he ?_
      have I2 : Inv X pins σ H1 { s1 with heap := h' } := I1.kept (t' := s1.toks) hk
      exact ⟨s1.heap.objs.size + 1, _, _, _, H1, rfl, I2, turn_enum a (s1.heap.objs.size + 1) s1.heap.objs.size, ⟨⟨.none, he⟩, hit, Nat.succ_ne_self _⟩, two, q⟩
    · obtain ⟨its, rv, p', hz⟩ := I1.tuple hq
      obtain ⟨o, ho, _⟩ := id p'
      have hal : a < s1.heap.objs.size := Heap.lt_size ho
      refine call_enumB (begins_tuple a its.toArray) p' fun h' he hit hsz hk => wpAny_pyIter_enum he ?_
      have I2 : Inv X pins σ H1 { s1 with heap := h' } := I1.kept (t' := s1.toks) hk
      exact ⟨s1.heap.objs.size + 1, _, _, _, H1, rfl, I2, turn_enumT a (s1.heap.objs.size + 1) s1.heap.objs.size, ⟨⟨.none, he⟩, ⟨_, hit, rfl, rfl⟩, Nat.succ_ne_self _, Nat.ne_of_gt (Nat.lt_succ_of_lt hal), Nat.ne_of_lt hal⟩, two, q⟩
section
variable {X : Cx} {K : PySem.W.Frag}
theorem jok_enumT {F0 : Hp} {a : Addr} {vs : List V} {ds : List D} (h : SqT K F0 a vs) (p : RpAll K F0 vs ds) : JOk K F0 (IteT K a) (enumD 0 ds) where
  stop := fun i F H s1 s2 hi => ⟨vs, same_tup s2 (same_tup s1 h), by rw [enumD_len] at hi; rw [p.length]; exact hi⟩
  go := fun i F H s1 s2 hi => by
    rw [enumD_len] at hi
    have hi' : i < vs.length := p.length ▸ hi
    exact ⟨vs, vs[i], same_tup s2 (same_tup s1 h), by simp [hi']⟩
  yld := fun i F H x H' d s1 s2 y e => by
    obtain ⟨T, v, rfl, hT, rfl, y⟩ := y
    have ex := y vs (same_tup s2 (same_tup s1 h))
    obtain ⟨d', e1, e2⟩ := p.get ex
    rw [enumD_get, e1] at e
    have e' : PyData.tuple [.int (0 + (i : Nat)), d'] = d := Option.some.inj e
    subst e'
    have xt := ext_new (o := .tup [.int (i : Nat), v]) s2 hT
    refine ⟨_, xt, .tup (.inl (.inl upd_same)) (.cons ?_ (.cons ((e2.up s1).up xt.f) .nil))⟩
    rw [Int.zero_add]
    exact .int _
def iEnm' (ta : DTA) : DTI := fun r q => ta r fun ds r1 => match ds with
  | [.list xs] => q (enumD 0 xs) r1
  | [.tuple xs] => q (enumD 0 xs) r1
  | [.dict [(.none, .list xs)]] => q (enumD 0 xs) r1
  | _ => False
theorem di_enum' {e : Expr} {ta : DTA} {p pos tpos : Pos} {elts : List Expr} {kk : Nat} (hg : Gl X "enumerate") (hm : X.mg "enumerate" = none) (ha : DA X [e] ta) (hs : starEach [e] X.env = [(false, eval e X.env)] := by rfl) :
    DI X (.Tuple elts kk tpos) (.Call (.Name "enumerate" p) [e] [] pos) (iEnm' ta) := by
  refine ⟨fun W => pi_weak (pi_enumA hg hm (ha.run W) hs) fun σ H Q h => ?_⟩
  obtain ⟨r, F, q, R, t, w⟩ := h
  refine ⟨r, F, _, R, t, fun ds r' vs F' H' a b c p => ?_⟩
  unfold iEnm' at a
  split at a
  · cases p with
    | cons p1 p2 =>
      cases p2
      cases p1 with
      | lst h1 h2 => exact ⟨_, _, rfl, .inl ⟨SqL.of (b.sub _ _ h1), w _ r' _ F' H' a b c (jok_enum (SqL.of h1) h2)⟩⟩
  · cases p with
    | cons p1 p2 =>
      cases p2
      cases p1 with
      | tup h1 h2 => exact ⟨_, _, rfl, .inr ⟨same_tup b.sub h1, w _ r' _ F' H' a b c (jok_enumT h1 h2)⟩⟩
  · cases p with
    | cons p1 p2 =>
      cases p2
      obtain ⟨l, us, rfl, h1, h2⟩ := scr_inv p1
      exact ⟨_, _, rfl, .inl ⟨b.sub.seq h1, w _ r' _ F' H' a b c (jok_enum h1 h2)⟩⟩
  · exact a.elim
end
end DL
end
section
set_option Elab.async false
set_option linter.all false
set_option maxRecDepth 100000
set_option maxHeartbeats 2000000
namespace DL
open PySem PySem.Spec PyProof.Rows L2
open Sem (wp)
end DL
end
section
set_option Elab.async false
set_option linter.all false
set_option maxRecDepth 100000
set_option maxHeartbeats 1000000
namespace DL
open PySem PySem.Spec PyProof.Rows L2
end DL
namespace DL
open PySem PySem.Spec PyProof.Rows L2
structure GlobD (K : PySem.W.Frag) (mg : Str → Option Value) (x : Str) (d : D) : Prop where
  ex : ∃ v u, mg x = some u ∧ RelV v u ∧ ∀ F, Rp K F v d
theorem d_globD {X : Cx} {x : Str} {pos : Pos} {d : D} (hg : Gl X x) (h : GlobD X.K X.mg x d) (hd : (x == ("__debug__" : Str)) = false := by decide) : DE X (.Name x pos) (eC d) := by
  obtain ⟨v, u, hm, r, hr⟩ := h.ex
  exact d_glob hg hm r hr hd
theorem glob_int {K : PySem.W.Frag} {h : PySem.Heap} {mg : Str → Option Value} {x : Str} {i : Int} {t : Tok} (X : K.In h) (G : h.Ns mainGlobals mg) (e : PySem.W.nsIn K mainGlobals x = some (some (.int i t))) : GlobD K mg x (.int i) :=
  ⟨.int i, _, PySem.W.mg_of X G e, ⟨t, rfl⟩, fun _ => .int i⟩
end DL
namespace DL
open PySem PySem.Spec PyProof.Rows L2
end DL
namespace DL
open PySem PySem.Spec PyProof.Rows L2
end DL
namespace DL
open PySem PySem.Spec PyProof.Rows L2
section
variable {X : Cx}
def gTp' (n : Nat) (gs : DTGs) : DTG := fun d r q => match d with
  | .tuple ds => ds.length = n ∧ gs ds r q
  | .list ds => ds.length = n ∧ gs ds r q
  | _ => False
theorem dg_tup' {es : List Expr} {k n : Nat} {pos : Pos} {gs : DTGs} (hc : X.calm = true) (h : DGs X es gs) (hn : (assignEach es X.env).length = n := by rfl) (hst : (assignEach es X.env).findIdx? (·.1) = none := by rfl) : DG X (.Tuple es k pos) (gTp' n gs) := by
  refine ⟨fun W => ⟨fun pins s σ H v u Q I ru hq => ?_⟩⟩
  obtain ⟨d, r, F, q, R, p, t, w⟩ := hq
  cases p with
  | tup h1 h2 =>
    exact (pg_tup (k := k) (pos := pos) hc (h.run W) hn hst).run pins s σ H _ u Q I ru ⟨_, _, rfl, same_tup R.sub h1, by rw [h2.length]; exact t.1, ⟨_, r, F, q, R, h2, t.2, w⟩⟩
  | lst h1 h2 =>
    exact (pg_lst (k := k) (pos := pos) hc (h.run W) hn hst).run pins s σ H _ u Q I ru ⟨_, _, rfl, SqL.of (R.sub _ _ h1), by rw [h2.length]; exact t.1, ⟨_, r, F, q, R, h2, t.2, w⟩⟩
  | _ => exact t.elim
end
end DL
end
section
set_option Elab.async false
set_option linter.all false
set_option maxRecDepth 100000
namespace DL
open PySem L2
def b_box : DTS :=
  (sSeq (sSet 2 (eC (.int 0)))
  (sSeq (sIf (tBl (eOp2 pLt (eVar 1) (eLenV 0))) (sSet 2 (eIxV 0 (eVar 1))) sNext)
  (sRetO (oLst (aCons (eOp2 pMul (eCall pAbs (aCons (eVar 2) aNil)) (eCall pInt (aCons (eOp2 pGe (eCall pAbs (aCons (eVar 2) aNil)) (eOp2 pPow (eC (.int 10)) (eC (.int 18)))) aNil))) (aCons (eOp2 pMod (eOp2 pAdd (eVar 2) (eOp2 pMul (eOp2 pMul (eC (.int 7919)) (eVar 1)) (eVar 1))) (eC (.int 2147483647))) (aCons (eC (.int 0)) aNil)))))))
def b_take : DTS :=
  (sSeq (sIf (tBl (eOp2 pGt (eIxV 0 (eC (.int 0))) (eC (.int 0)))) (sSeq (sAsg (eCall pDvm (aCons (eIxV 0 (eC (.int 0))) (aCons (eVar 1) aNil))) (gTp' 2 (gsCons (gSb 0 (eC (.int 0))) (gsCons (gNm 3) gsNil))))
  (sRet (eVar 3))) sNext)
  (sSeq (sAsg (eOp2 pAdd (eIxV 0 (eC (.int 2))) (eC (.int 1))) (gSb 0 (eC (.int 2))))
  (sSeq (sSet 2 (eOp2 pMod (eOp2 pPow (eOp2 pAdd (eIxV 0 (eC (.int 1))) (eOp2 pMul (eC (.int 39373)) (eIxV 0 (eC (.int 2))))) (eC (.int 5))) (eC (.int 2147483647))))
  (sRet (eOp2 pMod (eOp2 pDiv (eOp2 pMod (eOp2 pAdd (eOp2 pMul (eVar 2) (eC (.int 48271))) (eOp2 pMul (eOp2 pMul (eIxV 0 (eC (.int 2))) (eIxV 0 (eC (.int 2)))) (eC (.int 7919)))) (eC (.int 2147483629))) (eC (.int 64))) (eVar 1))))))
def b_fold : DTS :=
  (sSeq (sSetO 2 (oList (eSlV 0 pNo (pSome (eVar 1)))))
  (sSeq (sFor (iEnm' (aCons (eSlV 0 (pSome (eVar 1)) (pSome (eC (.int 63)))) aNil)) (gTp' 2 (gsCons (gNm 3) (gsCons (gNm 4) gsNil))) (sAsg (eOp2 pAdd (eIxV 2 (eOp2 pMod (eVar 3) (eVar 1))) (eOp2 pMul (eVar 4) (eOp2 pAdd (eVar 3) (eC (.int 2))))) (gSb 2 (eOp2 pMod (eVar 3) (eVar 1)))))
  (sRet (eVar 2))))
theorem ifD {p : Prop} [Decidable p] {A B : Prop} (h1 : p → A) (h2 : ¬ p → B) : if decide p = true then A else B := by
  by_cases h : p
  · rw [decide_eq_true h]; exact iteT (h1 h)
  · rw [decide_eq_false h]; exact iteF (h2 h)
theorem ifN {p : Prop} [Decidable p] {A B : Prop} (h1 : ¬ p → A) (h2 : p → B) : if (!decide p) = true then A else B := by
  by_cases h : p
  · rw [decide_eq_true h]; exact iteF (h2 h)
  · rw [decide_eq_false h]; exact iteT (h1 h)
/-- a box: what is left of a cell, what it was mixed to, how many draws there were (n at most) -/
def Box (n : Int) (m : M) : Prop := ∃ x y z : Int, m = .lst [.int x, .int y, .int z] ∧ 0 ≤ x ∧ 0 ≤ y ∧ y < 2147483647 ∧ 0 ≤ z ∧ z ≤ n
theorem Box.le {n k : Int} {m : M} (h : Box n m) (l : n ≤ k) : Box k m := by
  obtain ⟨x, y, z, e, h1, h2, h3, h4, h5⟩ := h
  exact ⟨x, y, z, e, h1, h2, h3, h4, by omega⟩
/-- the line that no law's draws come to -/
def farB : Int := 2 ^ 40
def sp_box : DSp := fun cs post => ∃ (ns : List Int) (k : Int), cs = [.sh (.list (ns.map PyData.int)), .sh (.int k)] ∧ 0 ≤ k ∧ k < 2 ^ 20 ∧ ∀ m, Box 0 m → post (.own m) []
def sp_take : DSp := fun cs post => ∃ (m : M) (n k : Int), cs = [.io m, .sh (.int k)] ∧ Box n m ∧ n < farB ∧ 0 < k ∧ k < 2 ^ 64 ∧ ∀ v m', 0 ≤ v → v < k → Box (n + 1) m' → post (.sh (.int v)) [m']
def sp_fold : DSp := fun cs post => ∃ (ns : List Int) (k : Int), cs = [.sh (scrD ns), .sh (.int k)] ∧ 0 < k ∧ k < 63 ∧ ns.length ≤ 63 ∧ ∀ es : List Int, (es.length : Int) ≤ k → post (.sh (.list (es.map PyData.int))) []
theorem log2_small {n : Nat} (h : n < 2 ^ 64) : n.log2 < 9000 := by
  have := PySem.Flt.log2_lt_of (n := n) (k := 64) (by decide) h
  omega
theorem p_take (cs post) (h : sp_take cs post) : runD 4 b_take cs post := by
  obtain ⟨m, n, k, rfl, ⟨x, y, z, rfl, hx, hy0, hy, hz0, hz⟩, hn, hk0, hk, q⟩ := h
  have hf : farB = 1099511627776 := by decide
  refine ifD (fun h => ?_) (fun h => ?_)
  · refine ⟨CDivP.wide hk0 (log2_small (by omega)), rfl, rfl, 0, rfl, ?_⟩
    exact q (x % k) (.lst [.int (x / k), .int y, .int z]) (Int.emod_nonneg _ (by omega)) (Int.emod_lt_of_pos _ hk0) ⟨_, _, _, rfl, Int.ediv_nonneg hx (by omega), hy0, hy, hz0, by omega⟩
  · refine ⟨rfl, 2, rfl, MulOk.left (by decide), ⟨by decide, by decide, ?_⟩, (by decide : (0 : Int) < 2147483647), MulOk.right (by decide), MulOk.left ?_, MulOk.right (by decide), (by decide : (0 : Int) < 2147483629), DivOk.small (by decide) (by decide), hk0, ?_⟩
    · show (y + 39373 * (z + 1)).natAbs < 2 ^ 64
      omega
    · show (z + 1).natAbs < 2 ^ 64
      omega
    · exact q _ _ (Int.emod_nonneg _ (by omega)) (Int.emod_lt_of_pos _ hk0) ⟨x, y, z + 1, rfl, hx, hy0, hy, by omega, by omega⟩
theorem b01 (b : Bool) : (if b = true then (1 : Int) else 0) = 0 ∨ (if b = true then (1 : Int) else 0) = 1 := by
  cases b <;> simp
theorem p_box (cs post) (h : sp_box cs post) : runD 3 b_box cs post := by
  obtain ⟨ns, k, rfl, hk0, hk, q⟩ := h
  have key : ∀ c b : Int, (b = 0 ∨ b = 1) → MulOk (if c < 0 then -c else c) b ∧ MulOk 7919 k ∧ MulOk (7919 * k) k ∧ (0 : Int) < 2147483647 ∧ 3 ≤ sizeLine ∧ post (.own (.lst [.int ((if c < 0 then -c else c) * b), .int ((c + 7919 * k * k) % 2147483647), .int 0])) [] := fun c b hb => by
      refine ⟨MulOk.right (by omega), MulOk.left (by decide), MulOk.right (by omega), by decide, by decide, q _ ⟨_, _, _, rfl, ?_, Int.emod_nonneg _ (by decide), Int.emod_lt_of_pos _ (by decide), by decide, by decide⟩⟩
      rcases hb with rfl | rfl
      · omega
      · split <;> omega
  refine ifD (fun h => ?_) (fun h => ?_)
  · have hk2 : k < (ns.length : Nat) := by simpa using h
    have e : atI (ns.map PyData.int) k = some (.int (ns.getD k.toNat 0)) := by
      have hl : k.toNat < ns.length := by omega
      unfold atI ixN
      rw [List.length_map, if_pos hk0, if_pos (by omega)]
      simp [hl]
    refine optD_of e ?_
    exact ⟨⟨by decide, by decide, by decide⟩, key _ _ (b01 _)⟩
  · exact ⟨⟨by decide, by decide, by decide⟩, key _ _ (b01 _)⟩
theorem loop_inv {g : DTG} {tb : DTS} (I : List D → DSt → Prop) {E : DEnds} (step : ∀ d t r (N : DSt → Prop), I (d :: t) r → (∀ r', I t r' → N r') → g d r fun r1 => tb { E with nx := N, ct := N, bk := E.nx } r1)
    (fin : ∀ r, I [] r → E.nx r) : ∀ ds r, I ds r → loopD g tb ds E r
  | [], r, h => fin r h
  | d :: t, r, h => step d t r _ h fun r' h' => loop_inv I step fin t r' h'
theorem cut_hi {α : Type} (xs : List α) (k : Int) (h : 0 ≤ k) : cutD xs none (some k) = xs.take k.toNat := by
  show (xs.drop 0).take ((if k < 0 then (k + (xs.length : Int)).toNat else min k.toNat xs.length) - 0) = _
  rw [if_neg (by omega), List.drop_zero, Nat.sub_zero]
  by_cases h2 : k.toNat ≤ xs.length
  · rw [Nat.min_eq_left h2]
  · rw [Nat.min_eq_right (by omega), List.take_length, List.take_of_length_le (by omega)]
theorem cut_lo {α : Type} (xs : List α) (k j : Int) (h : 0 ≤ k) (h2 : k ≤ j) : cutD xs (some k) (some j) = (xs.take j.toNat).drop k.toNat := by
  show (xs.drop (if k < 0 then (k + (xs.length : Int)).toNat else min k.toNat xs.length)).take ((if j < 0 then (j + (xs.length : Int)).toNat else min j.toNat xs.length) - (if k < 0 then (k + (xs.length : Int)).toNat else min k.toNat xs.length)) = _
  rw [if_neg (by omega), if_neg (by omega), List.drop_take]
  by_cases h3 : k.toNat ≤ xs.length
  · rw [Nat.min_eq_left h3]
    by_cases h4 : j.toNat ≤ xs.length
    · rw [Nat.min_eq_left h4]
    · rw [Nat.min_eq_right (by omega), List.take_of_length_le (by simp), List.take_of_length_le (by simp; omega)]
  · rw [Nat.min_eq_right (by omega), List.drop_eq_nil_of_le (by omega), List.drop_eq_nil_of_le (by omega)]
    simp
theorem at_ints {es : List Int} {i : Int} (h : 0 ≤ i) (h2 : i < es.length) : atI (es.map PyData.int) i = some (.int (es.getD i.toNat 0)) := by
  have hl : i.toNat < es.length := by omega
  unfold atI ixN
  rw [List.length_map, if_pos h, if_pos (by omega)]
  simp [hl]
theorem ix_in {n : Nat} {i : Int} (h : 0 ≤ i) (h2 : i < n) : ixN n i = some i.toNat := by
  unfold ixN
  rw [if_pos h, if_pos (by omega)]
theorem enumD_mem : ∀ (k : Int) (ds : List D) (d : D), d ∈ enumD k ds → ∃ j c, d = .tuple [.int j, c] ∧ k ≤ j ∧ j < k + ds.length ∧ c ∈ ds
  | _, [], _, h => by cases h
  | k, x :: t, d, h => by
    rcases List.mem_cons.1 h with rfl | h
    · exact ⟨k, x, rfl, by omega, by simp; omega, by simp⟩
    · obtain ⟨j, c, e, h1, h2, h3⟩ := enumD_mem (k + 1) t d h
      exact ⟨j, c, e, by omega, by simp; omega, by simp [h3]⟩
theorem p_fold (cs post) (h : sp_fold cs post) : runD 5 b_fold cs post := by
  obtain ⟨ns, k, rfl, hk0, hk, hn, q⟩ := h
  refine loop_inv (fun t r => ∃ (es : List Int) (c3 c4 : Option Cell), r = [some (.sh (scrD ns)), some (.sh (.int k)), some (.own (.lst (es.map PyData.int))), c3, c4] ∧ (es.length : Int) ≤ k ∧ (t ≠ [] → (es.length : Int) = k) ∧ ∀ d ∈ t, ∃ j c : Int, d = .tuple [.int j, .int c] ∧ 0 ≤ j ∧ j < 64) ?_ ?_ _ _ ?_
  · rintro d t r N ⟨es, c3, c4, rfl, h1, h2, h3⟩ hN
    obtain ⟨j, c, rfl, hj, hj2⟩ := h3 _ List.mem_cons_self
    have hl := h2 (by simp)
    have m0 := Int.emod_nonneg j (show k ≠ 0 by omega)
    have m1 := Int.emod_lt_of_pos j hk0
    refine ⟨rfl, hk0, optD_of (at_ints m0 (by omega)) ⟨MulOk.right (by omega), rfl, hk0, (j % k).toNat, (by rw [List.length_map]; exact ix_in m0 (by omega)), hN _ ⟨es.set (j % k).toNat (es.getD (j % k).toNat 0 + c * (j + 2)), some (.sh (.int j)), some (.sh (.int c)), ?_, ?_, ?_, ?_⟩⟩⟩
    · rw [List.map_set]; rfl
    · rw [List.length_set]; exact h1
    · intro _; rw [List.length_set]; exact hl
    · exact fun d hd => h3 d (List.mem_cons_of_mem _ hd)
  · rintro r ⟨es, c3, c4, rfl, h1, _⟩
    exact q es h1
  · refine ⟨ns.take k.toNat, none, none, ?_, ?_, ?_, ?_⟩
    · rw [cut_hi _ _ (by omega), ← List.map_take]
    · rw [List.length_take]; omega
    · intro hne
      rw [cut_lo _ _ _ (by omega) (by omega)] at hne
      rw [List.length_take]
      by_cases hh : k.toNat ≤ ns.length
      · omega
      · exfalso; apply hne
        rw [List.drop_eq_nil_of_le (by simp; omega)]; rfl
    · intro d hd
      rw [cut_lo _ _ _ (by omega) (by omega)] at hd
      obtain ⟨j, c, e, a, b, m⟩ := enumD_mem _ _ _ hd
      have m2 := List.mem_of_mem_take (List.mem_of_mem_drop m)
      obtain ⟨c', _, rfl⟩ := List.mem_map.1 m2
      refine ⟨j, c', e, a, ?_⟩
      simp at b
      omega
end DL
namespace DL
theorem rng_mem : ∀ (n : Nat) (i : Int) (d : D), d ∈ rngD i n → ∃ k : Int, d = .int k ∧ i ≤ k ∧ k < i + n := by
  intro n i d h
  unfold rngD at h
  obtain ⟨j, hj, rfl⟩ := List.mem_map.1 h
  have := List.mem_range.1 hj
  exact ⟨_, rfl, by omega, by omega⟩
end DL
namespace DL
open PySem PySem.Spec PyProof.Rows L2
end DL
namespace DL
open PySem PySem.Spec PyProof.Rows L2
theorem sz0 : 0 ≤ sizeLine := by decide
theorem sz1 : 1 ≤ sizeLine := by decide
theorem sz2 : 2 ≤ sizeLine := by decide
theorem sz3 : 3 ≤ sizeLine := by decide
theorem sz6 : 6 ≤ sizeLine := by decide
theorem sz7 : 7 ≤ sizeLine := by decide
theorem at_all {l : List D} {i : Int} (h0 : 0 ≤ i) (h1 : i < l.length) {q : D → Prop} (h : ∀ d ∈ l, q d) : optD (atI l i) q := by
  have hl : i.toNat < l.length := by omega
  have e : atI l i = some (l[i.toNat]) := by
    unfold atI
    rw [ix_in h0 h1]
    simp [hl]
  exact optD_of e (h _ (List.getElem_mem hl))
end DL
namespace DL
theorem nd1 (i : Nat) : [i].Nodup := by simp
end DL
namespace DL
open PySem PySem.Spec PyProof.Rows L2
theorem comp_inv {one : Bool} {js : List Nat} {tt : DTT} {te : DTE} {q : List D → DSt → Prop} (I : List D → List D → DSt → Prop)
    (step : ∀ d t acc r (N : List D → DSt → Prop), I (d :: t) acc r → (∀ acc' r', I t acc' (wipeD r' js) → N acc' r') → tgD one js d r fun r1 => tt r1 fun b r2 => if b = true then te r2 fun y r3 => N (acc ++ [y]) r3 else N acc r2)
    (fin : ∀ acc r, I [] acc r → q acc r) : ∀ ds acc r, I ds acc r → compD one js tt te ds acc r q
  | [], acc, r, h => fin acc r h
  | d :: t, acc, r, h => step d t acc r (fun acc' r' => compD one js tt te t acc' (wipeD r' js) q) h fun acc' r' h' => comp_inv I step fin t acc' (wipeD r' js) h'
end DL
namespace DL
open PySem PySem.Spec PyProof.Rows L2
theorem idx_loop {g : DTG} {tb : DTS} {E : DEnds} (ds : List D) (I : Nat → DSt → Prop)
    (step : ∀ (i : Nat) (h : i < ds.length) r (N : DSt → Prop), I i r → (∀ r', I (i + 1) r' → N r') → g ds[i] r fun r1 => tb { E with nx := N, ct := N, bk := E.nx } r1)
    (fin : ∀ r, I ds.length r → E.nx r) (r : DSt) (h : I 0 r) : loopD g tb ds E r := by
  refine loop_inv (fun t r => ∃ i, i ≤ ds.length ∧ t = ds.drop i ∧ I i r) ?_ ?_ ds r ⟨0, by omega, rfl, h⟩
  · rintro d t r N ⟨i, hi, e, hI⟩ hN
    have hk : i < ds.length := by
      rcases Nat.lt_or_ge i ds.length with h | h
      · exact h
      · rw [List.drop_eq_nil_of_le h] at e; cases e
    rw [List.drop_eq_getElem_cons hk] at e
    cases e
    exact step i hk r N hI fun r' h' => hN r' ⟨i + 1, by omega, rfl, h'⟩
  · rintro r ⟨i, hi, e, hI⟩
    have hk : i = ds.length := by
      rcases Nat.lt_or_ge i ds.length with h | h
      · rw [List.drop_eq_getElem_cons h] at e; cases e
      · omega
    subst hk
    exact fin r hI
theorem rng_get (lo : Int) (n i : Nat) (h : i < (rngD lo n).length) : (rngD lo n)[i] = .int (lo + i) := by
  have h' : i < n := by rw [rngD_len] at h; exact h
  have e : (rngD lo n)[i]? = some (.int (lo + i)) := by
    unfold rngD
    rw [List.getElem?_map, List.getElem?_range h']
    rfl
  exact (List.getElem?_eq_some_iff.1 e).2
theorem rng_loop {g : DTG} {tb : DTS} {E : DEnds} (lo : Int) (n : Nat) (I : Nat → DSt → Prop)
    (step : ∀ (i : Nat) (h : i < n) r (N : DSt → Prop), I i r → (∀ r', I (i + 1) r' → N r') → g (.int (lo + i)) r fun r1 => tb { E with nx := N, ct := N, bk := E.nx } r1)
    (fin : ∀ r, I n r → E.nx r) (r : DSt) (h : I 0 r) : loopD g tb (rngD lo n) E r := by
  refine idx_loop (rngD lo n) I (fun i hi r N hI hN => ?_) (by rw [rngD_len]; exact fin) r h
  have hi' : i < n := by rw [rngD_len] at hi; exact hi
  rw [rng_get]
  exact step i hi' r N hI hN
theorem idx_comp {one : Bool} {js : List Nat} {tt : DTT} {te : DTE} {q : List D → DSt → Prop} (ds : List D) (I : Nat → List D → DSt → Prop)
    (step : ∀ (i : Nat) (h : i < ds.length) acc r (N : List D → DSt → Prop), I i acc r → (∀ acc' r', I (i + 1) acc' (wipeD r' js) → N acc' r') → tgD one js ds[i] r fun r1 => tt r1 fun b r2 => if b = true then te r2 fun y r3 => N (acc ++ [y]) r3 else N acc r2)
    (fin : ∀ acc r, I ds.length acc r → q acc r) (r : DSt) (h : I 0 [] r) : compD one js tt te ds [] r q := by
  refine comp_inv (fun t acc r => ∃ i, i ≤ ds.length ∧ t = ds.drop i ∧ I i acc r) ?_ ?_ ds [] r ⟨0, by omega, rfl, h⟩
  · rintro d t acc r N ⟨i, hi, e, hI⟩ hN
    have hk : i < ds.length := by
      rcases Nat.lt_or_ge i ds.length with h | h
      · exact h
      · rw [List.drop_eq_nil_of_le h] at e; cases e
    rw [List.drop_eq_getElem_cons hk] at e
    cases e
    exact step i hk acc r N hI fun acc' r' h' => hN acc' r' ⟨i + 1, by omega, rfl, h'⟩
  · rintro acc r ⟨i, hi, e, hI⟩
    have hk : i = ds.length := by
      rcases Nat.lt_or_ge i ds.length with h | h
      · rw [List.drop_eq_getElem_cons h] at e; cases e
      · omega
    subst hk
    exact fin acc r hI
theorem rng_comp {one : Bool} {js : List Nat} {tt : DTT} {te : DTE} {q : List D → DSt → Prop} (lo : Int) (n : Nat) (I : Nat → List D → DSt → Prop)
    (step : ∀ (i : Nat) (h : i < n) acc r (N : List D → DSt → Prop), I i acc r → (∀ acc' r', I (i + 1) acc' (wipeD r' js) → N acc' r') → tgD one js (.int (lo + i)) r fun r1 => tt r1 fun b r2 => if b = true then te r2 fun y r3 => N (acc ++ [y]) r3 else N acc r2)
    (fin : ∀ acc r, I n acc r → q acc r) (r : DSt) (h : I 0 [] r) : compD one js tt te (rngD lo n) [] r q := by
  refine idx_comp (rngD lo n) I (fun i hi acc r N hI hN => ?_) (by rw [rngD_len]; exact fin) r h
  have hi' : i < n := by rw [rngD_len] at hi; exact hi
  rw [rng_get]
  exact step i hi' acc r N hI hN
end DL
namespace DL
open PySem PySem.Spec PyProof.Rows L2
end DL
end
section
set_option Elab.async false
set_option linter.all false
set_option maxRecDepth 100000
namespace DL
open PySem PySem.Spec PyProof.Rows L2
/-- a whole number of at most n bits -/
def Sz (n : Nat) (i : Int) : Prop := i.natAbs < 2 ^ n
theorem Sz.mono {n m : Nat} {i : Int} (h : Sz n i) (l : n ≤ m) : Sz m i := Nat.lt_of_lt_of_le h (Nat.pow_le_pow_right (by decide) l)
theorem Sz.mul {n m : Nat} {i j : Int} (h : Sz n i) (k : Sz m j) : Sz (n + m) (i * j) := by
  show (i * j).natAbs < 2 ^ (n + m)
  rw [Int.natAbs_mul, Nat.pow_add]
  exact Nat.mul_lt_mul'' h k
theorem Sz.add {n : Nat} {i j : Int} (h : Sz n i) (k : Sz n j) : Sz (n + 1) (i + j) := by
  have h1 : i.natAbs < 2 ^ n := h
  have h2 : j.natAbs < 2 ^ n := k
  show (i + j).natAbs < 2 ^ (n + 1)
  rw [Nat.pow_succ]
  omega
theorem Sz.neg {n : Nat} {i : Int} (h : Sz n i) : Sz n (-i) := by
  have h1 : i.natAbs < 2 ^ n := h
  show (-i).natAbs < 2 ^ n
  omega
theorem Sz.sub {n : Nat} {i j : Int} (h : Sz n i) (k : Sz n j) : Sz (n + 1) (i - j) := by
  rw [Int.sub_eq_add_neg]; exact h.add k.neg
theorem Sz.le {n : Nat} {i j : Int} (h : Sz n i) (k : j.natAbs ≤ i.natAbs) : Sz n j := Nat.lt_of_le_of_lt k h
def fD (x : Rat) : D := .tuple [.int x.num, .int (x.den : Int)]
def Szr (n : Nat) (x : Rat) : Prop := Sz n x.num ∧ Sz n (x.den : Int)
theorem Szr.mono {n m : Nat} {x : Rat} (h : Szr n x) (l : n ≤ m) : Szr m x := ⟨h.1.mono l, h.2.mono l⟩
theorem Szr.of {n : Nat} {a b : Int} (ha : Sz n a) (hb : Sz n b) (h0 : b ≠ 0) : Szr n (Rat.divInt a b) := by
  constructor
  · rw [Rat.num_divInt]
    refine ha.le (Nat.le_trans (Int.natAbs_ediv_le_natAbs _ _) ?_)
    rw [Int.natAbs_mul, Int.natAbs_sign_of_ne_zero h0, Nat.one_mul]
    exact Nat.le_refl _
  · rw [Rat.den_divInt, if_neg h0]
    refine hb.le ?_
    rw [Int.natAbs_natCast]
    exact Nat.div_le_self _ _
theorem add_dv (x y : Rat) : x + y = Rat.divInt (x.num * y.den + y.num * x.den) (x.den * y.den) := by
  rw [Rat.add_def', ← Rat.divInt_ofNat, Int.natCast_mul]
theorem sub_dv (x y : Rat) : x - y = Rat.divInt (x.num * y.den - y.num * x.den) (x.den * y.den) := by
  rw [Rat.sub_def', ← Rat.divInt_ofNat, Int.natCast_mul]
theorem mul_dv (x y : Rat) : x * y = Rat.divInt (x.num * y.num) (x.den * y.den) := by
  rw [Rat.mul_def', ← Rat.divInt_ofNat, Int.natCast_mul]
theorem den_ne (x : Rat) : (x.den : Int) ≠ 0 := by have := x.den_nz; omega
theorem dd_ne (x y : Rat) : (x.den * y.den : Int) ≠ 0 := Int.mul_ne_zero (den_ne x) (den_ne y)
theorem Szr.add {n m : Nat} {x y : Rat} (h : Szr n x) (k : Szr m y) : Szr (n + m + 1) (x + y) := by
  rw [add_dv]
  exact Szr.of (Sz.add (h.1.mul k.2) ((k.1.mul h.2).mono (by omega))) ((h.2.mul k.2).mono (by omega)) (dd_ne x y)
theorem Szr.sub {n m : Nat} {x y : Rat} (h : Szr n x) (k : Szr m y) : Szr (n + m + 1) (x - y) := by
  rw [sub_dv]
  exact Szr.of (Sz.sub (h.1.mul k.2) ((k.1.mul h.2).mono (by omega))) ((h.2.mul k.2).mono (by omega)) (dd_ne x y)
theorem Szr.mul {n m : Nat} {x y : Rat} (h : Szr n x) (k : Szr m y) : Szr (n + m) (x * y) := by
  rw [mul_dv]
  exact Szr.of (h.1.mul k.1) (h.2.mul k.2) (dd_ne x y)
end DL
namespace DL
open PySem PySem.Spec PyProof.Rows L2
end DL
namespace DL
end DL
namespace DL
end DL
end
section
set_option Elab.async false
set_option linter.all false
set_option maxRecDepth 100000
namespace DL
open PySem PySem.Spec PyProof.Rows L2
def bD (bs : List Int) : D := .tuple (bs.map PyData.int)
def Bits (bs : List Int) : Prop := ∀ b ∈ bs, b = 0 ∨ b = 1
theorem Bits.nil : Bits [] := fun _ h => by cases h
theorem Bits.app {as bs : List Int} (h : Bits as) (k : Bits bs) : Bits (as ++ bs) := fun b m => by
  rcases List.mem_append.1 m with m | m
  · exact h b m
  · exact k b m
theorem Bits.one {b : Int} (h : b = 0 ∨ b = 1) : Bits [b] := fun c m => by rw [List.mem_singleton.1 m]; exact h
theorem Bits.rep {n : Nat} {b : Int} (h : b = 0 ∨ b = 1) : Bits (List.replicate n b) := fun c m => by rw [List.eq_of_mem_replicate m]; exact h
theorem line_big : (2 : Nat) ^ 24 ≤ sizeLine := by decide
end DL
namespace DL
open PySem PySem.Spec PyProof.Rows L2
def b_ones : DTS := (sRet (eCall pSum (aCons (eVar 0) aNil)))
def sp_ones : DSp := fun cs post => ∃ bs : List Int, cs = [.sh (bD bs)] ∧ post (.sh (.int bs.sum)) []
theorem p_ones (cs post) (h : sp_ones cs post) : runD 1 b_ones cs post := by
  obtain ⟨bs, rfl, q⟩ := h
  exact ⟨bs, rfl, q⟩
theorem bit_abs {bs : List Int} (h : Bits bs) {b : Int} (m : b ∈ bs) : b.natAbs < 2 ^ 64 := by
  rcases h b m with rfl | rfl <;> decide
theorem Bits.take {bs : List Int} (h : Bits bs) (k : Nat) : Bits (bs.take k) := fun b m => h b (List.mem_of_mem_take m)
theorem Bits.drop {bs : List Int} (h : Bits bs) (k : Nat) : Bits (bs.drop k) := fun b m => h b (List.mem_of_mem_drop m)
end DL
end
section
set_option Elab.async false
set_option linter.all false
set_option maxRecDepth 100000
namespace DL
open PySem PySem.Spec PyProof.Rows L2
theorem piled_all {c : Nat} : ∀ {xs : List D}, (∀ x ∈ xs, x.shown.length ≤ c) → piled (PyData.shownAll xs) ≤ (c + 2) * xs.length
  | [], _ => by simp [PyData.shownAll, piled_nil]
  | x :: xs, h => by
    have h1 := h x List.mem_cons_self
    have h2 := piled_all (xs := xs) fun y m => h y (List.mem_cons_of_mem _ m)
    simp only [PyData.shownAll]
    rw [piled_cons, List.length_cons, Nat.mul_add, Nat.mul_one]
    omega
theorem shown_tup {c : Nat} {xs : List D} (h : ∀ x ∈ xs, x.shown.length ≤ c) : (PyData.tuple xs).shown.length ≤ (c + 2) * xs.length + 3 := by
  have hp := piled_all h
  have e : (PyData.tuple xs).shown = tupleText (PyData.shownAll xs) := by simp only [PyData.shown]
  rw [e]
  unfold tupleText
  rw [strLen_append, strLen_append]
  have e1 : ((("(" : String) : Str)).length = 1 := rfl
  have e3 : (((if (PyData.shownAll xs).length == 1 then ",)" else ")" : String) : Str)).length ≤ 2 := by split <;> decide
  have e4 : (Str.join ", " (PyData.shownAll xs)).length ≤ piled (PyData.shownAll xs) := by
    by_cases z : PyData.shownAll xs = []
    · rw [z]; decide
    · have := join_length_add _ z; omega
  rw [e1]
  omega
theorem textFrom_most : ∀ (ts : List Str) (k : Nat) (acc : Str), (textFrom k acc ts).length ≤ acc.length + piled ts
  | [], k, acc => by show acc.length ≤ _; omega
  | t :: ts, k, acc => by
    have ih := textFrom_most ts (k + 1) (acc ++ (if k > 0 then ", " else "" : String) ++ t)
    have e : (acc ++ (if k > 0 then ", " else "" : String) ++ t).length ≤ acc.length + 2 + t.length := by
      rw [strLen_append, strLen_append]
      have : (((if k > 0 then ", " else "" : String) : Str)).length ≤ 2 := by split <;> decide
      omega
    rw [piled_cons]
    show (textFrom (k + 1) (acc ++ (if k > 0 then ", " else "" : String) ++ t) ts).length ≤ _
    omega
theorem shown_lst {c : Nat} {xs : List D} (h : ∀ x ∈ xs, x.shown.length ≤ c) : (PyData.list xs).shown.length ≤ (c + 2) * xs.length + 3 := by
  have hp := piled_all h
  have e : (PyData.list xs).shown = listText (PyData.shownAll xs) := by simp only [PyData.shown]
  rw [e]
  unfold listText
  rw [strLen_append]
  have h1 := textFrom_most (PyData.shownAll xs) 0 "["
  have e1 : ((("[" : String) : Str)).length = 1 := rfl
  have e2 : ((("]" : String) : Str)).length = 1 := rfl
  rw [e1] at h1
  rw [e2]
  omega
theorem nat_text {k n : Nat} (hk : 1 ≤ k) (h : n < 10 ^ k) : (Str.ofString (Nat.repr n)).length ≤ k := by
  have := PySem.Flt.repr_len hk h
  rw [Str.ofString_eq_toList]
  show ((Nat.repr n).toList.map Char.toNat).toArray.size ≤ k
  rw [List.size_toArray, List.length_map]
  exact this
theorem int_shown {k : Nat} {i : Int} (hk : 1 ≤ k) (h : i.natAbs < 10 ^ k) : (PyData.int i).shown.length ≤ k + 1 := by
  have e : (PyData.int i).shown = Str.ofString (toString i) := by simp only [PyData.shown]
  rw [e]
  cases i with
  | ofNat n => exact Nat.le_succ_of_le (nat_text hk h)
  | negSucc n =>
    have h2 : n + 1 < 10 ^ k := h
    have := PySem.Flt.repr_len hk h2
    rw [Str.ofString_eq_toList]
    show ((toString (Int.negSucc n)).toList.map Char.toNat).toArray.size ≤ k + 1
    rw [List.size_toArray, List.length_map]
    have e2 : toString (Int.negSucc n) = "-" ++ Nat.repr (n + 1) := rfl
    rw [e2, String.toList_append, List.length_append]
    have e3 : ("-" : String).toList.length = 1 := by decide
    omega
theorem canAll : ∀ {xs : List D}, (∀ x ∈ xs, x.canLay0 = true) → PyData.canLayAll0 xs = true
  | [], _ => by simp [PyData.canLayAll0]
  | x :: xs, h => by
    have h1 := h x List.mem_cons_self
    have h2 := canAll (xs := xs) fun y m => h y (List.mem_cons_of_mem _ m)
    simp [PyData.canLayAll0, h1, h2]
theorem showAll : ∀ {xs : List D}, (∀ x ∈ xs, x.showable = true) → PyData.showableAll xs = true
  | [], _ => by simp [PyData.showableAll]
  | x :: xs, h => by
    have h1 := h x List.mem_cons_self
    have h2 := showAll (xs := xs) fun y m => h y (List.mem_cons_of_mem _ m)
    simp [PyData.showableAll, h1, h2]
theorem depthAll_le {c : Nat} : ∀ {xs : List D}, (∀ x ∈ xs, x.depth ≤ c) → PyData.depthAll xs ≤ c
  | [], _ => by simp [PyData.depthAll]
  | x :: xs, h => by
    have h1 := h x List.mem_cons_self
    have h2 := depthAll_le (xs := xs) fun y m => h y (List.mem_cons_of_mem _ m)
    simp only [PyData.depthAll]
    omega
/-- a thing of at most so many signs and so deep -/
structure Fits (c k : Nat) (d : D) : Prop where
  lay : d.canLay0 = true
  sho : d.showable = true
  dep : d.depth ≤ k
  len : d.shown.length ≤ c
theorem Fits.tup {c k : Nat} {xs : List D} (h : ∀ x ∈ xs, Fits c k x) : Fits ((c + 2) * xs.length + 3) (k + 1) (.tuple xs) :=
  ⟨by simpa [PyData.canLay0] using canAll fun x m => (h x m).lay, by simpa [PyData.showable] using showAll fun x m => (h x m).sho, by simp only [PyData.depth]; have := depthAll_le fun x m => (h x m).dep; omega, shown_tup fun x m => (h x m).len⟩
theorem Fits.lst {c k : Nat} {xs : List D} (h : ∀ x ∈ xs, Fits c k x) : Fits ((c + 2) * xs.length + 3) (k + 1) (.list xs) :=
  ⟨by simpa [PyData.canLay0] using canAll fun x m => (h x m).lay, by simpa [PyData.showable] using showAll fun x m => (h x m).sho, by simp only [PyData.depth]; have := depthAll_le fun x m => (h x m).dep; omega, shown_lst fun x m => (h x m).len⟩
theorem Fits.int {k c : Nat} {i : Int} (hk : 1 ≤ k) (h : i.natAbs < 10 ^ k) (h2 : i.natAbs.log2 < 1920) : Fits (k + 1) c (.int i) :=
  ⟨by simp [PyData.canLay0], by simpa [PyData.showable] using h2, by simp [PyData.depth], int_shown hk h⟩
theorem Fits.mono {c k c' k' : Nat} {d : D} (h : Fits c k d) (h1 : c ≤ c') (h2 : k ≤ k') : Fits c' k' d := ⟨h.lay, h.sho, Nat.le_trans h.dep h2, Nat.le_trans h.len h1⟩
end DL
namespace DL
open PySem PySem.Spec PyProof.Rows L2
end DL
end
section
set_option Elab.async false
set_option linter.all false
set_option maxRecDepth 100000
namespace DL
open PySem PySem.Spec PyProof.Rows L2
/-- plain data of so many levels -/
def Pl : Nat → D → Prop
  | _, .none => True
  | _, .bool _ => True
  | _, .int _ => True
  | _, .str _ => True
  | k + 1, .list ds => ds.length < 2 ^ 24 ∧ ∀ d ∈ ds, Pl k d
  | k + 1, .tuple ds => ds.length < 2 ^ 24 ∧ ∀ d ∈ ds, Pl k d
  | _, _ => False
theorem Pl.int {k : Nat} {i : Int} : Pl k (.int i) := by cases k <;> exact trivial
theorem Pl.bool {k : Nat} {i : Bool} : Pl k (.bool i) := by cases k <;> exact trivial
theorem Pl.str {k : Nat} {i : Str} : Pl k (.str i) := by cases k <;> exact trivial
theorem Pl.ints {k : Nat} {ns : List Int} (h : ns.length < 2 ^ 24) : Pl (k + 1) (.list (ns.map PyData.int)) := ⟨by rw [List.length_map]; exact h, fun d m => by
  obtain ⟨n, _, rfl⟩ := List.mem_map.1 m
  exact .int⟩
theorem Pl.row {k : Nat} {ns : List Int} (h : ns.length < 2 ^ 24) : Pl (k + 1) (bD ns) := ⟨by rw [List.length_map]; exact h, fun d m => by
  obtain ⟨n, _, rfl⟩ := List.mem_map.1 m
  exact .int⟩
end DL
namespace DL
open PySem PySem.Spec PyProof.Rows L2
theorem at_in {α : Type} {l : List α} {i : Int} (h0 : 0 ≤ i) (h1 : i < l.length) : atI l i = some (l[i.toNat]'(by omega)) := by
  have hl : i.toNat < l.length := by omega
  unfold atI
  rw [ix_in h0 h1]
  simp [hl]
def putsC : List Nat → List (Option Cell) → DSt → DSt
  | j :: js, c :: cs, r => putsC js cs (dput r j c)
  | _, _, r => r
theorem idx_on {g : DTG} {tb : DTS} {E : DEnds} (ds : List D) (js : List Nat) (r : DSt) (I : Nat → List (Option Cell) → Prop)
    (step : ∀ (i : Nat) (h : i < ds.length) cs (N : DSt → Prop), I i cs → (∀ cs', I (i + 1) cs' → N (putsC js cs' r)) → g ds[i] (putsC js cs r) fun r1 => tb { E with nx := N, ct := N, bk := E.nx } r1)
    (fin : ∀ cs, I ds.length cs → E.nx (putsC js cs r)) (h : I 0 (js.map (dat r))) (e : putsC js (js.map (dat r)) r = r := by rfl) : loopD g tb ds E r := by
  refine idx_loop ds (fun i r' => ∃ cs, I i cs ∧ r' = putsC js cs r) ?_ ?_ r ⟨_, h, e.symm⟩
  · rintro i hi r' N ⟨cs, hI, rfl⟩ hN
    exact step i hi cs N hI fun cs' h' => hN _ ⟨cs', h', rfl⟩
  · rintro r' ⟨cs, hI, rfl⟩
    exact fin cs hI
theorem rng_on {g : DTG} {tb : DTS} {E : DEnds} (lo : Int) (n : Nat) (js : List Nat) (r : DSt) (I : Nat → List (Option Cell) → Prop)
    (step : ∀ (i : Nat) (h : i < n) cs (N : DSt → Prop), I i cs → (∀ cs', I (i + 1) cs' → N (putsC js cs' r)) → g (.int (lo + i)) (putsC js cs r) fun r1 => tb { E with nx := N, ct := N, bk := E.nx } r1)
    (fin : ∀ cs, I n cs → E.nx (putsC js cs r)) (h : I 0 (js.map (dat r))) (e : putsC js (js.map (dat r)) r = r := by rfl) : loopD g tb (rngD lo n) E r := by
  refine rng_loop lo n (fun i r' => ∃ cs, I i cs ∧ r' = putsC js cs r) ?_ ?_ r ⟨_, h, e.symm⟩
  · rintro i hi r' N ⟨cs, hI, rfl⟩ hN
    exact step i hi cs N hI fun cs' h' => hN _ ⟨cs', h', rfl⟩
  · rintro r' ⟨cs, hI, rfl⟩
    exact fin cs hI
/-- each item told by itself, the slots as they were -/
theorem comp_map {one : Bool} {js : List Nat} {te : DTE} {Q : List D → DSt → Prop} (ds : List D) (r : DSt) (f : D → D)
    (step : ∀ d ∈ ds, ∀ q : D → DSt → Prop, (∀ r', wipeD r' js = r → q (f d) r') → tgD one js d r fun r1 => te r1 q)
    (fin : Q (ds.map f) r) : compD one js tYesD te ds [] r Q := by
  refine idx_comp ds (fun i acc r' => acc = (ds.take i).map f ∧ r' = r) ?_ ?_ r ⟨rfl, rfl⟩
  · rintro i hi acc r' N ⟨rfl, rfl⟩ hN
    show tgD one js ds[i] r' fun r1 => te r1 fun y r3 => N ((ds.take i).map f ++ [y]) r3
    refine step _ (List.getElem_mem hi) _ fun r2 e => hN _ _ ⟨?_, e⟩
    rw [List.take_succ_eq_append_getElem hi, List.map_append]
    rfl
  · rintro acc r' ⟨rfl, rfl⟩
    rw [List.take_length]
    exact fin
theorem comp_mapA {α : Type} {one : Bool} {js : List Nat} {te : DTE} {Q : List D → DSt → Prop} (xs : List α) (g : α → D) (r : DSt) (f : α → D)
    (step : ∀ x ∈ xs, ∀ q : D → DSt → Prop, (∀ r', wipeD r' js = r → q (f x) r') → tgD one js (g x) r fun r1 => te r1 q)
    (fin : Q (xs.map f) r) : compD one js tYesD te (xs.map g) [] r Q := by
  refine idx_comp (xs.map g) (fun i acc r' => acc = (xs.take i).map f ∧ r' = r) ?_ ?_ r ⟨rfl, rfl⟩
  · rintro i hi acc r' N ⟨rfl, rfl⟩ hN
    rw [List.length_map] at hi
    show tgD one js (xs.map g)[i] r' fun r1 => te r1 fun y r3 => N ((xs.take i).map f ++ [y]) r3
    rw [List.getElem_map]
    refine step _ (List.getElem_mem hi) _ fun r2 e => hN _ _ ⟨?_, e⟩
    rw [List.take_succ_eq_append_getElem hi, List.map_append]
    rfl
  · rintro acc r' ⟨rfl, rfl⟩
    rw [List.length_map, List.take_length]
    exact fin
theorem map_on {α : Type} {g : DTG} {tb : DTS} {E : DEnds} (xs : List α) (h : α → D) (js : List Nat) (r : DSt) (I : Nat → List (Option Cell) → Prop)
    (step : ∀ (i : Nat) (hi : i < xs.length) cs (N : DSt → Prop), I i cs → (∀ cs', I (i + 1) cs' → N (putsC js cs' r)) → g (h xs[i]) (putsC js cs r) fun r1 => tb { E with nx := N, ct := N, bk := E.nx } r1)
    (fin : ∀ cs, I xs.length cs → E.nx (putsC js cs r)) (h0 : I 0 (js.map (dat r))) (e : putsC js (js.map (dat r)) r = r := by rfl) : loopD g tb (xs.map h) E r := by
  refine idx_on (xs.map h) js r I ?_ ?_ h0 e
  · rintro i hi cs N hI hN
    rw [List.length_map] at hi
    rw [List.getElem_map]
    exact step i hi cs N hI hN
  · intro cs hI
    rw [List.length_map] at hI
    exact fin cs hI
end DL
end
section
set_option Elab.async false
set_option linter.all false
set_option maxRecDepth 100000
namespace DL
open PySem PySem.Spec PyProof.Rows L2
end DL
end
section
set_option Elab.async false
set_option linter.all false
set_option maxRecDepth 100000
namespace DL
open PySem PySem.Spec PyProof.Rows L2
end DL
end
section
set_option Elab.async false
set_option linter.all false
set_option maxRecDepth 100000
namespace DL
open PySem PySem.Spec PyProof.Rows L2
abbrev lawSt (ns es : List Int) (k : Int) (c : Option Cell) (cs : List (Option Cell)) : DSt := some (.sh (scrD ns)) :: some (.sh (.list (es.map PyData.int))) :: some (.sh (.int k)) :: c :: cs
theorem nrm_in {r : DSt} {k : DSt → Prop} (h : k r) : nrm r k := by rw [nrm_eq]; exact h
theorem outer (L : Nat) {c : Int} (h0 : 0 < c) (h1 : c < 63) {rest : DTS}
    (hrest : ∀ (ns es : List Int) (k : Int) (m : M) (cs : List (Option Cell)) (E : DEnds), cs.length = L → 0 ≤ k → k < 63 → Box 0 m →
      (∀ c' cs', cs'.length = L → E.nx (lawSt ns es k c' cs')) → rest E (lawSt ns es k (some (.own m)) cs))
    (cs post) (h : spLaw cs post) : runD (L + 4) (sSeq (sSet 1 (eCallF 2 sp_fold (cCons (eVar 0) (cCons (eC (.int c)) cNil))))
      (sSeq (sFor (iR1 (aCons (eCall pMax2 (aCons (eC (.int 2)) (aCons (eLenV 1) aNil))) aNil)) (gNm 2) (sSeq (sSetO 3 (oCallF 2 sp_box (cCons (eVar 1) (cCons (eVar 2) cNil)))) rest))
      (sRet (eC (.bool true))))) cs post := by
  obtain ⟨ns, rfl, hl, hb, q⟩ := h
  refine nrm_in ?_
  have hN : startD (L + 4) [.sh (scrD ns)] = some (.sh (scrD ns)) :: none :: none :: none :: List.replicate L none := by
    show [some (Cell.sh (scrD ns))] ++ List.replicate (L + 3) none = _
    rfl
  rw [hN]
  refine ⟨rfl, .nil, ns, c, rfl, h0, h1, hl, fun es hes => nrm_in (nrm_in ?_)⟩
  have hm : 0 ≤ (if ((es.map PyData.int).length : Int) > 2 then ((es.map PyData.int).length : Int) else 2) ∧ (if ((es.map PyData.int).length : Int) > 2 then ((es.map PyData.int).length : Int) else 2) < 63 := by rw [List.length_map]; split <;> omega
  refine ⟨by omega, by omega, ?_⟩
  refine loop_inv (fun t r => (∀ d ∈ t, ∃ k : Int, d = .int k ∧ 0 ≤ k ∧ k < 63) ∧ ∃ c2 c3 cs, cs.length = L ∧ r = some (.sh (scrD ns)) :: some (.sh (.list (es.map PyData.int))) :: c2 :: c3 :: cs) ?_ ?_ _ _ ?_
  · rintro d t r N ⟨hd, c2, c3, cs, hcs, rfl⟩ hN
    obtain ⟨k, rfl, hk0, hk⟩ := hd _ List.mem_cons_self
    refine nrm_in ⟨rfl, .nil, es, k, rfl, hk0, by omega, fun m bm => nrm_in (nrm_in ?_)⟩
    exact hrest ns es k m cs _ hcs hk0 hk bm fun c' cs' h' => hN _ ⟨fun d h => hd d (List.mem_cons_of_mem _ h), _, _, _, h', rfl⟩
  · rintro r ⟨_, c2, c3, cs, hcs, rfl⟩
    exact q
  · refine ⟨fun d h => ?_, none, none, _, List.length_replicate, rfl⟩
    obtain ⟨k, e, h1, h2⟩ := rng_mem _ _ _ h
    exact ⟨k, e, h1, by omega⟩
/-- what follows a statement, told once: by the slots that it changes -/
theorem seq_on {a R : DTS} {E : DEnds} {r : DSt} (js : List Nat) (I : List (Option Cell) → Prop) (h1 : ∀ N : DSt → Prop, (∀ cs, I cs → N (putsC js cs r)) → a { E with nx := N } r) (h2 : ∀ cs, I cs → R E (putsC js cs r)) : sSeq a R E r :=
  h1 _ fun cs h => h2 cs h
theorem cut_from {α : Type} (xs : List α) (k : Int) (h : 0 ≤ k) : cutD xs (some k) none = xs.drop k.toNat := by
  show (xs.drop (if k < 0 then (k + (xs.length : Int)).toNat else min k.toNat xs.length)).take (xs.length - (if k < 0 then (k + (xs.length : Int)).toNat else min k.toNat xs.length)) = _
  rw [if_neg (by omega)]
  by_cases h2 : k.toNat ≤ xs.length
  · rw [Nat.min_eq_left h2, List.take_of_length_le (by rw [List.length_drop]; omega)]
  · rw [Nat.min_eq_right (by omega), List.drop_eq_nil_of_le (Nat.le_refl _), List.drop_eq_nil_of_le (by omega)]; simp
end DL
end
section
set_option Elab.async false
set_option linter.all false
set_option maxRecDepth 100000
set_option maxHeartbeats 1000000
namespace DL
open PySem PySem.Spec PyProof.Rows L2
end DL
namespace DL
open PySem PySem.Spec PyProof.Rows L2
end DL
end
section
set_option Elab.async false
set_option linter.all false
set_option maxRecDepth 100000
namespace DL
open PySem PySem.Spec PyProof.Rows L2
inductive Item where
  | d (x : D)
  | m (x : M)
abbrev DTX := DSt → (List Item → DSt → Prop) → Prop
inductive XOk (K : PySem.W.Frag) (W : Wd) (r : DSt) (F : Hp) (σ : St) (H : Hp) : List Item → List V → List Addr → Prop
  | nil : XOk K W r F σ H [] [] []
  | d {x : D} {v : V} {is : List Item} {vs : List V} {as : List Addr} : Rp K F v x → XOk K W r F σ H is vs as → XOk K W r F σ H (.d x :: is) (v :: vs) as
  | m {x : M} {a : Addr} {o : HO} {is : List Item} {vs : List V} {as : List Addr} : H a = some o → F a = none → MOk K F a o x → W.H0 a = none → Apart r σ a → a ∉ as → XOk K W r F σ H is vs as → XOk K W r F σ H (.m x :: is) (.ref a :: vs) (a :: as)
def liftX (K : PySem.W.Frag) (W : Wd) (t : DTX) : TA := fun σ H Q => ∃ r F q, Rel K W r F σ H ∧ t r q ∧ ∀ is r' vs as F' H', q is r' → Rel K W r' F' σ H' → Same F F' → XOk K W r' F' σ H' is vs as → Q vs H'
structure DX (X : Cx) (es : List Expr) (t : DTX) : Prop where
  run : ∀ W, PA X es (liftX X.K W t)
def xNil : DTX := fun r q => q [] r
def xCons (te : DTE) (tr : DTX) : DTX := fun r q => te r fun d r1 => tr r1 fun is r2 => q (.d d :: is) r2
def xOwn (to : DTO) (tr : DTX) : DTX := fun r q => to r fun m r1 => tr r1 fun is r2 => q (.m m :: is) r2
theorem XOk.fresh {K : PySem.W.Frag} {W : Wd} {r : DSt} {F : Hp} {σ : St} {H : Hp} : ∀ {is : List Item} {vs : List V} {as : List Addr}, XOk K W r F σ H is vs as → ∀ a ∈ as, W.H0 a = none
  | _, _, _, .nil, a, h => by cases h
  | _, _, _, .d _ t, a, h => XOk.fresh t a h
  | _, _, _, .m _ _ _ h0 _ _ t, a, h => by
    rcases List.mem_cons.1 h with rfl | h
    · exact h0
    · exact XOk.fresh t a h
theorem XOk.world {K : PySem.W.Frag} {W W' : Wd} {r : DSt} {F : Hp} {σ : St} {H : Hp} (w : ∀ a, W.H0 a = none → W'.H0 a = none) : ∀ {is : List Item} {vs : List V} {as : List Addr}, XOk K W r F σ H is vs as → XOk K W' r F σ H is vs as
  | _, _, _, .nil => .nil
  | _, _, _, .d p t => .d p (XOk.world w t)
  | _, _, _, .m h1 h2 h3 h4 h5 h6 t => .m h1 h2 h3 (w _ h4) h5 h6 (XOk.world w t)
section
variable {X : Cx} {e : Expr} {es : List Expr} {te : DTE} {to : DTO} {tr : DTX} {pos : Pos}
theorem x_nil : DX X [] xNil := by
  refine ⟨fun W => pa_weak pa_nil fun σ H Q h => ?_⟩
  obtain ⟨r, F, q, R, t, w⟩ := h
  exact w [] r [] [] F H t R (Same.refl _) .nil
theorem x_cons (he : DE X e te) (hr : DX X es tr) (hs : starEach (e :: es) X.env = (false, eval e X.env) :: starEach es X.env := by rfl) : DX X (e :: es) (xCons te tr) := by
  refine ⟨fun W => pa_weak (pa_cons (he.run W) (hr.run W) hs) fun σ H Q h => ?_⟩
  obtain ⟨r, F, q, R, t, w⟩ := h
  refine ⟨r, F, _, R, t, fun d r1 v F1 H1 t1 R1 s1 p1 => ⟨r1, F1, _, R1, t1, fun is r2 vs as F2 H2 t2 R2 s2 x2 => ?_⟩⟩
  exact w _ r2 _ as F2 H2 t2 R2 (s1.trans s2) (.d (p1.up s2) x2)
theorem x_own (ho : DO X e to) (hr : DX X es tr) (hs : starEach (e :: es) X.env = (false, eval e X.env) :: starEach es X.env := by rfl) : DX X (e :: es) (xOwn to tr) := by
  refine ⟨fun W => ⟨fun pos pins s σ H Q I h => ?_⟩⟩
  rw [hs]
  show wpAny _ _ (spliced ((false, eval e X.env) :: backTo pos (starEach es X.env))) _ _ s
  obtain ⟨r, F, q, R, t, w⟩ := h
  refine Calls.spliced_cons (thn ((ho.run W).run pins s σ H (fun v H1 => ∃ m r1 a o F1, v = V.ref a ∧ Rel X.K W r1 F1 σ H1 ∧ Same F F1 ∧ H1 a = some o ∧ F1 a = Option.none ∧ MOk X.K F1 a o m ∧ W.H0 a = Option.none ∧ Apart r1 σ a ∧ tr r1 fun is r2 => q (.m m :: is) r2) I ⟨r, F, _, R, t, fun m r1 a o F1 H1 t1 R1 s1 ha fa mo h0 ap => ⟨m, r1, a, o, F1, rfl, R1, s1, ha, fa, mo, h0, ap, t1⟩⟩) fun u s1 ⟨v, H1, I1, rv, m, r1, a, o, F1, hv, R1, s1', ha, fa, mo, h0, ap, t1⟩ => ?_)
  subst hv
  have nA : ¬ (here r1 F1 σ H1).A a := fun z => by
    rcases z with ⟨i, m, e, z⟩ | ⟨i, g, m, e, z⟩
    · exact ap.sl i m e z
    · exact ap.rg i g m e z
  refine thn ((hr.run (here r1 F1 σ H1)).run pos pins s1 σ H1 (fun vs H2 => Q (V.ref a :: vs) H2) I1 ⟨r1, F1, _, R1.enter, t1, fun is r2 vs as F2 H2 t2 R2 s2 x2 => ?_⟩) fun us s2 ⟨xs, H2, I2, r2, q2⟩ => ⟨V.ref a :: xs, H2, I2, .cons rv r2, q2⟩
  have ha2 : H2 a = some o := R2.keep a _ ha nA
  have fa2 : F2 a = Option.none := by
    cases q : F2 a with
    | none => rfl
    | some u =>
      rcases R2.new a (ne_none q) with z | z | z
      · exact absurd fa z
      · have z' : H1 a = Option.none := z
        rw [ha] at z'; cases z'
      · exact absurd z nA
  have ap2 : Apart r2 σ a := ⟨fun i m e z => by
    rcases e with e | e
    · obtain ⟨b, u, h1, h2, h3, h4, h5⟩ := R2.own i m e
      rw [z] at h1; cases h1
      rcases h5 with z | z
      · exact nA z
      · have z' : H1 a = Option.none := z
        rw [ha] at z'; cases z'
    · obtain ⟨b, u, h1, h2, h3, h4, h5⟩ := R2.io i m e
      rw [z] at h1; cases h1
      exact nA (R2.ioA i _ h5), fun i g m e z => by
    obtain ⟨u, h2, h3, h4, h5⟩ := (R2.rg i g e).ob a m z
    rcases h5 with z | z
    · exact nA z
    · have z' : H1 a = Option.none := z
      rw [ha] at z'; cases z'⟩
  have na : a ∉ as := fun z => by
    have z' : H1 a = Option.none := x2.fresh a z
    rw [ha] at z'; cases z'
  have hw : ∀ b, H1 b = Option.none → W.H0 b = Option.none := fun b z => by
    cases q : W.H0 b with
    | none => rfl
    | some u => exact absurd z (R1.there b (ne_none q))
  exact w _ r2 _ (a :: as) F2 H2 t2 (R1.leave R2) (s1'.trans s2) (.m ha2 fa2 (mo.up s2) h0 ap2 na (x2.world hw))
end
def putX : List Nat → List Item → DSt → DSt
  | j :: js, .d x :: is, r => putX js is (dput r j (some (.sh x)))
  | j :: js, .m x :: is, r => putX js is (dput r j (some (.own x)))
  | _, _, r => r
theorem apart_put {r : DSt} {σ : St} {j : Nat} {c : Cell} {v : V} {a : Addr} (h : Apart r σ a) (hl : r.length = σ.length) (hc : (∃ d, c = .sh d) ∨ ((∃ x, c = .own x) ∧ v ≠ V.ref a)) : Apart (dput r j (some c)) (σ.set j (some v)) a := ⟨fun i m e z => by
  by_cases hi : j = i
  · subst hi
    have hlt : j < r.length := by
      rcases e with e | e
      · exact (dat_put e).2
      · exact (dat_put e).2
    rw [dat_put_same hlt] at e
    rcases hc with ⟨d, rfl⟩ | ⟨_, hv⟩
    · rcases e with e | e <;> cases e
    · rw [List.getElem?_set_self (by omega)] at z
      cases z
      exact hv rfl
  · rw [List.getElem?_set_ne hi] at z
    rw [dat_put_ne hi] at e
    exact h.sl i m e z, fun i g m e z => by
  by_cases hi : j = i
  · subst hi
    have q := (dat_put e).1
    rcases hc with ⟨d, rfl⟩ | ⟨⟨x, rfl⟩, hv⟩ <;> cases q
  · rw [dat_put_ne hi] at e
    exact h.rg i g m e z⟩
theorem XOk.put {K : PySem.W.Frag} {W : Wd} {r : DSt} {F : Hp} {σ : St} {H : Hp} {j : Nat} {c : Cell} {v : V} (hl : r.length = σ.length) : ∀ {is : List Item} {vs : List V} {as : List Addr}, ((∃ d, c = .sh d) ∨ ((∃ x, c = .own x) ∧ ∀ a ∈ as, v ≠ V.ref a)) → XOk K W r F σ H is vs as → XOk K W (dput r j (some c)) F (σ.set j (some v)) H is vs as
  | _, _, _, _, .nil => .nil
  | _, _, _, h, .d p t => .d p (XOk.put hl h t)
  | _, _, _, h, .m h1 h2 h3 h4 h5 h6 t => .m h1 h2 h3 h4 (apart_put h5 hl (h.imp id fun q => ⟨q.1, q.2 _ List.mem_cons_self⟩)) h6 (XOk.put hl (h.imp id fun q => ⟨q.1, fun b hb => q.2 b (List.mem_cons_of_mem _ hb)⟩) t)
theorem Rel.putX {K : PySem.W.Frag} {W : Wd} {F : Hp} {H : Hp} : ∀ {js : List Nat} {is : List Item} {vs : List V} {as : List Addr} {r : DSt} {σ : St}, Rel K W r F σ H → XOk K W r F σ H is vs as → Rel K W (putX js is r) F (putsV js vs σ) H
  | [], _, _, _, _, _, R, .nil => R
  | [], _, _, _, _, _, R, .d _ _ => R
  | [], _, _, _, _, _, R, .m _ _ _ _ _ _ _ => R
  | _ :: _, _, _, _, _, _, R, .nil => R
  | j :: js, _, _, _, _, _, R, .d p t => Rel.putX (js := js) (R.put j (some (.sh _)) _ p) (t.put R.len (.inl ⟨_, rfl⟩))
  | j :: js, _, _, _, _, _, R, .m h1 h2 h3 h4 h5 h6 t => Rel.putX (js := js) (R.put j (some (.own _)) (.ref _) ⟨_, _, rfl, h1, h2, h3, .inr h4, fun k n _ z => h5.sl k n z, h5.rg⟩) (t.put R.len (.inr ⟨⟨_, rfl⟩, fun b hb z => by cases z; exact h6 hb⟩))
theorem XOk.len {K : PySem.W.Frag} {W : Wd} {r : DSt} {F : Hp} {σ : St} {H : Hp} : ∀ {is : List Item} {vs : List V} {as : List Addr}, XOk K W r F σ H is vs as → is.length = vs.length
  | _, _, _, .nil => rfl
  | _, _, _, .d _ t => congrArg (· + 1) (XOk.len t)
  | _, _, _, .m _ _ _ _ _ _ t => congrArg (· + 1) (XOk.len t)
def sPutX (js : List Nat) (tx : DTX) : DTS := fun E r => tx r fun is r1 => is.length = js.length ∧ nrm (putX js is r1) E.nx
section
variable {X : Cx} {tx : DTX} {pos : Pos}
theorem ds_parX {i j : Nat} {x y : Str} {a b : Expr} {px py pt : Pos} {kt k2 pt2} (hc : X.calm = true) (hN : X.N.Nodup) (hi : X.N[i]? = some x) (hj : X.N[j]? = some y) (hij : i ≠ j)
    (hx : X.env.scope.names.lookup x = some .local) (hy : X.env.scope.names.lookup y = some .local) (ha : DX X [a, b] tx)
    (hw : swappedStores [.Tuple [.Name x px, .Name y py] kt pt] (.Tuple [a, b] k2 pt2) X.env = pure (some [x, y]))
    (hs : swapsWithSole [.Tuple [.Name x px, .Name y py] kt pt] (.Tuple [a, b] k2 pt2) pos.line X.env = pure false := by rfl) :
    DS X (.Assign [.Tuple [.Name x px, .Name y py] kt pt] (.Tuple [a, b] k2 pt2) pos) (sPutX [i, j] tx) := by
  refine ⟨fun W => ps_weak (ps_par hc hN hi hj hij hx hy (ha.run W) hw hs) fun D σ H h => ?_⟩
  obtain ⟨r, F, q, R, t, w⟩ := h
  refine ⟨r, F, _, R, t, fun is r' vs as F' H' a b c p => ?_⟩
  have hl := p.len
  match vs, p, hl.symm.trans a.1 with
  | [v, u], p, _ => exact ⟨_, _, rfl, w.nx _ _ F' H' (nrm_el a.2) (b.putX (js := [i, j]) p) c⟩
end
end DL
end
section
set_option Elab.async false
set_option linter.all false
set_option maxRecDepth 100000
namespace DL
open PySem PySem.Spec PyProof.Rows L2
end DL
end
section
set_option Elab.async false
set_option linter.all false
set_option maxRecDepth 100000
set_option maxHeartbeats 4000000
namespace PySem.SeqAt
open AutoSeq1 (wpAny_loadPart')
open MeetsSeq MeetsSeq2 MeetsSeq3 SeqRoads2
end PySem.SeqAt
namespace DL
open PySem PySem.Spec PyProof.Rows L2
end DL
end
section
set_option Elab.async false
set_option linter.all false
set_option maxRecDepth 100000
set_option maxHeartbeats 1000000
namespace DL
open PySem PySem.Spec PyProof.Rows L2
end DL
end
section
set_option Elab.async false
set_option linter.all false
set_option maxRecDepth 100000
set_option maxHeartbeats 1000000
namespace DL
open PySem PySem.Spec PyProof.Rows L2
end DL
end
section
set_option Elab.async false
set_option linter.all false
set_option maxRecDepth 100000
set_option maxHeartbeats 1000000
namespace DL
open PySem PySem.Spec PyProof.Rows L2
end DL
end
section
set_option Elab.async false
set_option linter.all false
set_option maxRecDepth 100000
set_option maxHeartbeats 1000000
namespace DL
open PySem PySem.Spec PyProof.Rows L2
section
variable {X : Cx} {K : PySem.W.Frag}
def pIns (ds es : List D) (q : D → List D → Prop) : Prop := match es with
  | [.int i, d] => ds.length < sizeLine ∧ 0 ≤ i ∧ i < 2 ^ 63 ∧ q .none (ds.take i.toNat ++ [d] ++ ds.drop i.toNat)
  | _ => False
def rIns : V → List V → Hp → VK → Prop := fun x vs H Q => ∃ (l : Addr) (xs : List V) (i : Int) (y : V), x = .ref l ∧ vs = [.int i, y] ∧ H l = some (.lst xs) ∧ xs.length < sizeLine ∧ 0 ≤ i ∧ i < 2 ^ 63 ∧
  Q .non (upd H l (.lst (xs.take i.toNat ++ [y] ++ xs.drop i.toNat)))
theorem vm_ins : VMut rIns pIns := by
  intro K F H a vs ds xs es q Q s ha fa p1 p2 t h
  match es, p2, t with
  | [.int i, d], .cons (.int _) (.cons k1 .nil), ⟨t1, t2, t3, t⟩ =>
    exact ⟨a, vs, i, _, rfl, rfl, ha, by rw [p1.length]; exact t1, t2, t3, h _ _ _ _ t (((p1.take _).append (.cons k1 .nil)).append (p1.drop _)) .non⟩
theorem d_insert (i : Nat) {x : Str} {e f : Expr} {ta : DTA} {p apos cpos : Pos} (ha : DA X [e, f] ta) (hN : X.N[i]? = some x := by rfl) (hvis : Vis X.env.scope x := by first | exact Or.inl rfl | exact Or.inr (Or.inl rfl) | exact Or.inr (Or.inr rfl)) (hd : (x == ("__debug__" : Str)) = false := by decide) (hcd : (x == ("__classdict__" : Str)) = false := by decide)
    (hbase : attributeBase (.Name x p) "insert" X.env (eval (.Name x p) X.env) = eval (.Name x p) X.env := by rfl) (hline : (apos.endLine == cpos.line) = true := by rfl)
    (hfew : ((backTo cpos (starEach [e, f] X.env)).all (fun x => !x.1) && (backToKw cpos (keywordEach [] X.env)).all (fun x => x.1.isSome) && decide ([e, f].length + ([] : List Keyword).length + (if ([] : List Keyword).isEmpty then 0 else 1) < 30)) = true := by rfl)
    (hst : starEach [e, f] X.env = (false, eval e X.env) :: starEach [f] X.env := by rfl) (hpl : (backTo cpos (starEach [f] X.env)).any (·.1) = false := by rfl) :
    DE X (.Call (.Attribute (.Name x p) "insert" apos) [e, f] [] cpos) (eMutL i pIns ta) :=
  d_mut i PySem.F.slot_list_insert PySem.F.type_list_insert (rr := rIns) mt_insert vm_ins ha hN hvis hd hcd fun W => pe_bm PySem.F.plainAttrs_list PySem.F.slot_list_insert PySem.F.type_list_insert mt_insert (pe_var hN hvis hd hcd) (ha.run W) hbase hfew hline hst hpl
end
end DL
end
section
set_option Elab.async false
set_option linter.all false
set_option maxRecDepth 100000
set_option maxHeartbeats 4000000
namespace DL
open PySem PySem.Spec PyProof.Rows L2
def tgT (ns : List Int) : D := .dict [(.none, .dict [(.none, .list (ns.map PyData.int))])]
theorem ints_inj : ∀ {ns ms : List Int}, ns.map PyData.int = ms.map PyData.int → ns = ms
  | [], [], _ => rfl
  | [], _ :: _, h => nomatch h
  | _ :: _, [], h => nomatch h
  | a :: ns, b :: ms, h => by
    rw [List.map_cons, List.map_cons] at h
    injection h with h1 h2
    injection h1 with h1
    rw [h1, ints_inj h2]
theorem tg_inv {K : PySem.W.Frag} {F : Hp} {v : V} {ns : List Int} (p : Rp K F v (tgT ns)) : ∃ a o, v = .ref a ∧ F a = some (.frz o (.tup (ns.map V.int))) ∧ o.dict = none := by
  generalize e : tgT ns = d at p
  unfold tgT at e
  cases p with
  | @tgt a o ms h1 h2 =>
    have e2 : ns.map PyData.int = ms.map PyData.int := by
      injection e with e
      injection e with e _
      injection e with _ e
      injection e with e
      injection e with e _
      injection e with _ e
      injection e
    rw [ints_inj e2]
    exact ⟨a, o, rfl, h1, h2⟩
  | dic h1 h2 =>
    injection e with e
    cases h2 with
    | nil => nomatch e
    | @cons k v ps d ds' k1 k2 =>
      injection e with e _
      injection e with e _
      cases k <;> cases e
  | dit h1 hn h2 =>
    injection e with e
    cases h2 with
    | nil => nomatch e
    | cons a b c d =>
      injection e with e _
      injection e with e _
      cases e
  | _ => cases e
/-- what a datum is when marks are forgotten -/
inductive Unt : D → D → Prop
  | refl (d : D) : Unt d d
  | tg (ns : List Int) : Unt (tgT ns) (.tuple (ns.map PyData.int))
  | two {a b a' b' : D} : Unt a a' → Unt b b' → Unt (.tuple [a, b]) (.tuple [a', b'])
theorem tg_tup {K : PySem.W.Frag} {F : Hp} {v : V} {ns : List Int} (p : Rp K F v (tgT ns)) : Rp K F v (.tuple (ns.map PyData.int)) := by
  obtain ⟨a, o, rfl, h, _⟩ := tg_inv p
  exact .tup (.inl (.inr ⟨o, h⟩)) (RpAll.ints ns)
theorem Unt.rp {K : PySem.W.Frag} {F : Hp} {d d' : D} (u : Unt d d') : ∀ v, Rp K F v d → Rp K F v d' := by
  induction u with
  | refl d => exact fun v p => p
  | tg ns => exact fun v p => tg_tup p
  | two u1 u2 i1 i2 =>
    intro v p
    cases p with
    | tup h1 h2 =>
      cases h2 with
      | cons k1 k2 =>
        cases k2 with
        | cons k2 k3 => exact .tup h1 (.cons (i1 _ k1) (.cons (i2 _ k2) k3))
def eUn (te : DTE) : DTE := fun r q => te r fun d r1 => ∃ d', Unt d d' ∧ q d' r1
section
variable {X : Cx}
theorem d_un_ {e : Expr} {te : DTE} (h : DE X e te) : DE X e (eUn te) := ⟨fun W => pe_weak (h.run W) fun σ H Q h => by
  obtain ⟨r, F, q, R, t, w⟩ := h
  refine ⟨r, F, _, R, t, fun d r1 v F1 H1 t1 R1 s1 p1 => ?_⟩
  obtain ⟨d', u, q1⟩ := t1
  exact w d' r1 v F1 H1 q1 R1 s1 (u.rp v p1)⟩
def tTupT (t : TA) : TE := fun σ H Q => t σ H fun xs H1 => xs.length ≤ sizeLine ∧ ∀ p o, H1 p = none → o.dict = none → Q (.ref p) (upd H1 p (.frz o (.tup xs)))
theorem pe_tupT {es : List Expr} {t : TA} {x1 : Nat} {pos : Pos} (h : PA X es t) : PE X (.Tuple es x1 pos) (tTupT t) := by
  refine ⟨fun pins s σ H Q I hq => ?_⟩
  refine wpAny_Tuple_spliced (thn (h.run pos pins s σ H _ I hq) fun us s1 ⟨xs, H1, I1, r, z, q⟩ => ⟨by rw [← r.length]; exact z, ?_⟩)
  have hf : H1 s1.heap.objs.size = none := I1.hok.fresh (Nat.le_refl _)
  exact ⟨.ref s1.heap.objs.size, upd H1 s1.heap.objs.size (.frz _ (.tup xs)), I1.laid (t' := s1.toks) (fun b u e => Heap.get?_push_of_some _ e) (Nat.le_refl _) (show ObjOk X.prog X.w _ _ _ (.frz _ (.tup xs)) from ⟨Heap.get?_push_size _ rfl, z, us, r, ⟨_, Heap.get?_push_size _ rfl, rfl, _, rfl⟩⟩), rfl, q _ _ hf rfl⟩
def eTupT (ta : DTA) : DTE := fun r q => ta r fun xs r1 => xs.length ≤ sizeLine ∧ ∃ ns : List Int, xs = ns.map PyData.int ∧ q (tgT ns) r1
theorem d_tupT {es : List Expr} {k : Nat} {pos : Pos} {ta : DTA} (h : DA X es ta) : DE X (.Tuple es k pos) (eTupT ta) := by
  refine ⟨fun W => pe_weak (pe_tupT (h.run W)) fun σ H Q h => ?_⟩
  obtain ⟨r, F, q, R, t, w⟩ := h
  refine ⟨r, F, _, R, t, fun ds r1 vs F1 H1 t1 R1 s1 p1 => ⟨p1.length ▸ t1.1, fun p o hp ho => ?_⟩⟩
  obtain ⟨_, ns, rfl, t2⟩ := t1
  have e := ext_new (o := .frz o (.tup vs)) R1.sub hp
  have ev := RpAll.ofInts p1
  subst ev
  exact w _ r1 _ _ _ t2 (R1.ext e) (s1.trans e.f) (.tgt upd_same ho)
def BareT (H : Hp) (p : Addr) (xs : List V) : Prop := ∃ o, H p = some (.frz o (.tup xs)) ∧ o.dict = none
theorem BareT.sq {K : PySem.W.Frag} {H : Hp} {p : Addr} {xs : List V} (h : BareT H p xs) : SqT K H p xs := .inl (.inr ⟨h.choose, h.choose_spec.1⟩)
def rRepTg : R2 := fun x y H Q => ∃ l k xs, x = .ref l ∧ y = .int k ∧ BareT H l xs ∧ -(2 ^ 63) ≤ k ∧ k < 2 ^ 63 ∧ xs.length * k.toNat ≤ sizeLine ∧
  ((xs = [] ∨ k = 1) → Q (.ref l) H) ∧ (xs ≠ [] → k ≠ 1 → ∀ p o, H p = none → o.dict = none → Q (.ref p) (upd H p (.frz o (.tup (List.replicate k.toNat xs).flatten))))
theorem op_repTg : OpR X (binaryOp .Mult) rRepTg := by
  intro pins s σ H x y v u Q I rx ry h
  obtain ⟨l, k, xs, rfl, rfl, hB, hk1, hk2, hz, q1, q2⟩ := h
  have hT : SqT X.K H l xs := hB.sq
  cases rx
  obtain ⟨t, rfl⟩ := ry
  obtain ⟨its, r, ⟨⟨cls, dd, data, sl⟩, ho, hc, n, hd⟩, hs⟩ := I.tuple hT
  simp only at hc hd
  subst hc hd
  have hle : its.length = xs.length := r.length.symm
  have c0 : (decide (k < -(2 ^ 63)) || decide (k ≥ 2 ^ 63)) = false := by
    rw [decide_eq_false (by omega), decide_eq_false (by omega)] <;> rfl
  have hsz0 : its.toArray.size = xs.length := by rw [List.size_toArray, hle]
  have emp : its.toArray.isEmpty = xs.isEmpty := by
    cases r <;> simp
  have tail : ∀ {R : Value → Shared → Prop}, wpAny (model X.prog X.w) X.A (call (.builtin "tuple.__mul__") [.ref l, .int k t]) R X.xe s → wpAny (model X.prog X.w) X.A (binaryOp .Mult (.ref l) (.int k t)) R X.xe s := fun {R} h =>
    wpAny_binaryOp_repeat_ref (T := "tuple") (U := "int") (by decide) ⟨_, ho, rfl⟩ (fun s' => typeIs_int s' k t) noFill_tuple_mul F.fills_int_mul F.slot_int_rmul repeat_tuple F.slot_int_index.lookup
      (call_meets F.slot_int_rmul (typeIs_int s k t) F.entry_int_rmul (F.args_int_rmul_2 _ _) (int_rmul_tuple k t l its.toArray n dd sl) ⟨ho, rfl, ⟨_, ho, rfl⟩, h⟩)
  by_cases h1 : (its.toArray.isEmpty || k == 1) = true
  · refine tail (call_meets F.slot_tuple_mul ⟨_, ho, rfl⟩ F.entry_tuple_mul (F.args_tuple_mul_2 _ _) (tup_mul_same l its.toArray n dd sl k t c0 h1) ⟨ho, ?_⟩)
    refine ⟨.ref l, H, I, rfl, q1 ?_⟩
    rw [Bool.or_eq_true, emp] at h1
    rcases h1 with z | z
    · exact .inl (by simpa using z)
    · exact .inr (by simpa using z)
  · have h1' : (its.toArray.isEmpty || k == 1) = false := by simpa using h1
    have h1b := h1'
    rw [Bool.or_eq_false_iff, emp] at h1b
    have ne : xs ≠ [] := by simpa using h1b.1
    have nk : k ≠ 1 := by simpa using h1b.2
    by_cases h2 : (decide (k ≤ 0) || its.toArray.isEmpty) = true
    · refine tail (call_meets F.slot_tuple_mul ⟨_, ho, rfl⟩ F.entry_tuple_mul (F.args_tuple_mul_2 _ _) (tup_mul_none l its.toArray n dd sl k t c0 h1' h2) ⟨ho, ?_⟩)
      have k0 : k.toNat = 0 := by
        rw [Bool.or_eq_true, emp] at h2
        rcases h2 with z | z
        · have := of_decide_eq_true z
          omega
        · exact absurd (by simpa using z) ne
      have e : (List.replicate k.toNat xs).flatten = [] := by rw [k0]; rfl
      have q3 := q2 ne nk
      rw [e] at q3
      exact ⟨.ref s.heap.objs.size, upd H s.heap.objs.size (.frz _ (.tup [])), I.laid (t' := s.toks) (fun b ob q => Heap.get?_push_of_some _ q) (Nat.le_refl _) (show ObjOk X.prog X.w _ _ _ (.frz _ (.tup [])) from ⟨Heap.get?_push_size _ rfl, Nat.zero_le _, [], .nil, IsTup.new _ _⟩), rfl, q3 _ _ (I.hok.fresh (Nat.le_refl _)) rfl⟩
    · have h2' : (decide (k ≤ 0) || its.toArray.isEmpty) = false := by simpa using h2
      have h2b := h2'
      rw [Bool.or_eq_false_iff] at h2b
      have kp : 0 < k := by
        have := of_decide_eq_false h2b.1
        omega
      have hm : ((its.toArray.size : Nat) : Int) * k ≤ 16777216 := by
        rw [hsz0]
        have e1 : (k.toNat : Int) = k := by omega
        have e2 : ((xs.length * k.toNat : Nat) : Int) ≤ 16777216 := by
          have := hz
          rw [sizeLine_eq] at this
          omega
        rw [Int.natCast_mul, e1] at e2
        exact e2
      have flen : (List.replicate k.toNat its).flatten.length ≤ sizeLine := by
        rw [PyProof.Rows.lm_len_rep_flat, hle, Nat.mul_comm]
        exact hz
      have c4 : Builtin.Tuple.tupleTooMany (((its.toArray.size : Nat) : Int) * k) = false := by
        unfold Builtin.Tuple.tupleTooMany
        rw [sizeLine_eq]
        exact decide_eq_false (by omega)
      refine tail (call_meets F.slot_tuple_mul ⟨_, ho, rfl⟩ F.entry_tuple_mul (F.args_tuple_mul_2 _ _) (tuple_mulW l its.toArray n dd sl k t c0 h1' h2' (by omega) c4 (by rw [size_rep, List.size_toArray]; exact flen)) ⟨ho, ?_⟩)
      rw [size_rep]
      exact ⟨.ref s.heap.objs.size, upd H s.heap.objs.size (.frz _ (.tup (List.replicate k.toNat xs).flatten)), I.laid (t' := s.toks) (fun b ob q => Heap.get?_push_of_some _ q) (Nat.le_refl _) (show ObjOk X.prog X.w _ _ _ (.frz _ (.tup (List.replicate k.toNat xs).flatten)) from ⟨Heap.get?_push_size _ rfl, by rw [PyProof.Rows.lm_len_rep_flat, Nat.mul_comm]; exact hz, _, r.rep k.toNat, IsTup.new _ _⟩), rfl, q2 ne nk _ _ (I.hok.fresh (Nat.le_refl _)) rfl⟩
theorem rep_ints (k : Nat) (ns : List Int) : (List.replicate k (ns.map V.int)).flatten = ((List.replicate k ns).flatten).map V.int := by
  induction k with
  | zero => rfl
  | succ k ih => rw [List.replicate_succ, List.flatten_cons, ih, List.replicate_succ, List.flatten_cons, List.map_append]
def pMulTg : P2 := fun x y q => ∃ (ns : List Int) (k : Int), x = tgT ns ∧ y = .int k ∧ (-(2 ^ 63) ≤ k ∧ k < 2 ^ 63 ∧ ns.length * k.toNat ≤ sizeLine) ∧ q (tgT (List.replicate k.toNat ns).flatten)
theorem v_mulTg {K : PySem.W.Frag} : VOp K rRepTg pMulTg := by
  intro F H x y dx dy q Q s px py t h
  obtain ⟨ns, k, rfl, rfl, b, t⟩ := t
  obtain ⟨a, o, rfl, h1, h2⟩ := tg_inv px
  cases py with
  | int k =>
    refine ⟨a, k, _, rfl, rfl, ⟨o, s _ _ h1, h2⟩, b.1, b.2.1, by rw [List.length_map]; exact b.2.2, fun z => ?_, fun z1 z2 p o' hp ho => ?_⟩
    · rcases z with z | z
      · cases ns with
        | nil =>
          rw [rep_nil] at t
          exact h _ _ _ _ t (Ext.refl s) (.tgt h1 h2)
        | cons n ns => nomatch z
      · subst z
        rw [rep_one] at t
        exact h _ _ _ _ t (Ext.refl s) (.tgt h1 h2)
    · rw [rep_ints]
      have e := ext_new (o := .frz o' (.tup (((List.replicate k.toNat ns).flatten).map V.int))) s hp
      exact h _ _ _ _ t e (.tgt upd_same ho)
def rCatT' : R2 := fun x y H Q => ∃ a b xs ys, x = .ref a ∧ y = .ref b ∧ BareT H a xs ∧ BareT H b ys ∧ xs.length + ys.length ≤ sizeLine ∧
  (xs = [] → Q (.ref b) H) ∧ (xs ≠ [] → ys = [] → Q (.ref a) H) ∧ (xs ≠ [] → ys ≠ [] → ∀ p o, H p = none → o.dict = none → Q (.ref p) (upd H p (.frz o (.tup (xs ++ ys)))))
theorem op_catT' : OpR X (binaryOp .Add) rCatT' := by
  intro pins s σ H x y v u Q I rx ry h
  obtain ⟨a, b, xs, ys, rfl, rfl, ha, hb, hz, q0, q1, q2⟩ := h
  cases rx
  cases ry
  obtain ⟨its, r1, p1, _⟩ := I.tuple (ha.sq (K := X.K))
  obtain ⟨its2, r2, p2, _⟩ := I.tuple (hb.sq (K := X.K))
  by_cases hx : xs = []
  · subst hx
    cases r1
    exact cat_tup0 p1 p2 ⟨.ref b, H, I, rfl, q0 rfl⟩
  · refine HT.cat_tup p1 p2 (fun z => hx (r1.nil_iff.mp z)) (fun z => ⟨.ref a, H, I, rfl, q1 hx (r2.nil_iff.mp z)⟩) (fun z => ?_) (by rw [← r1.length, ← r2.length]; exact hz)
    exact ⟨.ref s.heap.objs.size, upd H s.heap.objs.size (.frz _ (.tup (xs ++ ys))), I.laid (t' := s.toks) (fun b ob q => Heap.get?_push_of_some _ q) (Nat.le_refl _) (show ObjOk X.prog X.w _ _ _ (.frz _ (.tup (xs ++ ys))) from ⟨Heap.get?_push_size _ rfl, by rw [List.length_append]; exact hz, _, r1.append r2, IsTup.new _ _⟩), rfl, q2 hx (fun w => z (r2.nil_iff.mpr w)) _ _ (I.hok.fresh (Nat.le_refl _)) rfl⟩
def pAddT : P2 := fun x y q => ∃ ns ms : List Int, x = tgT ns ∧ y = tgT ms ∧ ns.length + ms.length ≤ sizeLine ∧ q (tgT (ns ++ ms))
theorem v_addT {K : PySem.W.Frag} : VOp K rCatT' pAddT := by
  intro F H x y dx dy q Q s px py t h
  obtain ⟨ns, ms, rfl, rfl, b, t⟩ := t
  obtain ⟨a, o, rfl, h1, h2⟩ := tg_inv px
  obtain ⟨a', o', rfl, k1, k2⟩ := tg_inv py
  refine ⟨a, a', _, _, rfl, rfl, ⟨o, s _ _ h1, h2⟩, ⟨o', s _ _ k1, k2⟩, by rw [List.length_map, List.length_map]; exact b, fun z => ?_, fun _ z => ?_, fun z1 z2 p o'' hp ho => ?_⟩
  · cases ns with
    | nil => exact h _ _ _ _ t (Ext.refl s) (.tgt k1 k2)
    | cons n ns => nomatch z
  · cases ms with
    | nil =>
      rw [List.append_nil] at t
      exact h _ _ _ _ t (Ext.refl s) (.tgt h1 h2)
    | cons n ns => nomatch z
  · rw [← List.map_append]
    have e := ext_new (o := .frz o'' (.tup ((ns ++ ms).map V.int))) s hp
    exact h _ _ _ _ t e (.tgt upd_same ho)
theorem call_tupT : CallR X (.type "tuple") (fun xs H Q => ∃ p ys, xs = [.ref p] ∧ SqL X.K H p ys ∧ ∀ l o, H l = none → o.dict = none → Q (.ref l) (upd H l (.frz o (.tup ys)))) := by
  intro pins s σ H xs us Q I r h
  obtain ⟨p, ys, rfl, hq, q⟩ := h
  obtain ⟨u, rfl, rx⟩ := vals1 r
  cases rx
  obtain ⟨its, r', pl, hz⟩ := I.list hq
  have hlen := r'.length
  refine call_tuple_list pl.isList (fun h' kp => ?_) (by simp only [List.size_toArray] <;> omega)
  have I1 : Inv X pins σ H { s with heap := h' } := I.kept (t' := s.toks) kp
  exact ⟨.ref h'.objs.size, upd H h'.objs.size (.frz _ (.tup ys)), I1.laid (t' := s.toks) (fun b o e => Heap.get?_push_of_some _ e) (Nat.le_refl _) (show ObjOk X.prog X.w _ _ _ (.frz _ (.tup ys)) from ⟨Heap.get?_push_size _ rfl, hz, its, r', IsTup.new _ _⟩), rfl, q _ _ (I1.hok.fresh (Nat.le_refl _)) rfl⟩
/-- as the caller likes: marked, where all are numbers, or not -/
def pTupT : PN := fun xs q => match xs with
  | [.list ds] => (∃ ns : List Int, ds = ns.map PyData.int ∧ q (tgT ns)) ∨ q (.tuple ds)
  | _ => False
theorem v_tupT {K : PySem.W.Frag} : VCall K (fun xs H Q => ∃ p ys, xs = [.ref p] ∧ SqL K H p ys ∧ ∀ l o, H l = none → o.dict = none → Q (.ref l) (upd H l (.frz o (.tup ys)))) pTupT := by
  intro F H xs ds q Q s p t h
  match ds, p, t with
  | [.list es], .cons (@Rp.lst _ _ a vs _ h1 h2) .nil, t =>
    refine ⟨a, vs, rfl, SqL.of (s _ _ h1), fun l o hl ho => ?_⟩
    have e := ext_new (o := .frz o (.tup vs)) s hl
    rcases t with ⟨ns, rfl, t⟩ | t
    · have ev := RpAll.ofInts h2
      subst ev
      exact h _ _ _ _ t e (.tgt upd_same ho)
    · exact h _ _ _ _ t e (.tup (.inl (.inr ⟨o, upd_same⟩)) (h2.up e.f))
def rCntT (K : PySem.W.Frag) : V → List V → Hp → VK → Prop := fun x xs H Q => ∃ (p : Addr) (ns : List Int) (k : Int), x = .ref p ∧ xs = [.int k] ∧ SqT K H p (ns.map V.int) ∧ Q (.int (ns.count k : Nat)) H
theorem mt_tcount : MtR X "tuple.count" (rCntT X.K) := by
  intro pins s σ H x xs v us Q I rx rxs h
  obtain ⟨p, ns, k, rfl, rfl, hs, q⟩ := h
  cases rx
  obtain ⟨u, rfl, ru⟩ := rxs.one
  obtain ⟨t, rfl⟩ := ru
  obtain ⟨its, rv, ⟨⟨cls, dd, data, sl⟩, ho, hc, n, hd⟩, hlen⟩ := I.tuple hs
  simp only at hc hd
  subst hc hd
  have hi := ints_of_vals rv
  refine call_meets PySem.F.slot_tuple_count ⟨_, ho, rfl⟩ PySem.F.entry_tuple_count (PySem.F.args_tuple_count_2 _ _)
    (SeqAt.tuple_countAt p its.toArray n dd sl (.int k t) (eqk k)) ⟨ho, fun y hy => (eqk_gives hi y (by simpa using hy)).at _ _, ?_⟩
  have ec : its.toArray.toList.countP (eqk k) = ns.count k := eqk_count hi
  refine ⟨.int (ns.count k : Nat), H, I.tok _, ⟨s.toks, ?_⟩, q⟩
  show Value.int ((its.toArray.toList.countP (eqk k) : Nat) : Int) s.toks = Value.int ((ns.count k : Nat) : Int) s.toks
  rw [ec]
def tCntT (K : PySem.W.Frag) (to : TE) (t : TA) : TE := fun σ H Q => to σ H fun x H1 => (∃ p xs, x = .ref p ∧ BareT H1 p xs) ∧ t σ H1 fun xs H2 => rCntT K x xs H2 Q
theorem bare_is {pins : List (Addr × Obj)} {σ : St} {H : Hp} {s : Shared} {x : V} {v : Value} (I : Inv X pins σ H s) (r : RelV x v) (h : ∃ p xs, x = .ref p ∧ BareT H p xs) :
    s.TypeIs v "tuple" ∧ ∀ a, v = .ref a → ∃ ob, s.heap.get? a = some ob ∧ ob.dict = none := by
  obtain ⟨p, xs, rfl, o, e, hd⟩ := h
  cases r
  obtain ⟨eo, _, _, _, o', e1, e2, _⟩ := (show ObjOk X.prog X.w H s.heap p (.frz o (.tup xs)) from I.hok p _ e)
  refine ⟨⟨o', e1, e2⟩, fun a z => ?_⟩
  cases z
  exact ⟨o, eo, hd⟩
theorem pe_cntT {o e : Expr} {to : TE} {t : TA} {apos cpos : Pos} (ho : PE X o to) (ha : PA X [e] t)
    (hbase : attributeBase o "count" X.env (eval o X.env) = eval o X.env := by rfl)
    (hfew : ((backTo cpos (starEach [e] X.env)).all (fun x => !x.1) && (backToKw cpos (keywordEach [] X.env)).all (fun x => x.1.isSome)
      && decide ([e].length + ([] : List Keyword).length + (if ([] : List Keyword).isEmpty then 0 else 1) < 30)) = true := by rfl)
    (hline : (apos.endLine == cpos.line) = true := by rfl) (hs : starEach [e] X.env = (false, eval e X.env) :: starEach [] X.env := by rfl) (hplain : (backTo cpos (starEach [] X.env)).any (·.1) = false := by rfl) :
    PE X (.Call (.Attribute o "count" apos) [e] [] cpos) (tCntT X.K to t) := by
  refine ⟨fun pins s σ H Q I h => ?_⟩
  refine wpAny_Call_method_late hbase hfew hline rfl (thn (ho.run pins s σ H _ I h) fun v s1 ⟨x, H1, I1, r1, ty, q1⟩ => ?_)
  obtain ⟨h1, h2⟩ := bare_is I1 r1 ty
  refine ⟨"tuple", "tuple.count", PySem.F.plainAttrs_tuple, PySem.F.slot_tuple_count, PySem.F.type_tuple_count, h1, h2, ?_⟩
  have hA := ha.run cpos pins s1 σ H1 _ I1 q1
  rw [hs] at hA ⊢
  refine Calls.callWith_builtin (by show (false || (backTo cpos (starEach [] X.env)).any (·.1)) = false; rw [hplain] <;> rfl) (Calls.evalArgs_plain ?_)
  exact thn hA fun us s2 ⟨vs, H2, I2, r2, q2⟩ => mt_tcount pins s2 σ H2 x vs v us Q I2 r1 r2 q2
def eCntT (te : DTE) (ta : DTA) : DTE := fun r q => te r fun d r1 => ∃ ns : List Int, d = tgT ns ∧ ta r1 fun es r2 => ∃ k : Int, es = [.int k] ∧ q (.int (ns.count k : Nat)) r2
theorem d_cntT {o e : Expr} {te : DTE} {ta : DTA} {apos cpos : Pos} (ho : DE X o te) (ha : DA X [e] ta)
    (hbase : attributeBase o "count" X.env (eval o X.env) = eval o X.env := by rfl)
    (hfew : ((backTo cpos (starEach [e] X.env)).all (fun x => !x.1) && (backToKw cpos (keywordEach [] X.env)).all (fun x => x.1.isSome)
      && decide ([e].length + ([] : List Keyword).length + (if ([] : List Keyword).isEmpty then 0 else 1) < 30)) = true := by rfl)
    (hline : (apos.endLine == cpos.line) = true := by rfl) (hs : starEach [e] X.env = (false, eval e X.env) :: starEach [] X.env := by rfl) (hplain : (backTo cpos (starEach [] X.env)).any (·.1) = false := by rfl) :
    DE X (.Call (.Attribute o "count" apos) [e] [] cpos) (eCntT te ta) := by
  refine ⟨fun W => pe_weak (pe_cntT (ho.run W) (ha.run W) hbase hfew hline hs hplain) fun σ H Q h => ?_⟩
  obtain ⟨r, F, q, R, t, w⟩ := h
  refine ⟨r, F, _, R, t, fun d r1 v F1 H1 t1 R1 s1 p1 => ?_⟩
  obtain ⟨ns, rfl, t1⟩ := t1
  obtain ⟨a, o, rfl, h1, h2⟩ := tg_inv p1
  refine ⟨⟨a, _, rfl, o, R1.sub _ _ h1, h2⟩, r1, F1, _, R1, t1, fun ds r2 vs F2 H2 t2 R2' s2 p2 => ?_⟩
  obtain ⟨k, rfl, t2⟩ := t2
  match vs, p2 with
  | [_], .cons (.int _) .nil =>
    exact ⟨a, ns, k, rfl, rfl, .inl (.inr ⟨o, R2'.sub _ _ (s2 _ _ h1)⟩), w _ r2 _ F2 H2 t2 R2' (s1.trans s2) (.int _)⟩
end
end DL
end
section
set_option Elab.async false
set_option linter.all false
set_option maxRecDepth 100000
set_option maxHeartbeats 1000000
namespace DL
open PySem PySem.Spec PyProof.Rows L2
section
variable {X : Cx} {pins : List (Addr × Obj)} {σ : L2.St} {H : Hp} {s : Shared}
theorem exX_ok {P : Program} {w : World} {H : Hp} {h : Heap} {a C : Addr} {oe : Obj} {vs : Array Value} (e : h.get? a = some oe) (z : Zc (.ref C) none oe) (d : oe.data = .fields vs) : ObjOk P w H h a (ExX C a) :=
  ⟨⟨oe, vs, e, z, d⟩, ⟨oe, e⟩, fun _ _ ⟨o, v, q, r⟩ k => ⟨o, v, k o q, r⟩⟩
/-- a pinned error is tracked from now on -/
theorem track {a C : Addr} {oe : Obj} {vs : Array Value} (I : Inv X ((a, oe) :: pins) σ H s) (hz : Zc (.ref C) none oe) (hd : oe.data = .fields vs) (n0 : X.s_0.heap.get? a = none) (np : ∀ p ∈ X.pn ++ pins, p.1 ≠ a) :
    Inv X pins σ (upd H a (ExX C a)) s := by
  obtain ⟨ha, na, nL, nF, _⟩ := I.pin (a, oe) (by simp)
  have na : H a = none := na
  have ha : s.heap.get? a = some oe := ha
  have nL : a ≠ X.env.locals := nL
  have nc : ∀ x c, X.env.cells.lookup x = some c → c ≠ a := fun x c e z => by
    obtain ⟨v, o, ho, hv⟩ := I.cell x c e
    rw [z, ha] at ho
    cases ho
    rw [hd] at hv
    cases hv
  have ne : ∀ {b : Addr} {u : HO}, H b = some u → b ≠ a := fun {b u} e z => by rw [z, na] at e; cases e
  refine ⟨I.ok, I.os, I.bare, ⟨I.base.keep, I.base.slot, fun b o e n hx => ?_, I.base.there, fun b xs e => ?_, fun b o u e => ?_, fun b ps e => ?_⟩, I.loc, I.cell, ?_, fun x c e => ?_, fun p hp => ?_, fun b u e => ?_, I.len⟩
  · rw [upd_ne (fun z => by rw [z, n0] at e; cases e)]
    exact I.base.free b o e n hx
  · have q := I.base.tups b xs e
    rw [upd_ne (ne q)]; exact q
  · have q := I.base.frzs b o u e
    rw [upd_ne (ne q)]; exact q
  · obtain ⟨m, q⟩ := I.base.tbls b ps e
    exact ⟨m, by rw [upd_ne (ne q)]; exact q⟩
  · rw [upd_ne (Ne.symm nL)]; exact I.free
  · rw [upd_ne (nc x c e)]; exact I.freeC x c e
  · obtain ⟨q1, q2, q3⟩ := I.pin p (by
      rcases List.mem_append.mp hp with z | z
      · exact List.mem_append_left _ z
      · exact List.mem_append_right _ (List.mem_cons_of_mem _ z))
    exact ⟨q1, by rw [upd_ne (np p hp)]; exact q2, q3⟩
  · by_cases hb : b = a
    · subst hb
      rw [upd_same] at e
      cases e
      exact exX_ok ha hz hd
    · rw [upd_ne hb] at e
      exact (I.hok b u e).stay (fun c v _ q => q) (fun c q => by rw [upd_ne (ne q)]; exact q) fun c xs q => by rw [upd_ne (ne q)]; exact q
/-- what the clause 'except x as n: y = n' wishes of an error of the body: slot i is y's, slot j is n's -/
def wKeep (K : PySem.W.Frag) (c : Value) (i j : Nat) (D : Ends) : WX := fun cls d σ H =>
  d = none ∧ ∃ C, cls = .ref C ∧ PySem.W.exmOne K cls c = some true ∧ ∀ a, H a = none → D.nx ((σ.set i (some (.ref a))).set j none) (upd H a (ExX C a))
end
section
variable {X : Cx} {x n y : Str} {c : Value} {i j : Nat} {body : List Stmt} {np pn py ps pos pos' : Pos} {tb : WX → TS}
theorem ps_try_keep (hs : X.stack = X.env :: X.outer) (hf : X.env.frame = some X.env.locals) (hex : X.ex = []) (hN : X.N.Nodup) (hj : X.N[j]? = some n) (hln : X.env.kindOf n = some .local) (hi : X.N[i]? = some y) (hy : Loc X.env.scope y) (hyf : X.fn y = true ∨ X.env.scope.names.lookup y = some .local) (hij : i ≠ j)
    (hsw : swapsWith (.Name n pn) (some (.Name y py)) ps.line X.env = pure false) (hdn : (n == ("__debug__" : Str)) = false) (hcd : (n == ("__classdict__" : Str)) = false) (hc : Names X x c)
    (hb : ∀ (W : WX) (pn : List (Addr × Obj)) (xe : Value → Shared → Prop), Takes (X.tr pn xe) W → PassesOwn (model X.prog X.w) X.A X.env xe → PSs (X.tr pn xe) body (tb W)) :
    PS X (.Try body [.ExceptHandler (some (.Name x np)) (some n) [.Assign [.Name y py] (.Name n pn) ps] pos'] [] [] pos) (fun D σ H => tb (wKeep X.K c i j D) D σ H) := by
  have hsu : ∀ (a : Addr) (oe : Obj) (pn' : List (Addr × Obj)), PSs (X.suite a ((a, oe) :: pn')) [.Assign [.Name y py] (.Name n pn) ps] (tAsg (tVar j) (gName i)) := fun a oe pn' =>
    pss_one (ps_set (X := X.suite a ((a, oe) :: pn')) hN hi hy (pe_var (X := X.suite a ((a, oe) :: pn')) hj (.inl hln) hdn hcd) hsw hyf)
  refine ⟨fun pins s σ H D I h => ?_⟩
  have ok := I.ok
  have hfr : X.A.frames = some (X.env :: X.outer) := by rw [ok.frames, hs]
  have hloc : Loc X.env.scope n := .inl hln
  refine wpAny_Try_except ?_
  refine wpAny_mono ((hb (wKeep X.K c i j D) (X.pn ++ pins) (fun e s₁ => wpAny (model X.prog X.w) X.A (noteFrame e X.env) (fun _ s₂ => wpAny (model X.prog X.w) X.A (setFlight e none) (fun _ s₃ =>
    wpAny (model X.prog X.w) X.A (handleBy e X.env [.ExceptHandler (some (.Name x np)) (some n) [.Assign [.Name y py] (.Name n pn) ps] pos']) (SP X pins D) X.xe s₃) X.xe s₂) X.xe s₁) (fun u s' xx => ?_) PassesOwn.looking).run [] s σ H D (I.toTry _) h) (fun f s1 hsp => ?_) (fun e s1 he => he)
  · obtain ⟨a, B, sI, pins', σ', H', cls, d, rfl, J', nb, up, sky, na, os, ag, hd0, C, rfl, hb1, hyes⟩ := xx
    subst hd0
    have J : Inv X pins σ' H' sI := J'.ofTry ok
    have sky' : Sky B (X.env :: X.outer) a (Zc (.ref C) none) X.env.locals s'.heap := by rw [← hs]; exact sky
    show wpAny (model X.prog X.w) X.A (noteFrame (.ref a) X.env) _ _ _
    refine Sky.land Zc.steady hfr hf sky' fun h3 fl3 up3 => ?_
    have J3 : Inv X pins σ' H' { s' with heap := h3 } := J.landed nb fl3.1 (up.trans up3) os ag
    obtain ⟨oe3, vs3, he3, hz3, hd3⟩ := fl3.there
    have notFr : ∀ {h : Heap} {o : Obj} {vs : Array Value}, h.FunFrames B (X.env :: X.outer) → h.get? a = some o → o.data = .fields vs → a ∉ frs (X.env :: X.outer) := fun {h o vs} ff e dd hm => by
      obtain ⟨_, o', e', hnf⟩ := ff.mem hm
      rw [e] at e'; cases e'
      exact hnf _ dd
    have nfr := notFr fl3.2.2.1 he3 hd3
    have nL : a ≠ X.env.locals := fun z => nfr (List.mem_filterMap.mpr ⟨X.env, List.mem_cons_self, by rw [hf, z]⟩)
    have nF : a ∉ X.fs := fun hm => by
      obtain ⟨e, he, q⟩ := List.mem_filterMap.mp hm
      exact nfr (List.mem_filterMap.mpr ⟨e, List.mem_cons_of_mem _ he, q⟩)
    have nI : sI.heap.get? a = none := by
      cases e : sI.heap.get? a with
      | none => rfl
      | some o =>
        have z := nb a o e (by rw [hs]; exact nfr)
        rw [fl3.2.1] at z
        cases z
    have n0 : X.s_0.heap.get? a = none := by
      cases e : X.s_0.heap.get? a with
      | none => rfl
      | some o =>
        obtain ⟨o', z⟩ := J.base.there a o e (by rw [hex]; exact fun z => nomatch z)
        rw [nI] at z
        cases z
    have npn : ∀ p ∈ X.pn ++ pins, p.1 ≠ a := fun p hp z => by
      have q := (J.pin p hp).1
      rw [z, nI] at q
      cases q
    have S3 := J3.suite he3 hd3 na nL nF
    refine wpAny_handleBy_cons (codeAny_handlers_test ?_) (by intro q; cases q)
    have LT : PySem.W.Looks (model X.prog X.w) h3 (typeOf (.ref a)) (.ref C) := fun A Q E s k q => wpAny_typeOf_ref (k _ _ he3) (by rw [hz3.1]; exact q)
    have LM := PySem.W.exm_one (M := model X.prog X.w) (J3.kIn) LT hb1
    have test : ∀ {Q : Value → Shared → Prop} {E : Value → Shared → Prop}, Q c { s' with heap := h3 } → wpAny (model X.prog X.w) (X.A.mark (some (.ref a))) (eval (.Name x np) X.env) Q E { s' with heap := h3 } := fun {Q E} q => by
      obtain ⟨hg, hdbg, hm | ⟨hm, hv, hnn⟩⟩ := hc
      · exact ld_glob (X := X.suite a ((a, oe3) :: (X.pn ++ pins))) S3 hg hm q hdbg
      · exact ld_blt (X := X.suite a ((a, oe3) :: (X.pn ++ pins))) S3 hg hm hv q hnn hdbg
    refine test (LM.here ?_)
    refine codeAny_handlers_suite_as ?_
    refine HandSPX.lands_againZ fl3 fun h4 fl4 up4 => ?_
    have J4 : Inv X pins σ' H' { s' with heap := h4 } := J.landed nb fl4.1 ((up.trans up3).trans up4) os ag
    obtain ⟨oe4, vs4, he4, hz4, hd4⟩ := fl4.there
    have S4 := J4.suite he4 hd4 na nL nF
    refine store_ok (X := X.suite a ((a, oe4) :: (X.pn ++ pins))) (v := .ref a) S4 hN hj hloc rfl (fun s5 S5 => ?_) (.inr hln)
    have lt : j < σ'.length := by
      rw [J.len]
      exact (List.getElem?_eq_some_iff.mp hj).1
    refine wpAny_mono ((hsu a oe4 (X.pn ++ pins)).run [] s5 _ H' { nx := fun σ6 H6 => H6 = H' ∧ σ6 = (σ'.set j (some (.ref a))).set i (some (.ref a)), rt := fun _ _ => False } S5 ⟨.ref a, List.getElem?_set_self lt, rfl, rfl⟩) (fun f s6 hsp => ?_) (fun _ _ z => False.elim z)
    cases f with
    | next =>
      obtain ⟨σ6, H6, S6, e6, e7⟩ := hsp
      subst e6 e7
      have S7 : Inv X ((a, oe4) :: pins) ((σ'.set j (some (.ref a))).set i (some (.ref a))) H6 s6 := by
        refine ⟨ok, S6.os, S6.bare, S6.base, S6.loc, S6.cell, S6.free, S6.freeC, fun p hp => S6.pin p ?_, S6.hok, S6.len⟩
        rw [List.append_nil]
        rcases List.mem_append.mp hp with z | z
        · exact List.mem_cons_of_mem _ (List.mem_append_left _ z)
        · rcases List.mem_cons.mp z with z | z
          · rw [z]; exact List.mem_cons_self
          · exact List.mem_cons_of_mem _ (List.mem_append_right _ z)
      refine gone_ok S7 hN hj hln fun s7 J7 => ?_
      have J8 := track J7 hz4 hd4 n0 npn
      have q := hyes a na
      have es : (((σ'.set j (some (.ref a))).set i (some (.ref a))).set j none) = (σ'.set i (some (.ref a))).set j none := by
        rw [List.set_comm _ _ (Ne.symm hij), List.set_set]
      rw [es] at J8
      exact ⟨_, _, J8, q⟩
    | brk =>
      obtain ⟨_, _, _, q⟩ := hsp
      exact q.elim
    | cont =>
      obtain ⟨_, _, _, q⟩ := hsp
      exact q.elim
    | ret u =>
      obtain ⟨_, _, _, _, _, q⟩ := hsp
      exact q.elim
  · cases f with
    | next =>
      obtain ⟨σ', H', J', q⟩ := hsp
      exact wpAny_execs_nil ⟨σ', H', J'.ofTry ok, q⟩
    | brk =>
      obtain ⟨σ', H', J', q⟩ := hsp
      exact ⟨σ', H', J'.ofTry ok, q⟩
    | cont =>
      obtain ⟨σ', H', J', q⟩ := hsp
      exact ⟨σ', H', J'.ofTry ok, q⟩
    | ret u =>
      obtain ⟨v, σ', H', J', r, q⟩ := hsp
      exact ⟨v, σ', H', J'.ofTry ok, r, q⟩
end
end DL
end
section
set_option Elab.async false
set_option linter.all false
set_option maxRecDepth 100000
set_option maxHeartbeats 1000000
namespace DL
open PySem PySem.Spec PyProof.Rows L2
def excD (z : Str) : D := .dict [(.none, .str z)]
/-- where an error of the class z is let out -/
abbrev XP := Str → DSt → Prop
abbrev DSpX := List Cell → (Cell → List M → Prop) → (Str → Prop) → Prop
def wxD (K : PySem.W.Frag) (W : Wd) (xp : XP) : WX := fun cls d σ H => d = none ∧ ∃ z C r F, cls = .ref C ∧ PySem.W.nsIn K mainGlobals z = some (some (.ref C)) ∧ xp z r ∧ Rel K W r F σ H
structure XEx (X : Cx) (e : Expr) (t : XP → DTE) : Prop where
  run : ∀ W xp, Takes X (wxD X.K W xp) → PE X e (lift X.K W (t xp))
structure XS (X : Cx) (st : Stmt) (t : XP → DTS) : Prop where
  run : ∀ W xp, Takes X (wxD X.K W xp) → PS X st (liftS X.K W (t xp))
structure XSs (X : Cx) (st : List Stmt) (t : XP → DTS) : Prop where
  run : ∀ W xp, Takes X (wxD X.K W xp) → PSs X st (liftS X.K W (t xp))
section
variable {X : Cx} {st : Stmt} {rest : List Stmt} {t u : XP → DTS} {e : Expr} {te : XP → DTE} {pos : Pos}
theorem xs_of {t : DTS} (h : DS X st t) : XS X st (fun _ => t) := ⟨fun W _ _ => h.run W⟩
theorem xss_of {st : List Stmt} {t : DTS} (h : DSs X st t) : XSs X st (fun _ => t) := ⟨fun W _ _ => h.run W⟩
theorem xss_one (h : XS X st t) : XSs X [st] t := ⟨fun W xp tk => pss_one (h.run W xp tk)⟩
theorem xss_cons (h1 : XS X st t) (h2 : XSs X rest u) : XSs X (st :: rest) (fun xp => sSeq (t xp) (u xp)) := by
  refine ⟨fun W xp tk => pss_weak (pss_cons (h1.run W xp tk) (h2.run W xp tk)) fun D σ H h => ?_⟩
  obtain ⟨r, F, q, R, t, w⟩ := h
  exact ⟨r, F, _, R, t, fun r' σ' F' H' a b c => ⟨r', F', q, b, a, w.up c⟩, w.bk, w.ct, w.rt⟩
theorem xs_if {c : Expr} {a b : List Stmt} {tc : DTT} (hc : DT X c tc) (ha : XSs X a t) (hb : XSs X b u) : XS X (.If c a b pos) (fun xp => sIf tc (t xp) (u xp)) := by
  refine ⟨fun W xp tk => ps_weak (ps_if (hc.run W) (ha.run W xp tk) (hb.run W xp tk)) fun D σ H h => ?_⟩
  obtain ⟨r, F, q, R, t, w⟩ := h
  refine ⟨r, F, _, R, t, fun k r' F' H' a b c => ?_⟩
  cases k with
  | true => exact ⟨r', F', q, b, a, w.up c⟩
  | false => exact ⟨r', F', q, b, a, w.up c⟩
theorem xs_set {i : Nat} {x : Str} {pos' : Pos} (hN : X.N.Nodup) (hi : X.N[i]? = some x) (hx : Loc X.env.scope x) (he : XEx X e te) (hs : swapsWith e (some (.Name x pos')) pos.line X.env = pure false := by rfl) (hf : X.fn x = true ∨ X.env.scope.names.lookup x = some .local := by first | exact .inl rfl | exact .inr rfl | assumption) :
    XS X (.Assign [.Name x pos'] e pos) (fun xp => sSet i (te xp)) := by
  refine ⟨fun W xp tk => ps_weak (ps_set hN hi hx (he.run W xp tk) hs hf) fun D σ H h => ?_⟩
  obtain ⟨r, F, q, R, t, w⟩ := h
  exact ⟨r, F, _, R, t, fun d r' v F' H' a b c p => w.nx _ _ F' H' (nrm_el a) (b.put i (some (.sh d)) v p) c⟩
/-- what a class that is raised must have -/
structure XCls (K : PySem.W.Frag) (mg : Str → Option Value) (z : Str) : Prop where
  ex : ∃ C, mg z = some (.ref C) ∧ PySem.W.nsIn K mainGlobals z = some (some (.ref C)) ∧ PySem.W.keepIn K (.ref C) = true ∧ PySem.W.excIn K C HandSPX.veTail "ValueError.__new__" = true ∧ PySem.W.subIn K (.ref C) (.type "BaseException") = some true ∧ PySem.W.typeIn K (.ref C) = some (.type "type")
theorem xs_raise {z m : Str} {j : Nat} {p p2 cpos : Pos} (hc : X.calm = true) (c : XCls X.K X.mg z) (hg : Gl X z) (hdb : (z == ("__debug__" : Str)) = false := by decide) :
    XS X (.Raise (some (.Call (.Name z p) [.Constant (.str m) j p2] [] cpos)) none pos) (fun xp _ r => xp z r) := by
  obtain ⟨C, h1, h2, h3, h4, h5, h6⟩ := c.ex
  refine ⟨fun W xp tk => ps_weak (ps_raise hc tk (pmk_own PySem.F.excBase_ValueError h4 h1 h3 (raises_own h5 h6) hg hdb)) fun D σ H h => ?_⟩
  obtain ⟨r, F, q, R, t, w⟩ := h
  exact ⟨rfl, z, C, r, F, rfl, h2, t, R⟩
end
def noIo (cs : List Cell) : Prop := ioCount cs = 0
def liftSpX (K : PySem.W.Frag) (n : Nat) (sp : DSpX) : Sp := fun vs H Q E => vs.length = n ∧ ∃ cs F post xp, cs.length = n ∧ noOwn cs ∧ noRg cs ∧ noIo cs ∧ Rel K (here (cst cs) F (vst vs) H) (cst cs) F (vst vs) H ∧ sp cs post xp ∧
  (∀ c v F' H', post c [] → Rel K (here (cst cs) F (vst vs) H) (cst cs) F' (vst vs) H' → Ans K H F' H' c v → Q v H') ∧
  ∀ z C F' H', xp z → PySem.W.nsIn K mainGlobals z = some (some (.ref C)) → Rel K (here (cst cs) F (vst vs) H) (cst cs) F' (vst vs) H' → E (.ref C) none H'
def runDX (n : Nat) (b : XP → DTS) (cs : List Cell) (post : Cell → List M → Prop) (xp : Str → Prop) : Prop :=
  nrm (startD n cs) (b (fun z _ => xp z) { nx := fun r => retD cs post (.sh .none) r, rt := fun c r => retD cs post c r })
theorem noIo_outs : ∀ {cs : List Cell} {r : DSt} {ms : List M}, noIo cs → ioOuts cs r = some ms → ms = [] := fun {cs r ms} h e => by
  have l := ioOuts_len e
  rw [show ioCount cs = 0 from h] at l
  exact List.length_eq_zero_iff.mp l
theorem putIo_nil : ∀ {cs : List Cell}, noIo cs → putIo cs [] = cs
  | [], _ => rfl
  | .sh _ :: cs, h => congrArg (_ :: ·) (putIo_nil (cs := cs) h)
  | .own _ :: cs, h => congrArg (_ :: ·) (putIo_nil (cs := cs) h)
  | .rg _ :: cs, h => congrArg (_ :: ·) (putIo_nil (cs := cs) h)
  | .io _ :: cs, h => by
    have : ioCount cs + 1 = 0 := h
    omega
section
variable {P : Program} {w : World} {K : PySem.W.Frag} {mg : Str → Option Value} {base : Heap}
/-- x is a def that keeps the promise sp or refuses, n arguments, level k -/
structure DefX (P : Program) (w : World) (K : PySem.W.Frag) (mg : Str → Option Value) (base : Heap) (k : Nat) (x : Str) (n : Nat) (sp : DSpX) : Prop where
  ex : ∃ f fd ps, FnG P w K mg base (L2.CX P w) k f fd ps (liftSpX K n sp) ∧ mg x = some (.ref f) ∧ PySem.W.keepIn K (.ref f) = true ∧ Binds K fd ps []
theorem defX_of {x : Str} {st : Stmt} {N ps : List Str} {k : Nat} {sp : DSpX} {b : XP → DTS} (I : Is K mg x st ps) (S : FnScope N ps (defScope st)) (hps : ps.length ≤ N.length)
    (hb : ∀ (f : Addr) (cdv : Value) (A : Around) (outer : List Env) (s : Shared) (H : Hp) (E : XK), Room k (A.deeper (envOfC x (defScope st) s.heap.objs.size f cdv)) → A.guards = some [] →
      PassesOwn (model P w) (A.deeper (envOfC x (defScope st) s.heap.objs.size f cdv)) (envOfC x (defScope st) s.heap.objs.size f cdv) (cxOf (L2.CX P w) P w K mg base N x (defScope st) f cdv A outer s H E).xe →
      XSs (cxOf (L2.CX P w) P w K mg base N x (defScope st) f cdv A outer s H E) (defBody st) b)
    (hp : ∀ cs post xp, cs.length = ps.length → sp cs post xp → runDX N.length b cs post xp) : DefX P w K mg base (k + 1) x ps.length sp := by
  obtain ⟨f, fd, F, hm, bi⟩ := I.ex
  refine ⟨f, fd, ps, fng_of F S (fun vs H Q E h => h.1) (fun cdv A outer s H vs Q E room grd hs => ?_), hm, F.kp, bi⟩
  obtain ⟨hl, cs, F1, post, xp, hcl, no, nrg, ni, R, hsp, out, outx⟩ := hs
  have hX := hb f cdv A outer s H E room grd (passes_of rfl)
  have tk : Takes (cxOf (L2.CX P w) P w K mg base N x (defScope st) f cdv A outer s H E) (fun cls d _ H => E cls d H) := takes_of rfl rfl rfl rfl
  have hr := nrm_el (hp cs post xp hcl hsp)
  have back : ∀ {r : DSt} {σ : St} {F' H' : Hp}, Rel K (here (cst cs) F1 (vst vs) H) r F' σ H' → Rel K (here (cst cs) F1 (vst vs) H) (cst cs) F' (vst vs) H' := fun {r σ F' H'} R' => by
    have s1 : Same F1 F' := R'.f0
    have noM : ∀ i m, dat (cst cs) i ≠ some (Cell.own m) ∧ dat (cst cs) i ≠ some (Cell.io m) := fun i m => by
      rw [dat_cst]
      refine ⟨no i m, fun z => ?_⟩
      have key : ∀ {cs : List Cell} {i : Nat} {m : M}, noIo cs → cs[i]? ≠ some (Cell.io m) := by
        intro cs
        induction cs with
        | nil => intro i m _ z; simp at z
        | cons c cs ih =>
          intro i m h z
          cases i with
          | zero =>
            have e : c = Cell.io m := by simpa using z
            subst e
            have : ioCount cs + 1 = 0 := h
            omega
          | succ i =>
            have h' : noIo cs := by
              cases c with
              | io _ => have : ioCount cs + 1 = 0 := h; omega
              | sh _ => exact h
              | own _ => exact h
              | rg _ => exact h
            exact ih h' (by simpa using z)
      exact key ni z
    refine ⟨R'.sub, R'.f0, R'.keep, R'.there, R'.new, fun i d z => ?_, fun i m z => absurd z (noM i m).1, fun i m z => absurd z (noM i m).2, R'.ioA, fun i j m n a z1 => ?_, R.len, fun i g z => by rw [dat_cst] at z; exact absurd z (nrg i g)⟩
    · obtain ⟨v, q1, q2⟩ := R.sh i d z
      exact ⟨v, q1, q2.up s1⟩
    · rcases z1 with z | z
      · exact absurd z (noM i m).1
      · exact absurd z (noM i m).2
  refine ⟨liftS K (here (cst cs) F1 (vst vs) H) (b fun z _ => xp z), hX.run _ _ (tk.imp fun cls d σ H' ⟨hd, z, C, r, F', hcls, hn, hx, R'⟩ => ?_), startD N.length cs, F1, _, ?_, hr, ?_⟩
  · subst hd hcls
    exact outx z C F' H' hx hn (back R')
  · have q := R.more (N.length - vs.length)
    have e1 : startD N.length cs = cst cs ++ List.replicate (N.length - vs.length) none := by unfold startD; rw [hcl, hl]
    have e2 : start N vs = vst vs ++ List.replicate (N.length - vs.length) none := rfl
    rw [e1, e2]; exact q
  · have fin : ∀ {c : Cell} {r : DSt} {v : V} {σ : St} {F' H' : Hp}, retD cs post c r → Rel K (here (cst cs) F1 (vst vs) H) r F' σ H' → Same F1 F' → ResOk K (here (cst cs) F1 (vst vs) H) F' H' r σ c v → Q v H' := fun {c r v σ F' H'} h1 R' s1 res => by
      unfold retD at h1
      cases e : ioOuts cs r with
      | none => rw [e] at h1; exact h1.elim
      | some outs =>
        rw [e] at h1
        have eo := noIo_outs ni e
        subst eo
        refine out c v F' H' h1 (back R') ?_
        cases c with
        | sh d => exact res
        | io m => exact res.elim
        | rg m => exact res.elim
        | own m =>
          obtain ⟨a, o, q1, q2, q3, q4, q5, q6, _⟩ := res
          refine ⟨a, o, q1, q2, q3, q4, ?_⟩
          rcases q5 with (⟨i, n, z1, z2⟩ | ⟨i, g, n, z, _⟩) | z
          · rw [dat_cst] at z1
            rcases z1 with z1 | z1
            · exact absurd z1 (no i n)
            · exfalso
              have : ∀ {cs : List Cell} {i : Nat} {m : M}, noIo cs → cs[i]? ≠ some (Cell.io m) := by
                intro cs
                induction cs with
                | nil => intro i m _ z; simp at z
                | cons c cs ih =>
                  intro i m h z
                  cases i with
                  | zero =>
                    have e : c = Cell.io m := by simpa using z
                    subst e
                    have : ioCount cs + 1 = 0 := h
                    omega
                  | succ i =>
                    have h' : noIo cs := by
                      cases c with
                      | io _ => have : ioCount cs + 1 = 0 := h; omega
                      | sh _ => exact h
                      | own _ => exact h
                      | rg _ => exact h
                    exact ih h' (by simpa using z)
              exact this ni z1
          · rw [dat_cst] at z; exact absurd z (nrg i g)
          · exact z
    exact ⟨fun r σ F' H' a b c => fin a b c .non, fun r σ F' H' a b c => a.elim, fun r σ F' H' a b c => a.elim, fun c r v σ F' H' a b k d => fin a b k d⟩
end
end DL
end
section
set_option Elab.async false
set_option linter.all false
set_option maxRecDepth 100000
set_option maxHeartbeats 1000000
namespace DL
open PySem PySem.Spec PyProof.Rows L2
def eCallX (n : Nat) (sp : DSpX) (tc : DTC) : XP → DTE := fun xp r q => tc r fun as r1 => as.length = n ∧ match cellsOf r1 as with
  | some cs => ixs as = [] ∧ noIo cs ∧ sp cs (fun c outs => nrm (putOuts r1 as outs) (asE q c)) (fun z => xp z r1)
  | none => False
theorem putOuts_nil {r : DSt} : ∀ {as : List Arg}, ixs as = [] → putOuts r as [] = r
  | [], _ => rfl
  | .inl _ :: as, h => putOuts_nil (as := as) h
  | .inr _ :: as, h => by cases h
section
variable {X : Cx} {k n : Nat} {x : Str} {sp : DSpX} {e : Expr} {es : List Expr} {tc : DTC} {p pos : Pos}
theorem call_spX {K : PySem.W.Frag} {W : Wd} {σ : St} {H : Hp} {r : DSt} {F : Hp} {as : List Arg} {vs : List V} {q : Cell → DSt → Prop} {xp : XP} {Q : VK} {E : XK} (R : Rel K W r F σ H) (a : ArgOk K F σ as vs) (ha : vs.length = n)
    (t : match cellsOf r as with
      | some cs => ixs as = [] ∧ noIo cs ∧ sp cs (fun c outs => nrm (putOuts r as outs) (q c)) (fun z => xp z r)
      | none => False)
    (h : ∀ c v F' H', q c r → Rel K W r F' σ H' → Same F F' → Ans K H F' H' c v → (∀ b, H b = none → W.H0 b = none ∧ Apart r σ b) → Q v H')
    (hx : ∀ z C F' H', xp z r → PySem.W.nsIn K mainGlobals z = some (some (.ref C)) → Rel K W r F' σ H' → E (.ref C) none H') : liftSpX K n sp vs H Q E := by
  cases e : cellsOf r as with
  | none => rw [e] at t; exact t.elim
  | some cs =>
    rw [e] at t
    obtain ⟨hi, ni, t⟩ := t
    have nd : (ixs as).Nodup := by rw [hi]; exact List.nodup_nil
    obtain ⟨Rc, no, nrg⟩ := R.args e nd a
    have bk : ∀ {F' H' : Hp}, Rel K (here (cst cs) F (vst vs) H) (cst cs) F' (vst vs) H' → Rel K W r F' σ H' := fun {F' H'} R2 => by
      have z := R.back (outs := []) e nd a (show 0 = ioCount cs from (show ioCount cs = 0 from ni).symm) (by rw [putIo_nil ni]; exact R2)
      rw [putOuts_nil hi] at z
      exact z
    refine ⟨ha, cs, F, _, _, by rw [cells_len e, a.len]; exact ha, no, nrg, ni, Rc, t, fun c v F' H' hq R2 an => ?_, fun z C F' H' hz hn R2 => hx z C F' H' hz hn (bk R2)⟩
    have hq' : q c r := by
      have := nrm_el hq
      rw [putOuts_nil hi] at this
      exact this
    refine h c v F' H' hq' (bk R2) R2.f0 an fun b hb => ⟨?_, ⟨fun i m z y => ?_, fun i g m z y => ?_⟩⟩
    · cases q : W.H0 b with
      | none => rfl
      | some u => exact absurd hb (R.there b (ne_none q))
    · rcases z with f | f
      · obtain ⟨b', o, k1, k2, _⟩ := R.own i m f
        rw [y] at k1; cases k1
        rw [hb] at k2; cases k2
      · obtain ⟨b', o, k1, k2, _⟩ := R.io i m f
        rw [y] at k1; cases k1
        rw [hb] at k2; cases k2
    · obtain ⟨o, k2, _⟩ := (R.rg i g z).ob b m y
      rw [hb] at k2; cases k2
theorem pe_callGX {f : Addr} {fd : FuncData} {ps : List Str} {spv : Sp} {t : TA} {E : St → XK} (F : FnG X.prog X.w X.K X.mg X.base (L2.CX X.prog X.w) k f fd ps spv) (hx : ∀ σ, PassesAt (L2.CX X.prog X.w) X σ (E σ)) (hr : Room k X.A) (hgd : X.A.guards = some []) (hg : Gl X x) (hm : X.mg x = some (.ref f)) (hk : PySem.W.keepIn X.K (.ref f) = true) (hb : Binds X.K fd ps [])
    (ha : PA X (e :: es) t) (hdb : (x == ("__debug__" : Str)) = false := by decide) (he : starEach (e :: es) X.env = (false, eval e X.env) :: starEach es X.env := by rfl) (hpl : (backTo pos (starEach es X.env)).any (·.1) = false := by rfl) :
    PE X (.Call (.Name x p) (e :: es) [] pos) (tCallS spv E t) := by
  refine ⟨fun pins s σ H Q I h => ?_⟩
  refine wpAny_Call_Name_kw (ld_glob I hg hm ?_ hdb)
  refine PySem.W.callWith_K (h₀ := X.base) I.ok.mod.kin hk (thn (ha.run pos pins s σ H _ I h) fun us s1 ⟨vs, H1, I1, rv, q⟩ => ⟨I1.kIn, ?_⟩) he hpl
  have hl : us.length = ps.length := by rw [← rv.length]; exact F.len _ _ _ _ q
  have bd := hb s1 us I1.kIn (by rw [List.append_nil]; exact hl)
  rw [List.append_nil] at bd
  refine wpAny_call (codeAny_mono (F.run X.A X.stack s1 H1 ⟨us, []⟩ us vs Q (E σ) hr hgd I1.env0 bd rv q) fun res s' out => ?_)
  cases res with
  | error z => exact hx σ pins H1 s1 z s' I1 out
  | ok fl =>
    cases fl with
    | ret u => exact I1.after out
    | next => exact False.elim out
    | brk => exact False.elim out
    | cont => exact False.elim out
theorem xe_call (F : DefX X.prog X.w X.K X.mg X.base k x n sp) {j : Nat} (hr : Room j X.A) (hk : k ≤ j) (hgd : X.A.guards = some []) (hg : Gl X x) (ha : DC X (e :: es) tc)
    (hdb : (x == ("__debug__" : Str)) = false := by decide) (he : starEach (e :: es) X.env = (false, eval e X.env) :: starEach es X.env := by rfl) (hpl : (backTo pos (starEach es X.env)).any (·.1) = false := by rfl) : XEx X (.Call (.Name x p) (e :: es) [] pos) (eCallX n sp tc) := by
  obtain ⟨f, fd, ps, F, hm, kp, hb⟩ := F.ex
  refine ⟨fun W xp tk => pe_weak (pe_lk (pe_callGX F (E := WE (wxD X.K W xp)) (fun σ => passAt tk σ) (hr.mono hk) hgd hg hm kp hb (ha.run W) hdb he hpl)) fun σ H Q h => ?_⟩
  obtain ⟨r, F1, q, R, t, w⟩ := h
  refine ⟨r, F1, _, R, t, fun as r1 vs F2 H2 t1 R1 s1 a => ?_⟩
  refine call_spX (q := asE q) (xp := xp) R1 a (a.len ▸ t1.1) t1.2 (fun c v F' H' hq R3 s3 an fr => ?_) (fun z C F' H' hz hn R3 => ⟨rfl, z, C, r1, F', rfl, hn, hz, R3⟩)
  cases c with
  | sh d => exact .inl (w d r1 v F' H' hq R3 (s1.trans s3) an)
  | io m => exact hq.elim
  | rg m => exact hq.elim
  | own m =>
    cases m with
    | ins C fs => exact hq.elim
    | lok _ _ _ => exact hq.elim
    | dic ds =>
      obtain ⟨b, o, rfl, k2, k3, k4, k5⟩ := an
      obtain ⟨z1, z2⟩ := fr b k5
      exact R3.absorbD k2 k3 z1 z2 k4 fun od R4 s4 p4 => w _ r1 _ _ _ hq R4 (s1.trans (s3.trans s4)) p4
    | lst ds =>
      obtain ⟨b, o, rfl, k2, k3, ⟨vs, rfl, k4⟩, k5⟩ := an
      obtain ⟨z1, z2⟩ := fr b k5
      obtain ⟨R4, s4⟩ := R3.absorb k2 k3 z1 z2
      exact .inl (w _ r1 _ _ _ hq R4 (s1.trans (s3.trans s4)) (.lst upd_same (k4.up s4)))
end
def subX (y z : Str) : Bool := z == y || z == "OnesError"
/-- the classes that may be raised, rs, and those that are asked for, zs -/
structure XTab (K : PySem.W.Frag) (mg : Str → Option Value) (rs zs : List Str) : Prop where
  cls : ∀ z, zs.contains z = true → ∃ C, mg z = some (.ref C)
  exc : ∀ y, rs.contains y = true → ∀ C, PySem.W.nsIn K mainGlobals y = some (some (.ref C)) → ExcC K C
  cat : ∀ y, rs.contains y = true → ∀ C, PySem.W.nsIn K mainGlobals y = some (some (.ref C)) → ∀ C0, mg "OnesError" = some (.ref C0) → PySem.W.exmOne K (.ref C) (.ref C0) = some true
  isi : ∀ y, rs.contains y = true → ∀ C, PySem.W.nsIn K mainGlobals y = some (some (.ref C)) → ∀ z, zs.contains z = true → ∀ C', mg z = some (.ref C') → PySem.W.kitOne K (.ref C) (.ref C') = some (subX y z)
  isv : ∀ y, rs.contains y = true → ∀ C, PySem.W.nsIn K mainGlobals y = some (some (.ref C)) → PySem.W.kitOne K (.ref C) (.type "ValueError") = some true
/-- try: b, except OnesError as n: y = n; slot i is y's, slot j is n's -/
def sTryK (rs : List Str) (i j : Nat) (b : XP → DTS) : DTS := fun E r => b (fun z r1 => rs.contains z = true ∧ nrm (dput (dput r1 i (some (.sh (excD z)))) j none) E.nx) E r
def Wd.re (W : Wd) (F : Hp) : Wd := { W with F0 := F }
theorem Rel.re {K : PySem.W.Frag} {W : Wd} {r : DSt} {F : Hp} {σ : St} {H : Hp} (R : Rel K W r F σ H) : Rel K (W.re F) r F σ H :=
  ⟨R.sub, Same.refl _, R.keep, R.there, fun b h => .inl h, R.sh, R.own, R.io, R.ioA, R.sep, R.len, fun i g e => ⟨(R.rg i g e).nd, (R.rg i g e).ob, (R.rg i g e).ap, (R.rg i g e).one⟩⟩
theorem Rel.unre {K : PySem.W.Frag} {W : Wd} {r r1 : DSt} {F F1 : Hp} {σ σ1 : St} {H H1 : Hp} (R : Rel K W r F σ H) (R1 : Rel K (W.re F) r1 F1 σ1 H1) : Rel K W r1 F1 σ1 H1 :=
  ⟨R1.sub, R.f0.trans R1.f0, R1.keep, R1.there, fun b h => by
    rcases R1.new b h with z | z
    · exact R.new b z
    · exact .inr z, R1.sh, R1.own, R1.io, R1.ioA, R1.sep, R1.len, fun i g e => ⟨(R1.rg i g e).nd, (R1.rg i g e).ob, (R1.rg i g e).ap, (R1.rg i g e).one⟩⟩
section
variable {X : Cx} {n y : Str} {rs zs : List Str} {i j : Nat} {body : List Stmt} {np pn py ps pos pos' : Pos} {b : XP → DTS}
theorem ds_tryK (hs : X.stack = X.env :: X.outer) (hf : X.env.frame = some X.env.locals) (hex : X.ex = []) (hN : X.N.Nodup) (hj : X.N[j]? = some n) (hln : X.env.kindOf n = some .local) (hi : X.N[i]? = some y) (hy : Loc X.env.scope y) (hyf : X.fn y = true ∨ X.env.scope.names.lookup y = some .local) (hij : i ≠ j)
    (T : XTab X.K X.mg rs zs) (ho : zs.contains "OnesError" = true) (hg : Gl X "OnesError")
    (hb : ∀ (pn : List (Addr × Obj)) (xe : Value → Shared → Prop), PassesOwn (model X.prog X.w) X.A X.env xe → XSs (X.tr pn xe) body b)
    (hsw : swapsWith (.Name n pn) (some (.Name y py)) ps.line X.env = pure false := by rfl) (hdn : (n == ("__debug__" : Str)) = false := by decide) (hcd : (n == ("__classdict__" : Str)) = false := by decide) :
    DS X (.Try body [.ExceptHandler (some (.Name "OnesError" np)) (some n) [.Assign [.Name y py] (.Name n pn) ps] pos'] [] [] pos) (sTryK rs i j b) := by
  obtain ⟨C0, hm0⟩ := T.cls _ ho
  refine ⟨fun W => ps_weak (ps_try_keep (tb := fun Wx D σ H => ∃ W' xp, (∀ cls d σ H, wxD X.K W' xp cls d σ H → Wx cls d σ H) ∧ liftS X.K W' (b xp) D σ H) hs hf hex hN hj hln hi hy hyf hij hsw hdn hcd ⟨hg, by decide, .inl hm0⟩ fun Wx pn xe tk hp => ?_) fun D σ H h => ?_⟩
  · refine ⟨fun pins s σ H D I ⟨W', xp, c, h⟩ => ?_⟩
    exact ((hb pn xe hp).run W' xp (tk.imp c)).run pins s σ H D I h
  · obtain ⟨r, F, q, R, t, w⟩ := h
    refine ⟨W.re F, _, ?_, r, F, q, R.re, t, ⟨fun r σ F' H' a b c => w.nx r σ F' H' a (R.unre b) c, fun r σ F' H' a b c => w.bk r σ F' H' a (R.unre b) c, fun r σ F' H' a b c => w.ct r σ F' H' a (R.unre b) c, fun c r v σ F' H' a b k d => w.rt c r v σ F' H' a (R.unre b) k ?_⟩⟩
    · rintro cls d σ1 H1 ⟨hd, z, C, r1, F1, rfl, hn, ⟨hz, hk⟩, R1⟩
      refine ⟨hd, C, rfl, T.cat z hz C hn C0 hm0, fun a na => ?_⟩
      have R2 := R.unre R1
      have sF : Same F F1 := R1.f0
      have ex := ext_new (o := ExX C a) R2.sub na
      have R3 := R2.ext ex
      have R4 := R3.put i (some (.sh (excD z))) (.ref a) (.exc upd_same hn)
      have R5 := R4.drop j
      exact w.nx _ _ _ _ (nrm_el hk) R5 (sF.trans ex.f)
    · cases c with
      | sh d => exact d
      | own m => exact d
      | io m => exact d
      | rg m => exact d
end
end DL
end
section
set_option Elab.async false
set_option linter.all false
set_option maxRecDepth 100000
set_option maxHeartbeats 1000000
namespace DL
open PySem PySem.Spec PyProof.Rows L2
/-- isinstance(x, C), x an error -/
def rIsX (K : PySem.W.Frag) : List V → Hp → VK → Prop := fun xs H Q => ∃ (a C : Addr) (c : V) (u : Value) (b : Bool), xs = [.ref a, c] ∧ ClsV c u ∧ H a = some (ExX C a) ∧ ExcC K C ∧ PySem.W.kitOne K (.ref C) u = some b ∧ Q (.bl b) H
def rIsXT (K : PySem.W.Frag) : List V → Hp → VK → Prop := fun xs H Q => ∃ (a C tp : Addr) (cs : List V) (us : List Value) (b : Bool), xs = [.ref a, .ref tp] ∧ H tp = some (.tup cs) ∧ Paired ClsV cs us ∧ H a = some (ExX C a) ∧ ExcC K C ∧ PySem.W.kitAny K (.ref C) us = some b ∧ Q (.bl b) H
section
variable {X : Cx}
theorem exx_at {P : Program} {w : World} {H : Hp} {h : Heap} {a C : Addr} (k : HOk P w H h) (e : H a = some (ExX C a)) : ∃ oe, PySem.W.InstAt h a oe C none := by
  obtain ⟨⟨oe, vs, hget, ⟨h1, h2⟩, hv⟩, _⟩ := (show ObjOk P w H h a (ExX C a) from k a _ e)
  obtain ⟨oc, od, oda, osl⟩ := oe
  dsimp only at h1 h2 hv
  subst h1 h2 hv
  exact ⟨_, hget, rfl, rfl, trivial⟩
theorem call_isX : CallR X (.builtin "isinstance") (rIsX X.K) := by
  intro pins s σ H xs us Q I r h
  obtain ⟨a, C, c, u, b, rfl, k, ea, ec, e, q⟩ := h
  obtain ⟨u1, u2, rfl, r1, r2⟩ := vals2 r
  have e2 := k.eq r2
  subst e2
  cases (show u1 = Value.ref a from r1)
  obtain ⟨oe, J⟩ := exx_at I.hok ea
  exact PySem.W.kia_one (PySem.W.handS_kitx_exc ec.hg ec.hk ec.hs ec.hd ec.ha ec.hn ec.ht ec.hm) I.kIn J e (fun z => nomatch z) fun tk => ⟨.bl b, H, I.tok tk, rfl, q⟩
theorem call_isXT : CallR X (.builtin "isinstance") (rIsXT X.K) := by
  intro pins s σ H xs us Q I r h
  obtain ⟨a, C, tp, cs, ws, b, rfl, hT, k, ea, ec, e, q⟩ := h
  obtain ⟨u1, u2, rfl, r1, r2⟩ := vals2 r
  cases (show u2 = Value.ref tp from r2)
  cases (show u1 = Value.ref a from r1)
  obtain ⟨oe, J⟩ := exx_at I.hok ea
  obtain ⟨_, its, rv, o, h1, h2, n, h3⟩ := (show ObjOk X.prog X.w H s.heap tp (.tup cs) from I.hok tp _ hT)
  have e3 := ClsV.all k rv
  subst e3
  obtain ⟨oc, od, dt, sl⟩ := o
  simp only at h2 h3
  subst h2 h3
  exact PySem.W.kia_tup (PySem.W.handS_kitx_exc ec.hg ec.hk ec.hs ec.hd ec.ha ec.hn ec.ht ec.hm) I.kIn J h1 e (fun z => nomatch z) fun tk => ⟨.bl b, H, I.tok tk, rfl, q⟩
/-- the data is an error of the classes rs -/
def eIsx (rs : List Str) (z : Str) (te : DTE) : DTE := fun r q => te r fun d r1 => ∃ y, d = excD y ∧ rs.contains y = true ∧ q (.bool (subX y z)) r1
def eIsxV (rs : List Str) (te : DTE) : DTE := fun r q => te r fun d r1 => ∃ y, d = excD y ∧ rs.contains y = true ∧ q (.bool true) r1
def eIsxT (rs : List Str) (zs : List Str) (te : DTE) : DTE := fun r q => te r fun d r1 => ∃ y, d = excD y ∧ rs.contains y = true ∧ q (.bool (zs.any (subX y))) r1
theorem exc_inv {K : PySem.W.Frag} {F : Hp} {v : V} {y : Str} (p : Rp K F v (excD y)) : ∃ a C, v = .ref a ∧ F a = some (ExX C a) ∧ PySem.W.nsIn K mainGlobals y = some (some (.ref C)) := by
  unfold excD at p
  cases p with
  | dic h1 h2 =>
    have key : ∀ {ps : List (Key × V)} {es : List (D × D)}, RpKv K F ps es → es ≠ [(.none, .str y)] := fun {ps es} z => by
      cases z with
      | nil => exact fun y => by cases y
      | @cons k v ps d ds' k1 k2 => exact fun y => by cases k <;> cases y
    exact absurd rfl (key h2)
  | dit h1 hn h2 => nomatch h2
  | exc h1 h2 => exact ⟨_, _, rfl, h1, h2⟩
variable {rs zs : List Str} {e : Expr} {te : DTE} {p p2 p3 pos : Pos}
theorem d_isx (T : XTab X.K X.mg rs zs) {z : Str} (hz : zs.contains z = true) (he : DE X e te) (hg : Gl X "isinstance") (hm : X.mg "isinstance" = none) (hb : bootBuiltins "isinstance" = some (.builtin "isinstance")) (hg2 : Gl X z) (hdb : (z == ("__debug__" : Str)) = false := by decide)
    (hst : starEach [e, .Name z p2] X.env = (false, eval e X.env) :: starEach [.Name z p2] X.env := by rfl) (hst2 : starEach [.Name z p2] X.env = (false, eval (.Name z p2) X.env) :: starEach [] X.env := by rfl) (hpl : (backTo pos (starEach [.Name z p2] X.env)).any (·.1) = false := by rfl) :
    DE X (.Call (.Name "isinstance" p) [e, .Name z p2] [] pos) (eIsx rs z te) := by
  obtain ⟨C', hC'⟩ := T.cls z hz
  refine ⟨fun W => pe_weak (pe_callB call_isX hg hm hb (pa_cons (he.run W) (pa_cons (pe_glob (v := .ref C') hg2 hC' rfl hdb) pa_nil hst2) hst) (by decide) (by decide) hst hpl) fun σ H Q h => ?_⟩
  obtain ⟨r, F, q, R, t, w⟩ := h
  refine ⟨r, F, _, R, t, fun d r1 v F1 H1 t1 R1 s1 p1 => ?_⟩
  obtain ⟨y, rfl, hy, t1⟩ := t1
  obtain ⟨a, C, rfl, ea, hn⟩ := exc_inv p1
  exact ⟨a, C, .ref C', .ref C', _, rfl, .own _, R1.sub _ _ ea, T.exc y hy C hn, T.isi y hy C hn z hz C' hC', w _ r1 _ F1 H1 t1 R1 s1 (.bl _)⟩
theorem d_isxV (T : XTab X.K X.mg rs zs) (he : DE X e te) (hg : Gl X "isinstance") (hm : X.mg "isinstance" = none) (hb : bootBuiltins "isinstance" = some (.builtin "isinstance")) (hg2 : Gl X "ValueError") (hm2 : X.mg "ValueError" = none) (hb2 : bootBuiltins "ValueError" = some (.type "ValueError"))
    (hst : starEach [e, .Name "ValueError" p2] X.env = (false, eval e X.env) :: starEach [.Name "ValueError" p2] X.env := by rfl) (hst2 : starEach [.Name "ValueError" p2] X.env = (false, eval (.Name "ValueError" p2) X.env) :: starEach [] X.env := by rfl) (hpl : (backTo pos (starEach [.Name "ValueError" p2] X.env)).any (·.1) = false := by rfl) :
    DE X (.Call (.Name "isinstance" p) [e, .Name "ValueError" p2] [] pos) (eIsxV rs te) := by
  refine ⟨fun W => pe_weak (pe_callB call_isX hg hm hb (pa_cons (he.run W) (pa_cons (pe_bltn (v := .ty "ValueError") hg2 hm2 hb2 rfl (by decide) (by decide)) pa_nil hst2) hst) (by decide) (by decide) hst hpl) fun σ H Q h => ?_⟩
  obtain ⟨r, F, q, R, t, w⟩ := h
  refine ⟨r, F, _, R, t, fun d r1 v F1 H1 t1 R1 s1 p1 => ?_⟩
  obtain ⟨y, rfl, hy, t1⟩ := t1
  obtain ⟨a, C, rfl, ea, hn⟩ := exc_inv p1
  exact ⟨a, C, .ty "ValueError", .type "ValueError", _, rfl, .ty _, R1.sub _ _ ea, T.exc y hy C hn, T.isv y hy C hn, w _ r1 _ F1 H1 t1 R1 s1 (.bl _)⟩
/-- names of classes, one by one -/
def tVs (vs : List V) : TA := fun _ H Q => Q vs H
structure DCl (X : Cx) (es : List Expr) (us : List Str) : Prop where
  ex : ∃ Cs : List Addr, PA X es (tVs (Cs.map V.ref)) ∧ Paired (fun z C => X.mg z = some (.ref C)) us Cs
theorem dcl_nil : DCl X [] [] := ⟨[], pa_weak pa_nil (fun _ _ _ q => q), .nil⟩
theorem dcl_cons {z : Str} {es : List Expr} {us : List Str} (T : XTab X.K X.mg rs zs) (hz : zs.contains z = true) (hg : Gl X z) (h : DCl X es us) (hdb : (z == ("__debug__" : Str)) = false := by decide) (hs : starEach (.Name z p :: es) X.env = (false, eval (.Name z p) X.env) :: starEach es X.env := by rfl) : DCl X (.Name z p :: es) (z :: us) := by
  obtain ⟨C, hC⟩ := T.cls z hz
  obtain ⟨Cs, h1, h2⟩ := h.ex
  exact ⟨C :: Cs, pa_weak (pa_cons (pe_glob (v := .ref C) hg hC rfl hdb) h1 hs) (fun _ _ _ q => q), .cons hC h2⟩
theorem kitAny_x {K : PySem.W.Frag} {mg : Str → Option Value} (T : XTab K mg rs zs) {y : Str} (hy : rs.contains y = true) {C : Addr} (hn : PySem.W.nsIn K mainGlobals y = some (some (.ref C))) : ∀ {us : List Str} {Cs : List Addr}, (∀ z ∈ us, zs.contains z = true) → Paired (fun z C => mg z = some (.ref C)) us Cs →
    PySem.W.kitAny K (.ref C) (Cs.map Value.ref) = some (us.any (subX y))
  | _, _, _, .nil => rfl
  | z :: us, C' :: Cs, hz, .cons h t => by
    have e := T.isi y hy C hn z (hz z List.mem_cons_self) C' h
    have ih := kitAny_x T hy hn (fun z m => hz z (List.mem_cons_of_mem _ m)) t
    show (match PySem.W.kitOne K (.ref C) (.ref C') with
      | some true => some true
      | some false => PySem.W.kitAny K (.ref C) (Cs.map Value.ref)
      | none => none) = some (subX y z || us.any (subX y))
    rw [e]
    cases subX y z with
    | true => rfl
    | false => exact ih
theorem pair_cls : ∀ (Cs : List Addr), Paired ClsV (Cs.map V.ref) (Cs.map Value.ref)
  | [] => .nil
  | C :: Cs => .cons (.own C) (pair_cls Cs)
theorem d_isxT (T : XTab X.K X.mg rs zs) {es : List Expr} {us : List Str} {kk : Nat} (hu : us.all zs.contains = true) (he : DE X e te) (hl : DCl X es us) (hg : Gl X "isinstance") (hm : X.mg "isinstance" = none) (hb : bootBuiltins "isinstance" = some (.builtin "isinstance")) (h9 : us.length ≤ 1000 := by decide)
    (hst : starEach [e, .Tuple es kk p2] X.env = (false, eval e X.env) :: starEach [.Tuple es kk p2] X.env := by rfl) (hst2 : starEach [.Tuple es kk p2] X.env = (false, eval (.Tuple es kk p2) X.env) :: starEach [] X.env := by rfl) (hpl : (backTo pos (starEach [.Tuple es kk p2] X.env)).any (·.1) = false := by rfl) :
    DE X (.Call (.Name "isinstance" p) [e, .Tuple es kk p2] [] pos) (eIsxT rs us te) := by
  obtain ⟨Cs, h1, h2⟩ := hl.ex
  have hl2 : Cs.length = us.length := by
    have : ∀ {us : List Str} {Cs : List Addr}, Paired (fun z C => X.mg z = some (.ref C)) us Cs → Cs.length = us.length := fun {us Cs} p => by
      induction p with
      | nil => rfl
      | cons _ _ ih => simp [ih]
    exact this h2
  refine ⟨fun W => pe_weak (pe_callB call_isXT hg hm hb (pa_cons (he.run W) (pa_cons (pe_tup h1) pa_nil hst2) hst) (by decide) (by decide) hst hpl) fun σ H Q h => ?_⟩
  obtain ⟨r, F, q, R, t, w⟩ := h
  refine ⟨r, F, _, R, t, fun d r1 v F1 H1 t1 R1 s1 p1 => ?_⟩
  obtain ⟨y, rfl, hy, t1⟩ := t1
  obtain ⟨a, C, rfl, ea, hn⟩ := exc_inv p1
  refine ⟨by rw [List.length_map, hl2]; exact Nat.le_trans h9 (by decide), fun tp htp => ?_⟩
  obtain ⟨R4, f4, h4, ap⟩ := rel_newH (o := .tup (Cs.map V.ref)) R1 htp
  exact ⟨a, C, tp, Cs.map V.ref, Cs.map Value.ref, _, rfl, upd_same, pair_cls Cs, R4.sub _ _ ea, T.exc y hy C hn, kitAny_x T hy hn (fun z m => List.all_eq_true.mp hu z m) h2, w _ r1 _ F1 _ t1 R4 s1 (.bl _)⟩
end
def xNs (K : PySem.W.Frag) (z : Str) : Option Addr := match PySem.W.nsIn K mainGlobals z with
  | some (some (.ref C)) => some C
  | _ => none
theorem xNs_of {K : PySem.W.Frag} {z : Str} {C : Addr} (h : xNs K z = some C) : PySem.W.nsIn K mainGlobals z = some (some (.ref C)) := by
  unfold xNs at h
  split at h
  · rename_i C' e; cases h; exact e
  · cases h
theorem xNs_to {K : PySem.W.Frag} {z : Str} {C : Addr} (h : PySem.W.nsIn K mainGlobals z = some (some (.ref C))) : xNs K z = some C := by
  unfold xNs; rw [h]
def excOk (K : PySem.W.Frag) (C : Addr) : Bool := (PySem.W.findIn K (.ref C) "__getattribute__" == some (some (.builtin "BaseException.__getattribute__"))) && (PySem.W.findIn K (.ref C) "__getattr__" == some none) && (PySem.W.subIn K (.ref C) (.type "BaseException") == some true) && PySem.W.hasDictIn K C &&
  (PySem.W.findIn K (.ref C) "__class__" == some (some (.builtin "object.__class__"))) && (PySem.W.specialIn K (.builtin "object.__class__") "__get__" == some (some (.builtin "getset_descriptor.__get__"))) && (PySem.W.takesIn K (.builtin "object.__class__") == some true) && (PySem.W.mroIn K C (.type "object") == some true)
theorem excOk_of {K : PySem.W.Frag} {C : Addr} (h : excOk K C = true) : ExcC K C := by
  unfold excOk at h
  simp only [Bool.and_eq_true] at h
  obtain ⟨⟨⟨⟨⟨⟨⟨h1, h2⟩, h3⟩, h4⟩, h5⟩, h6⟩, h7⟩, h8⟩ := h
  exact ⟨beq_iff_eq.mp h1, beq_iff_eq.mp h2, beq_iff_eq.mp h3, h4, beq_iff_eq.mp h5, beq_iff_eq.mp h6, beq_iff_eq.mp h7, beq_iff_eq.mp h8⟩
def xClsOk (K : PySem.W.Frag) (z : Str) : Bool := (xNs K z).any fun C => PySem.W.keepIn K (.ref C) && PySem.W.excIn K C HandSPX.veTail "ValueError.__new__" && (PySem.W.subIn K (.ref C) (.type "BaseException") == some true) && (PySem.W.typeIn K (.ref C) == some (.type "type"))
theorem xcls_mk {K : PySem.W.Frag} {h : Heap} {mg : Str → Option Value} {z : Str} (X : K.In h) (G : h.Ns mainGlobals mg) (e : xClsOk K z = true) : XCls K mg z := by
  obtain ⟨C, hC, e⟩ := PySem.W.any_some e
  simp only [Bool.and_eq_true] at e
  obtain ⟨⟨⟨e1, e2⟩, e3⟩, e4⟩ := e
  have hn := xNs_of hC
  exact ⟨C, PySem.W.mg_of X G hn, hn, e1, e2, beq_iff_eq.mp e3, beq_iff_eq.mp e4⟩
def xOk (K : PySem.W.Frag) (rs zs : List Str) : Bool := zs.all (fun z => (xNs K z).isSome) && rs.all fun y => (xNs K y).any fun C => excOk K C && (PySem.W.kitOne K (.ref C) (.type "ValueError") == some true) &&
  ((xNs K "OnesError").any fun C0 => PySem.W.exmOne K (.ref C) (.ref C0) == some true) && zs.all fun z => (xNs K z).any fun C' => PySem.W.kitOne K (.ref C) (.ref C') == some (subX y z)
theorem xtab_mk {K : PySem.W.Frag} {h : Heap} {mg : Str → Option Value} {rs zs : List Str} (X : K.In h) (G : h.Ns mainGlobals mg) (e : xOk K rs zs = true) : XTab K mg rs zs := by
  unfold xOk at e
  rw [Bool.and_eq_true, List.all_eq_true, List.all_eq_true] at e
  obtain ⟨e1, e2⟩ := e
  have key : ∀ y, rs.contains y = true → ∀ C, PySem.W.nsIn K mainGlobals y = some (some (.ref C)) → excOk K C = true ∧ PySem.W.kitOne K (.ref C) (.type "ValueError") = some true ∧ (∃ C0, xNs K "OnesError" = some C0 ∧ PySem.W.exmOne K (.ref C) (.ref C0) = some true) ∧ ∀ z ∈ zs, ∃ C', xNs K z = some C' ∧ PySem.W.kitOne K (.ref C) (.ref C') = some (subX y z) := fun y hy C hC => by
    obtain ⟨C1, h1, e⟩ := PySem.W.any_some (e2 y (List.contains_iff_mem.mp hy))
    rw [xNs_to hC] at h1
    cases h1
    simp only [Bool.and_eq_true] at e
    obtain ⟨⟨⟨a, b⟩, c⟩, d⟩ := e
    obtain ⟨C0, c1, c2⟩ := PySem.W.any_some c
    refine ⟨a, beq_iff_eq.mp b, ⟨C0, c1, beq_iff_eq.mp c2⟩, fun z hz => ?_⟩
    obtain ⟨C', d1, d2⟩ := PySem.W.any_some (List.all_eq_true.mp d z hz)
    exact ⟨C', d1, beq_iff_eq.mp d2⟩
  have uq : ∀ {z : Str} {C C' : Addr}, mg z = some (.ref C) → xNs K z = some C' → C = C' := fun {z C C'} a b => by
    have := PySem.W.mg_of X G (xNs_of b)
    rw [this] at a
    cases a; rfl
  refine ⟨fun z hz => ?_, fun y hy C hC => excOk_of (key y hy C hC).1, fun y hy C hC C0 h0 => ?_, fun y hy C hC z hz C' h' => ?_, fun y hy C hC => (key y hy C hC).2.1⟩
  · obtain ⟨C, hC⟩ := Option.isSome_iff_exists.mp (e1 z (List.contains_iff_mem.mp hz))
    exact ⟨C, PySem.W.mg_of X G (xNs_of hC)⟩
  · obtain ⟨C1, c1, c2⟩ := (key y hy C hC).2.2.1
    rw [uq h0 c1]; exact c2
  · obtain ⟨C1, c1, c2⟩ := (key y hy C hC).2.2.2 z (List.contains_iff_mem.mp hz)
    rw [uq h' c1]; exact c2
end DL
namespace DL
open PySem
def sRaise (xp : XP) (z : Str) : DTS := fun _ r => xp z r
end DL
end
section
set_option Elab.async false
set_option linter.all false
set_option maxRecDepth 100000
set_option maxHeartbeats 1000000
namespace DL
open PySem PySem.Spec PyProof.Rows L2
end DL
end
section
set_option Elab.async false
set_option linter.all false
namespace MK
inductive Mk where
  | counter (n s b : Nat)
  | turned (w b : Nat)
  | register (w t b : Nat)
  | table (ns : List Int)
  | slow (k : Nat) (m : Mk)
  | slip (k : Nat) (m : Mk)
  | late (k : Nat) (m : Mk)
deriving DecidableEq
/-- the bits of a number, the last for the first -/
def rev : Nat → Nat → Nat
  | 0, _ => 0
  | w + 1, n => n % 2 * 2 ^ w + rev w (n / 2)
/-- how many ones both have, of the lowest w places -/
def odds : Nat → Nat → Nat → Nat
  | 0, _, _ => 0
  | w + 1, a, b => (a % 2) * (b % 2) + odds w (a / 2) (b / 2)
def next (w t h : Nat) : Nat := 2 * h % 2 ^ w + odds w h t % 2
def held (w t s : Nat) : Nat → Nat
  | 0 => s
  | n + 1 => next w t (held w t s n)
/-- the first place behind which s is held again -/
def backFrom (w t s : Nat) : Nat → Nat → Nat → Nat
  | 0, _, n => n
  | f + 1, h, n => if next w t h = s then n + 1 else backFrom w t s f (next w t h) (n + 1)
def period (w t s : Nat) : Nat := backFrom w t s 64 s 0
/-- what was held a beat ahead -/
def prev (w t b : Nat) : Nat := b / 2 + 2 ^ (w - 1) * ((b % 2 + odds w (b / 2) t) % 2)
def prevOk : Bool := (List.range 7).all fun w => (List.range (2 ^ w)).all fun t => decide (w < 2) || decide (t < 2 ^ (w - 1)) || (List.range (2 ^ w)).all fun h => decide (prev w t (next w t h) = h) && decide (next w t h < 2 ^ w)
set_option maxRecDepth 100000 in
theorem prev_ok : prevOk = true := by decide +kernel
theorem prev_next {w t h : Nat} (h1 : 2 ≤ w) (h2 : w ≤ 6) (h3 : 2 ^ (w - 1) ≤ t) (h4 : t < 2 ^ w) (h5 : h < 2 ^ w) : prev w t (next w t h) = h ∧ next w t h < 2 ^ w := by
  have q := prev_ok
  unfold prevOk at q
  rw [List.all_eq_true] at q
  have a := q w (List.mem_range.2 (by omega))
  rw [List.all_eq_true] at a
  have b := a t (List.mem_range.2 h4)
  simp only [Bool.or_eq_true, decide_eq_true_eq] at b
  rcases b with (b | b) | b
  · omega
  · omega
  · rw [List.all_eq_true] at b
    have c := b h (List.mem_range.2 h5)
    simpa using c
section
variable {w t s : Nat}
structure Reg (w t s : Nat) : Prop where
  w1 : 2 ≤ w
  w2 : w ≤ 6
  t1 : 2 ^ (w - 1) ≤ t
  t2 : t < 2 ^ w
  s1 : 1 ≤ s
  s2 : s < 2 ^ w
theorem Reg.held_lt (R : Reg w t s) : ∀ n, held w t s n < 2 ^ w
  | 0 => R.s2
  | n + 1 => (prev_next R.w1 R.w2 R.t1 R.t2 (R.held_lt n)).2
theorem Reg.back1 (R : Reg w t s) {i j : Nat} (h : held w t s (i + 1) = held w t s (j + 1)) : held w t s i = held w t s j := by
  have a := (prev_next R.w1 R.w2 R.t1 R.t2 (R.held_lt i)).1
  have b := (prev_next R.w1 R.w2 R.t1 R.t2 (R.held_lt j)).1
  have h' : next w t (held w t s i) = next w t (held w t s j) := h
  rw [← a, ← b, h']
theorem Reg.back (R : Reg w t s) (d : Nat) : ∀ i, held w t s i = held w t s (i + d) → held w t s d = s
  | 0, h => by rw [Nat.zero_add] at h; exact h.symm
  | i + 1, h => R.back d i (R.back1 (by rw [Nat.add_right_comm] at h; exact h))
end
end MK
end
section
set_option Elab.async false
set_option linter.all false
namespace MK
def Mk.base : Mk → List Int
  | .counter n s b => (List.range n).map fun t => (((b : Int) + s * (t : Nat)) % n)
  | .turned w b => (List.range (2 ^ w)).map fun t => ((rev w ((b + t) % 2 ^ w) : Nat) : Int)
  | .register w t s => (List.range (period w t s)).map fun n => ((held w t s n : Nat) : Int)
  | .table ns => ns
  | _ => []
def Mk.round : Mk → Nat
  | .counter n _ _ => n
  | .turned w _ => 2 ^ w
  | .register w t s => period w t s
  | .table ns => ns.length
  | .slow k m => k * m.round
  | .slip k m => k * (m.round / Nat.gcd m.round (k + 1))
  | .late _ m => m.round
def Mk.val : Mk → Int → Int
  | .slow k m, t => m.val (t / k)
  | .slip k m, t => m.val (t + t / k)
  | .late k m, t => m.val (t - k)
  | m, t => m.base.getD (t % m.base.length).toNat 0
end MK
end
section
set_option Elab.async false
set_option linter.all false
set_option maxRecDepth 100000
namespace DL
open PySem PySem.Spec PyProof.Rows L2 MK
end DL
end
section
set_option Elab.async false
set_option linter.all false
set_option maxRecDepth 100000
namespace DL
open PySem PySem.Spec PyProof.Rows L2 MK
/-- the numbers of the first n beats -/
def vals (m : Mk) (n : Nat) : List Int := (List.range n).map fun t => m.val ((t : Nat) : Int)
end DL
end
section
set_option Elab.async false
set_option linter.all false
set_option maxRecDepth 100000
namespace DL
open PySem PySem.Spec PyProof.Rows L2 MK
end DL
end
section
set_option Elab.async false
set_option linter.all false
set_option maxRecDepth 100000
namespace DL
open PySem PySem.Spec PyProof.Rows L2 MK
end DL
end
section
set_option Elab.async false
set_option linter.all false
set_option maxRecDepth 100000
namespace DL
open PySem PySem.Spec PyProof.Rows L2 MK
/-- all rounds within are at most so many -/
def _root_.MK.Mk.In (n : Int) : Mk → Prop
  | .slow k m => ((k * m.round : Nat) : Int) ≤ n ∧ m.In n
  | .slip k m => ((k * (m.round / Nat.gcd m.round (k + 1)) : Nat) : Int) ≤ n ∧ m.In n
  | .late _ m => m.In n
  | m => (m.round : Int) ≤ n
end DL
end
section
set_option Elab.async false
set_option linter.all false
set_option maxRecDepth 100000
namespace DL
open PySem PySem.Spec PyProof.Rows L2 MK
end DL
end
section
set_option Elab.async false
set_option linter.all false
set_option maxRecDepth 100000
namespace DL
open PySem PySem.Spec PyProof.Rows L2 MK
end DL
end
section
set_option Elab.async false
set_option linter.all false
set_option maxRecDepth 100000
namespace DL
open PySem PySem.Spec PyProof.Rows L2 MK
end DL
end
section
set_option Elab.async false
set_option linter.all false
set_option maxRecDepth 100000
set_option maxHeartbeats 1000000
namespace DL
open PySem PySem.Spec PyProof.Rows L2 MK
theorem In.mono : ∀ {m : Mk} {n k : Int}, m.In n → n ≤ k → m.In k
  | .slow _ m, _, _, h, l => ⟨Int.le_trans h.1 l, In.mono (m := m) h.2 l⟩
  | .slip _ m, _, _, h, l => ⟨Int.le_trans h.1 l, In.mono (m := m) h.2 l⟩
  | .late _ m, _, _, h, l => In.mono (m := m) h l
  | .counter _ _ _, _, _, h, l => Int.le_trans h l
  | .turned _ _, _, _, h, l => Int.le_trans h l
  | .register _ _ _, _, _, h, l => Int.le_trans h l
  | .table _, _, _, h, l => Int.le_trans h l
theorem In.round : ∀ {m : Mk} {n : Int}, m.In n → (m.round : Int) ≤ n
  | .slow _ _, _, h => h.1
  | .slip _ _, _, h => h.1
  | .late _ m, _, h => In.round (m := m) h
  | .counter _ _ _, _, h => h
  | .turned _ _, _, h => h
  | .register _ _ _, _, h => h
  | .table _, _, h => h
end DL
end
section
set_option Elab.async false
set_option linter.all false
set_option maxRecDepth 100000
set_option maxHeartbeats 1000000
namespace DL
open PySem PySem.Spec PyProof.Rows L2 MK
end DL
end
section
set_option Elab.async false
set_option linter.all false
set_option maxRecDepth 100000
set_option maxHeartbeats 1000000
namespace DL
open PySem PySem.Spec PyProof.Rows L2 MK
def oth (x lo hi : Int) : Int := if x = lo then hi else lo
end DL
end
section
set_option Elab.async false
set_option linter.all false
namespace SU
def Per (T : Nat → Int) (d : Nat) : Prop := ∀ r, T (r + d) = T r
theorem Per.mul {T : Nat → Int} {d : Nat} (h : Per T d) : ∀ k, Per T (k * d)
  | 0, r => by rw [Nat.zero_mul]; rfl
  | k + 1, r => by rw [Nat.add_mul, Nat.one_mul, ← Nat.add_assoc, h, Per.mul h k]
theorem Per.mod {T : Nat → Int} {d : Nat} (h : Per T d) (r : Nat) : T (r % d) = T r := by
  have e := Nat.mod_add_div r d
  have q := h.mul (r / d) (r % d)
  rw [Nat.mul_comm, e] at q
  exact q.symm
theorem Per.gcd {T : Nat → Int} : ∀ (a b : Nat), Per T a → Per T b → Per T (Nat.gcd a b) := by
  intro a b
  induction a, b using Nat.gcd.induction with
  | H0 n => intro _ h; rw [Nat.gcd_zero_left]; exact h
  | H1 m n hm ih =>
    intro ha hb
    rw [Nat.gcd_rec]
    refine ih (fun r => ?_) ha
    have e : r + n % m + n / m * m = r + n := by have := Nat.mod_add_div n m; rw [Nat.mul_comm] at this; omega
    rw [← ha.mul (n / m) (r + n % m), e, hb]
end SU
end
section
set_option Elab.async false
set_option linter.all false
set_option maxRecDepth 100000
set_option maxHeartbeats 1000000
namespace DL
open PySem PySem.Spec PyProof.Rows L2 MK SU
end DL
end
section
set_option Elab.async false
set_option linter.all false
set_option maxRecDepth 100000
set_option maxHeartbeats 1000000
namespace DL
open PySem PySem.Spec PyProof.Rows L2
end DL
end
section
set_option Elab.async false
set_option linter.all false
set_option maxRecDepth 100000
set_option maxHeartbeats 1000000
namespace HT
open PySem PySem.Spec PyProof.Rows PySem.W
section
variable {prog : Program} {w : World} {A : Around} {E : Value → Shared → Prop} {s : Shared}
theorem sliceApplied_back {sl : Addr} {vs : Value} {n : Nat} {Q : Int × Int × Nat → Shared → Prop} (hs : s.heap.IsSliceOf sl .none .none vs) (ps : IsPart vs (some (-1)))
    (h : Q ((n : Int) - 1, -1, n) s) : wpAny (model prog w) A (Builtin.Slice.sliceApplied (.ref sl) (pure (n : Int))) Q E s := by
  obtain ⟨os, hos, hcs, hds⟩ := id hs
  unfold Builtin.Slice.sliceApplied Builtin.Slice.sliceFields
  refine wpAny_bind (wpAny_bind (wpAny_field hos hds (x := .none) rfl (wpAny_bind (wpAny_field hos hds (x := .none) rfl (wpAny_bind (wpAny_field hos hds (x := vs) rfl (wpAny_pure ?_)))))))
  refine wpAny_bind (slicePart_ ps ?_)
  show wpAny _ _ (if ((-1 : Int) == 0) = true then _ else _) _ _ s
  rw [if_neg (by decide)]
  refine wpAny_bind (slicePart_none (wpAny_bind (slicePart_none (wpAny_bind (wpAny_pure ?_)))))
  show wpAny _ _ (pure ((n : Int) - 1, (-1 : Int), Builtin.Slice.slicePlaces ((n : Int) - 1) (-1) (-1))) _ _ s
  have e : Builtin.Slice.slicePlaces ((n : Int) - 1) (-1) (-1) = n := by
    unfold Builtin.Slice.slicePlaces
    have h1 : ¬ ((-1 : Int) > 0) := by decide
    simp only [h1, if_false]
    by_cases h : (n : Int) - 1 > -1
    · rw [if_pos h, show (-(-1) : Int) = 1 by decide, Int.ediv_one]; omega
    · rw [if_neg h]; omega
  rw [e]
  exact wpAny_pure h
theorem pick_back (xs : Array Value) : ((List.range xs.size).filterMap fun (m : Nat) => xs[((xs.size : Int) - 1 + (m : Int) * (-1)).toNat]?).toArray = xs.toList.reverse.toArray := by
  have e : (fun (m : Nat) => xs[((xs.size : Int) - 1 + (m : Int) * (-1)).toNat]?) = fun m => xs[xs.size - 1 - m]? := by
    funext m
    rw [show ((xs.size : Int) - 1 + (m : Int) * (-1)).toNat = xs.size - 1 - m by omega]
  rw [e]
  have h : (List.range xs.size).filterMap (fun m => xs[xs.size - 1 - m]?) = ((List.range xs.size).map fun k => xs.size - 1 - k).filterMap (xs[·]?) := by rw [List.filterMap_map]; rfl
  rw [h, krv_range, List.filterMap_reverse, krv_all]
theorem getItem_tuple_back {t sl : Addr} {items : Array Value} {vs : Value} {Q : Value → Shared → Prop} (ht : IsTup s.heap t items) (hs : s.heap.IsSliceOf sl .none .none vs) (ps : IsPart vs (some (-1)))
    (h : Q (.ref s.heap.objs.size) { s with heap := s.heap.push { cls := .type "tuple", data := .seq items.toList.reverse.toArray } })
    (hsz : items.size ≤ sizeLine) : wpAny (model prog w) A (getItem (.ref t) (.ref sl)) Q E s := by
  have htake : sizeOk (.seq items.toList.reverse.toArray) := by
    show items.toList.reverse.toArray.size ≤ sizeLine
    rw [List.size_toArray, List.length_reverse, Array.length_toList]
    omega
  obtain ⟨os, hos, hcs, hds⟩ := id hs
  have hTs : s.TypeIs (.ref sl) "slice" := ⟨os, hos, hcs⟩
  unfold getItem
  try with_reducible refine wpAny_holding ?_
  first | refine wpAny_bind (wpAny_pure ?_) | skip
  refine wpAny_bind (wpAny_sequenceKey ht.typeIs (by decide) ?_)
  refine wpAny_bind (wpAny_callSpecial?_slot (name := Str.ofString "__getitem__") ht.typeIs PyProof.Rows.slot_tuple_getitem
    (wpAny_call_entry PyProof.Rows.slot_tuple_getitem ht.typeIs entry_tuple_getitem ?_ (args_tuple_getitem _ _)))
  show wpAny _ _ (Builtin.Tuple.tupleItemsOf (.ref t) >>= _) _ _ s
  refine wpAny_bind (tupleItemsOf_ ht ?_)
  refine wpAny_bind (wpAny_typeOf hTs ?_)
  rw [if_pos (by decide)]
  refine wpAny_bind (sliceApplied_back hs ps ?_)
  have hno : ¬ ((((items.size : Int) - 1) == 0 && (-1 : Int) == 1 && items.size == items.size) = true) := by
    intro q
    rw [Bool.and_eq_true, Bool.and_eq_true] at q
    exact absurd q.1.2 (by decide)
  show wpAny _ _ (if (((items.size : Int) - 1) == 0 && (-1 : Int) == 1 && items.size == items.size) = true then _ else _) _ _ s
  rw [if_neg hno, pick_back]
  first
    | exact wpAny_bind (m := Builtin.Tuple.tupleExact _) (wpAny_newObj_type (wpAny_pure ⟨_, rfl, wpAny_pure h⟩) htake)
    | exact wpAny_bind (m := Builtin.Tuple.tupleExact _) (wpAny_newObj_type (wpAny_bind (wpAny_pure (wpAny_pure ⟨_, rfl, wpAny_pure h⟩))) htake)
    | exact wpAny_bind (wpAny_bind (m := Builtin.Tuple.tupleExact _) (wpAny_newObj_type (wpAny_pure (wpAny_pure ⟨_, rfl, wpAny_pure h⟩)) htake))
    | exact wpAny_bind (wpAny_bind (m := Builtin.Tuple.tupleExact _) (wpAny_newObj_type (wpAny_pure ⟨_, rfl, wpAny_pure h⟩) htake))
end
end HT
namespace L2
open PySem PySem.Spec PyProof.Rows
section
variable {X : Cx}
def tRevT (K : PySem.W.Frag) (te : TE) : TE := fun σ H Q => te σ H fun x H1 => ∃ a xs, x = .ref a ∧ SqT K H1 a xs ∧ ∀ p, H1 p = none → Q (.ref p) (upd H1 p (.tup xs.reverse))
theorem pe_revT {e : Expr} {te : TE} {k : Nat} {p1 p2 p3 pos : Pos} (he : PE X e te) : PE X (.Subscript e (.Slice none none (some (.UnaryOp .USub (.Constant (.int 1) k p1) p2)) p3) pos) (tRevT X.K te) := by
  refine ⟨fun pins s σ H Q I h => ?_⟩
  refine Subscript_ (thn (he.run pins s σ H _ I h) fun v s1 ⟨x, H1, I1, r1, q1⟩ => ?_)
  obtain ⟨a, xs, ex, hx, q⟩ := q1
  subst ex
  cases r1
  have hst : PO X (some (.UnaryOp .USub (.Constant (.int 1) k p1) p2)) (tPart (tUn (rU fun i => .int (-i)) (tC (.int 1)))) := po_some (pe_un un_neg pe_int)
  refine wpAny_Slice (thn (po_none.run pins s1 σ H1 (fun o H2 => o = none ∧ H2 = H1) I1 ⟨rfl, rfl⟩) fun vl s2 ⟨l, H2, I2, pl, el, e2⟩ => ?_)
  subst el e2
  refine thn (po_none.run pins s2 σ H2 (fun o H3 => o = none ∧ H3 = H2) I2 ⟨rfl, rfl⟩) fun vu s3 ⟨u, H3, I3, pu, eu, e3⟩ => ?_
  subst eu e3
  refine thn (hst.run pins s3 σ H3 (fun o H4 => o = some (-1) ∧ H4 = H3) I3 ⟨1, rfl, -1, rfl, rfl, rfl⟩) fun vs s4 ⟨o, H4, I4, ps, eo, e4⟩ => ?_
  subst eo e4
  cases pl
  cases pu
  have I5 : Inv X pins σ H4 { s4 with heap := s4.heap.push { cls := .type "slice", data := .fields #[.none, .none, vs] } } := I4.kept (t' := s4.toks) fun b ob q => Heap.get?_push_of_some _ q
  obtain ⟨its, r, ht, hz⟩ := I5.tuple hx
  have hlen := r.length
  show wpAny (model X.prog X.w) X.A (subscriptTail e (.Slice none none (some (.UnaryOp .USub (.Constant (.int 1) k p1) p2)) p3) (.ref a) (.ref s4.heap.objs.size)) (EP X pins σ Q) X.xe { s4 with heap := s4.heap.push { cls := .type "slice", data := .fields #[.none, .none, vs] } }
  refine tail_any (ops := [.ref a, .ref s4.heap.objs.size]) ht.typeIs (PyProof.Rows.slot_tuple_getitem.lookup) ?_ (by with_unfolding_all rfl)
  refine HT.getItem_tuple_back ht (Heap.IsSliceOf.new _ .none .none vs) ps ?_ (by rw [List.size_toArray]; omega)
  refine ⟨.ref _, _, I5.laid (t' := s4.toks) (o := .tup xs.reverse) (fun b ob q => Heap.get?_push_of_some _ q) (Nat.le_refl _) ?_, rfl, q _ (I5.hok.fresh (Nat.le_refl _))⟩
  exact ⟨by rw [List.length_reverse]; exact hz, _, r.reverse, IsTup.new _ _⟩
end
end L2
namespace DL
open PySem PySem.Spec PyProof.Rows L2
section
variable {X : Cx}
def eRevT (te : DTE) : DTE := fun r q => te r fun d r1 => match d with
  | .tuple ds => q (.tuple ds.reverse) r1
  | _ => False
theorem d_revT {te : DTE} {k : Nat} {p1 p2 p3 : Pos} (he : DE X e te) : DE X (.Subscript e (.Slice none none (some (.UnaryOp .USub (.Constant (.int 1) k p1) p2)) p3) pos) (eRevT te) := by
  refine ⟨fun W => pe_weak (pe_revT (he.run W)) fun σ H Q h => ?_⟩
  obtain ⟨r, F1, q, R, t, w⟩ := h
  refine ⟨r, F1, _, R, t, fun d r1 v F2 H2 t1 R1 s1 p1 => ?_⟩
  cases p1 with
  | tup h1 h2 =>
    refine ⟨_, _, rfl, same_tup R1.sub h1, fun p hp => ?_⟩
    rename_i vs ds
    have ex := ext_new (o := .tup vs.reverse) R1.sub hp
    exact w _ r1 _ _ _ t1 (R1.ext ex) (s1.trans ex.f) (.tup (SqT.of upd_same) ((h2.up ex.f).reverse))
  | _ => exact t1.elim
end
end DL
end
section
set_option Elab.async false
set_option linter.all false
set_option maxRecDepth 100000
namespace K08
open PySem DL
def c_MOST_BITS : D := .int 4096
def c_rs : List Str := ["NoSuch"]
def c_zs : List Str := ["BadSheet", "BadText", "NoOne", "NoRound", "NoSuch", "OnesError", "Unlike"]
/-- is_number(thing): slots 0 thing; calls  -/
def b_is_number : DTS :=
  (sRet (eAnd (eIsi .int (eVar 0)) (eNot (eIsi .bool (eVar 0)))))
/-- is_bit(thing): slots 0 thing; calls is_number -/
def b_is_bit (sp_is_number : DSp) : DTS :=
  (sRet (eAnd (eCallF 1 sp_is_number (cCons (eVar 0) cNil)) (eOp2 (pIn false) (eVar 0) (eTup (aCons (eC (.int 0)) (aCons (eC (.int 1)) aNil))))))
/-- is_row(thing): slots 0 thing, 1 bit; calls is_bit -/
def b_is_row (sp_is_bit : DSp) : DTS :=
  (sSeq (sIf (tOr' (tNt (tTru (eIsi .tuple (eVar 0)))) (tNt (tBl (eChain pLe pLe (eC (.int 1)) (eLenV 0) (eC c_MOST_BITS))))) (sRet (eC (.bool false))) sNext)
  (sRet (eCall pAll (aCons (eFrz (oComp true [1] (iAny (eVar 0)) tYesD (eCallF 1 sp_is_bit (cCons (eVar 1) cNil)))) aNil))))
/-- ones(row): slots 0 row; calls  -/
def b_ones : DTS :=
  (sRet (eCall pSum (aCons (eVar 0) aNil)))
/-- of_one_length(rows): slots 0 rows, 1 row; calls  -/
def b_of_one_length : DTS :=
  (sFor (iAny (eVar 0)) (gNm 1) (sIf (tBl (eOp2 pNe (eLenV 1) (eCall pLen (aCons (eIxV 0 (eC (.int 0))) aNil)))) sBad sNext))
/-- overlap(one, other): slots 0 one, 1 other, 2 a, 3 b; calls of_one_length -/
def b_overlap (sp_of_one_length : DSp) : DTS :=
  (sSeq (sDrop (eCallF 1 sp_of_one_length (cCons (eFrz (oLst (aCons (eVar 0) (aCons (eVar 1) aNil)))) cNil)))
  (sRet (eCall pSum (aCons (eFrz (oComp false [2, 3] (iZp (aCons (eVar 0) (aCons (eVar 1) aNil))) tYesD (eOp2 pMul (eVar 2) (eVar 3)))) aNil))))
/-- met_ends(n, a, b): slots 0 n, 1 a, 2 b; calls  -/
def b_met_ends : DTS :=
  (sRet (eTup (aCons (eCall pMax2 (aCons (eC (.int 0)) (aCons (eOp2 pSub (eOp2 pAdd (eVar 1) (eVar 2)) (eVar 0)) aNil))) (aCons (eCall pMin2 (aCons (eVar 1) (aCons (eVar 2) aNil))) aNil))))
/-- leaning_rows(n, a, b, met): slots 0 n, 1 a, 2 b, 3 met, 4 least, 5 most, 6 one, 7 other; calls met_ends -/
def b_leaning_rows (sp_met_ends : DSp) (xp : XP) : DTS :=
  (sSeq (sAsg (eCallF 3 sp_met_ends (cCons (eVar 0) (cCons (eVar 1) (cCons (eVar 2) cNil)))) (gTp' 2 (gsCons (gNm 4) (gsCons (gNm 5) gsNil))))
  (sSeq (sIf (tNt (tBl (eChain pLe pLe (eVar 4) (eVar 3) (eVar 5)))) (sRaise xp "NoSuch") sNext)
  (sSeq (sSet 6 (eOp2 pAddT (eOp2 pMulTg (eTupT (aCons (eC (.int 1)) aNil)) (eVar 1)) (eOp2 pMulTg (eTupT (aCons (eC (.int 0)) aNil)) (eOp2 pSub (eVar 0) (eVar 1)))))
  (sSeq (sSet 7 (eOp2 pAddT (eOp2 pAddT (eOp2 pAddT (eOp2 pMulTg (eTupT (aCons (eC (.int 1)) aNil)) (eVar 3)) (eOp2 pMulTg (eTupT (aCons (eC (.int 0)) aNil)) (eOp2 pSub (eVar 1) (eVar 3)))) (eOp2 pMulTg (eTupT (aCons (eC (.int 1)) aNil)) (eOp2 pSub (eVar 2) (eVar 3)))) (eOp2 pMulTg (eTupT (aCons (eC (.int 0)) aNil)) (eOp2 pAdd (eOp2 pSub (eOp2 pSub (eVar 0) (eVar 1)) (eVar 2)) (eVar 3)))))
  (sRet (eTup (aCons (eVar 6) (aCons (eVar 7) aNil))))))))
/-- shows_rows(n, a, b, met, thing): slots 0 n, 1 a, 2 b, 3 met, 4 thing, 5 one, 6 other; calls is_row, ones, overlap -/
def b_shows_rows (sp_is_row : DSp) (sp_ones : DSp) (sp_overlap : DSp) : DTS :=
  (sSeq (sIf (tOr' (tNt (tTru (eIsi .tuple (eVar 4)))) (tOr' (tBl (eOp2 pNe (eLenV 4) (eC (.int 2)))) (tOr' (tNt (tTru (eCallF 1 sp_is_row (cCons (eIxV 4 (eC (.int 0))) cNil)))) (tNt (tTru (eCallF 1 sp_is_row (cCons (eIxV 4 (eC (.int 1))) cNil))))))) (sRet (eC (.bool false))) sNext)
  (sSeq (sAsg (eVar 4) (gTp' 2 (gsCons (gNm 5) (gsCons (gNm 6) gsNil))))
  (sSeq (sIf (tOr' (tBl (eOp2 pNe (eLenV 5) (eVar 0))) (tBl (eOp2 pNe (eLenV 6) (eVar 0)))) (sRet (eC (.bool false))) sNext)
  (sRet (eAnd (eOp2 pEq (eCallF 1 sp_ones (cCons (eVar 5) cNil)) (eVar 1)) (eAnd (eOp2 pEq (eCallF 1 sp_ones (cCons (eVar 6) cNil)) (eVar 2)) (eOp2 pEq (eCallF 2 sp_overlap (cCons (eVar 5) (cCons (eVar 6) cNil))) (eVar 3))))))))
/-- law_box(_law_script, _law_k): slots 0 law_script, 1 law_k, 2 law_cell; calls  -/
def b_law_box : DTS :=
  (sSeq (sSet 2 (eC (.int 0)))
  (sSeq (sIf (tBl (eOp2 pLt (eVar 1) (eLenV 0))) (sSet 2 (eIxV 0 (eVar 1))) sNext)
  (sRetO (oLst (aCons (eOp2 pMul (eCall pAbs (aCons (eVar 2) aNil)) (eCall pInt (aCons (eOp2 pGe (eCall pAbs (aCons (eVar 2) aNil)) (eOp2 pPow (eC (.int 10)) (eC (.int 18)))) aNil))) (aCons (eOp2 pMod (eOp2 pAdd (eVar 2) (eOp2 pMul (eOp2 pMul (eC (.int 7919)) (eVar 1)) (eVar 1))) (eC (.int 2147483647))) (aCons (eC (.int 0)) aNil)))))))
/-- law_take(_law_box_here, _law_many): slots 0 law_box_here, 1 law_many, 2 law_once, 3 law_found; calls  -/
def b_law_take : DTS :=
  (sSeq (sIf (tBl (eOp2 pGt (eIxV 0 (eC (.int 0))) (eC (.int 0)))) (sSeq (sAsg (eCall pDvm (aCons (eIxV 0 (eC (.int 0))) (aCons (eVar 1) aNil))) (gTp' 2 (gsCons (gSb 0 (eC (.int 0))) (gsCons (gNm 3) gsNil))))
  (sRet (eVar 3))) sNext)
  (sSeq (sAsg (eOp2 pAdd (eIxV 0 (eC (.int 2))) (eC (.int 1))) (gSb 0 (eC (.int 2))))
  (sSeq (sSet 2 (eOp2 pMod (eOp2 pPow (eOp2 pAdd (eIxV 0 (eC (.int 1))) (eOp2 pMul (eC (.int 39373)) (eIxV 0 (eC (.int 2))))) (eC (.int 5))) (eC (.int 2147483647))))
  (sRet (eOp2 pMod (eOp2 pDiv (eOp2 pMod (eOp2 pAdd (eOp2 pMul (eVar 2) (eC (.int 48271))) (eOp2 pMul (eOp2 pMul (eIxV 0 (eC (.int 2))) (eIxV 0 (eC (.int 2)))) (eC (.int 7919)))) (eC (.int 2147483629))) (eC (.int 64))) (eVar 1))))))
/-- law_folded(_law_script, _law_many): slots 0 law_script, 1 law_many, 2 law_cells, 3 law_k, 4 law_cell; calls  -/
def b_law_folded : DTS :=
  (sSeq (sSetO 2 (oList (eSlV 0 pNo (pSome (eVar 1)))))
  (sSeq (sFor (iEnm' (aCons (eSlV 0 (pSome (eVar 1)) (pSome (eC (.int 63)))) aNil)) (gTp' 2 (gsCons (gNm 3) (gsCons (gNm 4) gsNil))) (sAsg (eOp2 pAdd (eIxV 2 (eOp2 pMod (eVar 3) (eVar 1))) (eOp2 pMul (eVar 4) (eOp2 pAdd (eVar 3) (eC (.int 2))))) (gSb 2 (eOp2 pMod (eVar 3) (eVar 1)))))
  (sRet (eVar 2))))
/-- law_told(_law_n, _law_a, _law_b, _law_met): slots 0 law_n, 1 law_a, 2 law_b, 3 law_met, 4 law_found, 5 law_caught, 6 law_others, 7 error; calls leaning_rows -/
def b_law_told (sp_leaning_rows : DSpX) : DTS :=
  (sSeq (sAsg (eTup (aCons (eC .none) (aCons (eC .none) aNil))) (gTp' 2 (gsCons (gNm 4) (gsCons (gNm 5) gsNil))))
  (sSeq (sTryK c_rs 5 7 (fun xp => (sSet 4 (eCallX 4 sp_leaning_rows (cCons (eVar 0) (cCons (eVar 1) (cCons (eVar 2) (cCons (eVar 3) cNil)))) xp))))
  (sSeq (sIf (tBl (eOp2 pIs (eVar 5) (eC .none))) (sRet (eVar 4)) sNext)
  (sSeq (sSet 6 (eIsxT c_rs ["BadSheet", "BadText", "NoOne", "NoRound", "Unlike"] (eVar 5)))
  (sRet (eIf (tAn (tTru (eIsx c_rs "NoSuch" (eVar 5))) (tAn (tTru (eIsxV c_rs (eVar 5))) (tNt (tTru (eVar 6))))) (eC (.str "none")) (eC (.str "other"))))))))
/-- law_due(_law_n, _law_a, _law_b, _law_met, _law_thing): slots 0 law_n, 1 law_a, 2 law_b, 3 law_met, 4 law_thing, 5 law_row, 6 law_one, 7 law_other, 8 law_bit, 9 law_place; calls  -/
def b_law_due : DTS :=
  (sSeq (sIf (tOr' (tNt (tTru (eIsi .tuple (eVar 4)))) (tBl (eOp2 pNe (eLenV 4) (eC (.int 2))))) (sRet (eC (.bool false))) sNext)
  (sSeq (sFor (iAny (eVar 4)) (gNm 5) (sSeq (sIf (tOr' (tNt (tTru (eIsi .tuple (eUn (eVar 5))))) (tBl (eOp2 pNe (eCall pLen (aCons (eUn (eVar 5)) aNil)) (eVar 0)))) (sRet (eC (.bool false))) sNext)
  (sIf (tTru (eCall pAny (aCons (eFrz (oComp true [8] (iAny (eUn (eVar 5))) tYesD (eOr (eNot (eIsi .int (eVar 8))) (eOr (eIsi .bool (eVar 8)) (eOr (eOp2 pLt (eVar 8) (eC (.int 0))) (eOp2 pGt (eVar 8) (eC (.int 1)))))))) aNil))) (sRet (eC (.bool false))) sNext)))
  (sSeq (sAsg (eVar 4) (gTp' 2 (gsCons (gNm 6) (gsCons (gNm 7) gsNil))))
  (sSeq (sIf (tOr' (tBl (eOp2 pNe (eCntT (eVar 6) (aCons (eC (.int 1)) aNil)) (eVar 1))) (tBl (eOp2 pNe (eCntT (eVar 7) (aCons (eC (.int 1)) aNil)) (eVar 2)))) (sRet (eC (.bool false))) sNext)
  (sRet (eOp2 pEq (eCall pLen (aCons (eFrz (oComp true [9] (iR1 (aCons (eVar 0) aNil)) (tBl (eOp2 pEq (eOp2 pAdd (eOp2 pIx (eUn (eVar 6)) (eVar 9)) (eOp2 pIx (eUn (eVar 7)) (eVar 9))) (eC (.int 2)))) (eVar 9))) aNil)) (eVar 3)))))))
/-- law_made(_law_box_here, _law_n, _law_a, _law_b, _law_met): slots 0 law_box_here, 1 law_n, 2 law_a, 3 law_b, 4 law_met, 5 law_kinds, 6 law_at, 7 law_mixed, 8 law_kind; calls law_take -/
def b_law_made (sp_law_take : DSp) : DTS :=
  (sSeq (sSet 5 (eOp2 pAdd (eOp2 pAdd (eOp2 pAdd (eOp2 pMul (eFrz (oLst (aCons (eTup (aCons (eC (.int 1)) (aCons (eC (.int 1)) aNil))) aNil))) (eVar 4)) (eOp2 pMul (eFrz (oLst (aCons (eTup (aCons (eC (.int 1)) (aCons (eC (.int 0)) aNil))) aNil))) (eOp2 pSub (eVar 2) (eVar 4)))) (eOp2 pMul (eFrz (oLst (aCons (eTup (aCons (eC (.int 0)) (aCons (eC (.int 1)) aNil))) aNil))) (eOp2 pSub (eVar 3) (eVar 4)))) (eOp2 pMul (eFrz (oLst (aCons (eTup (aCons (eC (.int 0)) (aCons (eC (.int 0)) aNil))) aNil))) (eOp2 pAdd (eOp2 pSub (eOp2 pSub (eVar 1) (eVar 2)) (eVar 3)) (eVar 4)))))
  (sSeq (sPutX [6, 7] (xCons (eCallF 2 sp_law_take (cIo 0 (cCons (eVar 1) cNil))) (xOwn (oLst aNil) xNil)))
  (sSeq (sFor (iAny (eOp2 pMul (eVar 5) (eCall pInt (aCons (eOp2 pLt (eVar 1) (eC (.int 401))) aNil)))) (gNm 8) (sDrop (eMutL 7 pIns (aCons (eCallF 2 sp_law_take (cIo 0 (cCons (eOp2 pAdd (eLenV 7) (eC (.int 1))) cNil))) (aCons (eVar 8) aNil)))))
  (sSeq (sSet 7 (eIf (tBl (eOp2 pLt (eVar 1) (eC (.int 401)))) (eVar 7) (eOp2 pAdd (eSlV 5 (pSome (eVar 6)) pNo) (eSlV 5 pNo (pSome (eVar 6))))))
  (sRet (eTup (aCons (eCall pTupT (aCons (eFrz (oComp true [8] (iAny (eVar 7)) tYesD (eIxV 8 (eC (.int 0))))) aNil)) (aCons (eCall pTupT (aCons (eFrz (oComp true [8] (iAny (eVar 7)) tYesD (eIxV 8 (eC (.int 1))))) aNil)) aNil))))))))
/-- law_otherwise(_law_box_here, _law_pair): slots 0 law_box_here, 1 law_pair, 2 law_way, 3 law_which, 4 law_row, 5 law_at, 6 law_other; calls law_take -/
def b_law_otherwise (sp_law_take : DSp) : DTS :=
  (sSeq (sPar 2 3 (aCons (eCallF 2 sp_law_take (cIo 0 (cCons (eC (.int 10)) cNil))) (aCons (eCallF 2 sp_law_take (cIo 0 (cCons (eC (.int 2)) cNil))) aNil)))
  (sSeq (sPutX [4, 5] (xOwn (oList (eUn (eIxV 1 (eVar 3)))) (xCons (eCallF 2 sp_law_take (cIo 0 (cCons (eCall pLen (aCons (eUn (eIxV 1 (eVar 3))) aNil)) cNil))) xNil)))
  (sSeq (sIf (tBl (eOp2 pLt (eVar 2) (eC (.int 3)))) (sAsg (eOp2 pIx (eFrz (oLst (aCons (eOp2 pSub (eC (.int 1)) (eIxV 4 (eVar 5))) (aCons (eOp2 pEq (eIxV 4 (eVar 5)) (eC (.int 1))) (aCons (eOp2 pIx (eFrz (oLst (aCons (eC (.int 2)) (aCons (eC .none) (aCons (eC (.str "1")) (aCons (eOp1 pNeg (eC (.int 1))) (aCons (eFrz (oLst aNil)) (aCons (eFrz (oLst (aCons (eC (.int 1)) aNil))) (aCons (eTup (aCons (eFrz (oLst aNil)) aNil)) aNil))))))))) (eCallF 2 sp_law_take (cIo 0 (cCons (eC (.int 7)) cNil)))) aNil))))) (eVar 2)) (gSb 4 (eVar 5))) (sIf (tBl (eOp2 pLt (eVar 2) (eC (.int 5)))) (sSet 4 (eOp2 pIx (eFrz (oLst (aCons (eOp2 pAdd (eSlV 4 pNo (pSome (eVar 5))) (eSlV 4 (pSome (eOp2 pAdd (eVar 5) (eC (.int 1)))) pNo)) (aCons (eOp2 pAdd (eOp2 pAdd (eSlV 4 pNo (pSome (eVar 5))) (eFrz (oLst (aCons (eCallF 2 sp_law_take (cIo 0 (cCons (eC (.int 2)) cNil))) aNil)))) (eSlV 4 (pSome (eVar 5)) pNo)) aNil)))) (eOp2 pSub (eVar 2) (eC (.int 3))))) (sIf (tBl (eOp2 pEq (eVar 2) (eC (.int 5)))) (sSeq (sSet 6 (eCallF 2 sp_law_take (cIo 0 (cCons (eLenV 4) cNil))))
  (sAsg (eTup (aCons (eIxV 4 (eVar 6)) (aCons (eIxV 4 (eVar 5)) aNil))) (gTp' 2 (gsCons (gSb 4 (eVar 5)) (gsCons (gSb 4 (eVar 6)) gsNil))))) (sIf (tBl (eOp2 pEq (eVar 2) (eC (.int 6)))) (sRet (eOp2 pIx (eFrz (oLst (aCons (eFrz (oList (eVar 1))) (aCons (eRevT (eVar 1)) (aCons (eOp2 pAdd (eVar 1) (eSlV 1 pNo (pSome (eC (.int 1))))) (aCons (eSlV 1 pNo (pSome (eC (.int 1)))) (aCons (eTup (aCons (eIxV 1 (eC (.int 0))) (aCons (eIxV 1 (eC (.int 0))) aNil))) (aCons (eTup (aCons (eVar 1) aNil)) aNil)))))))) (eCallF 2 sp_law_take (cIo 0 (cCons (eC (.int 6)) cNil))))) sNext))))
  (sSeq (sSet 4 (eIf (tBl (eOp2 pEq (eVar 2) (eC (.int 7)))) (eVar 4) (eCall pTupT (aCons (eVar 4) aNil))))
  (sRet (eIf (tBl (eOp2 pEq (eVar 3) (eC (.int 0)))) (eTup (aCons (eVar 4) (aCons (eIxV 1 (eC (.int 1))) aNil))) (eTup (aCons (eIxV 1 (eC (.int 0))) (aCons (eVar 4) aNil)))))))))
/-- law(_law_script): slots 0 law_script, 1 law_cells, 2 law_k, 3 law_box_here, 4 law_great, 5 law_n, 6 law_a, 7 law_b, 8 law_least, 9 law_most, 10 law_met, 11 law_told_here, 12 law_pair, 13 law_near, 14 law_thing, 15 law_turn, 16 law_found; calls law_box, law_due, law_folded, law_made, law_otherwise, law_take, law_told, shows_rows -/
def b_law (sp_law_box : DSp) (sp_law_due : DSp) (sp_law_folded : DSp) (sp_law_made : DSp) (sp_law_otherwise : DSp) (sp_law_take : DSp) (sp_law_told : DSp) (sp_shows_rows : DSp) : DTS :=
  (sSeq (sSet 1 (eCallF 2 sp_law_folded (cCons (eVar 0) (cCons (eC (.int 4)) cNil))))
  (sSeq (sFor (iR1 (aCons (eCall pMax2 (aCons (eC (.int 2)) (aCons (eLenV 1) aNil))) aNil)) (gNm 2) (sSeq (sSetO 3 (oCallF 2 sp_law_box (cCons (eVar 1) (cCons (eVar 2) cNil))))
  (sSeq (sSet 4 (eOp2 pEq (eCallF 2 sp_law_take (cIo 3 (cCons (eC (.int 16)) cNil))) (eC (.int 0))))
  (sSeq (sSet 5 (eOp2 pAdd (eC (.int 1)) (eCallF 2 sp_law_take (cIo 3 (cCons (eIf (tBl (eOp2 pEq (eCallF 2 sp_law_take (cIo 3 (cCons (eC (.int 8)) cNil))) (eC (.int 0)))) (eC (.int 400)) (eC (.int 40))) cNil)))))
  (sSeq (sSet 5 (eIf (tAn (tTru (eVar 4)) (tBl (eOp2 pEq (eVar 2) (eC (.int 0))))) (eC (.int 4096)) (eVar 5)))
  (sSeq (sAsg (eFrz (oComp true [15] (iR1 (aCons (eC (.int 2)) aNil)) tYesD (eOp2 pIx (eFrz (oLst (aCons (eC (.int 0)) (aCons (eVar 5) (aCons (eCallF 2 sp_law_take (cIo 3 (cCons (eOp2 pAdd (eVar 5) (eC (.int 1))) cNil))) aNil))))) (eCallF 2 sp_law_take (cIo 3 (cCons (eC (.int 3)) cNil)))))) (gTp' 2 (gsCons (gNm 6) (gsCons (gNm 7) gsNil))))
  (sSeq (sPar 8 9 (aCons (eCall pMax2 (aCons (eC (.int 0)) (aCons (eOp2 pSub (eOp2 pAdd (eVar 6) (eVar 7)) (eVar 5)) aNil))) (aCons (eCall pMin2 (aCons (eVar 6) (aCons (eVar 7) aNil))) aNil)))
  (sFor (iAny (eTup (aCons (eVar 8) (aCons (eVar 9) (aCons (eOp2 pAdd (eVar 8) (eCallF 2 sp_law_take (cIo 3 (cCons (eOp2 pAdd (eOp2 pSub (eVar 9) (eVar 8)) (eC (.int 1))) cNil)))) (aCons (eOp2 pSub (eVar 8) (eC (.int 1))) (aCons (eOp2 pAdd (eVar 9) (eC (.int 1))) (aCons (eOp1 pNeg (eC (.int 7))) (aCons (eOp2 pPow (eC (.int 10)) (eC (.int 9))) aNil))))))))) (gNm 10) (sSeq (sSet 11 (eCallF 4 sp_law_told (cCons (eVar 5) (cCons (eVar 6) (cCons (eVar 7) (cCons (eVar 10) cNil))))))
  (sSeq (sIf (tNt (tBl (eChain pLe pLe (eVar 8) (eVar 10) (eVar 9)))) (sSeq (sSet 13 (eCallF 5 sp_law_made (cIo 3 (cCons (eVar 5) (cCons (eVar 6) (cCons (eVar 7) (cCons (eIf (tBl (eOp2 pLt (eVar 10) (eVar 8))) (eVar 8) (eVar 9)) cNil)))))))
  (sSeq (sFor (iAny (eTup (aCons (eVar 13) (aCons (eCallF 2 sp_law_otherwise (cIo 3 (cCons (eVar 13) cNil))) (aCons (eCallF 2 sp_law_otherwise (cIo 3 (cCons (eVar 13) cNil))) aNil))))) (gNm 14) (sSeq (sSet 16 (eCallF 5 sp_shows_rows (cCons (eVar 5) (cCons (eVar 6) (cCons (eVar 7) (cCons (eVar 10) (cCons (eUn (eVar 14)) cNil)))))))
  (sIf (tOr' (tNt (tTru (eIsi .bool (eVar 16)))) (tBl (eOp2 pNe (eVar 16) (eCallF 5 sp_law_due (cCons (eVar 5) (cCons (eVar 6) (cCons (eVar 7) (cCons (eVar 10) (cCons (eVar 14) cNil))))))))) (sRet (eC (.bool false))) sNext)))
  (sSeq (sIf (tOr' (tBl (eOp2 pNe (eVar 11) (eC (.str "none")))) (tBl (eOp2 pIsN (eCallF 5 sp_shows_rows (cCons (eVar 5) (cCons (eVar 6) (cCons (eVar 7) (cCons (eVar 10) (cCons (eUn (eVar 13)) cNil)))))) (eC (.bool false))))) (sRet (eC (.bool false))) sNext)
  sCont))) sNext)
  (sFor (iAny (eTup (aCons (eVar 11) (aCons (eCallF 5 sp_law_made (cIo 3 (cCons (eVar 5) (cCons (eVar 6) (cCons (eVar 7) (cCons (eVar 10) cNil)))))) aNil)))) (gNm 12) (sSeq (sIf (tOr' (tNt (tTru (eCallF 5 sp_law_due (cCons (eVar 5) (cCons (eVar 6) (cCons (eVar 7) (cCons (eVar 10) (cCons (eVar 12) cNil)))))))) (tBl (eOp2 pIsN (eCallF 5 sp_shows_rows (cCons (eVar 5) (cCons (eVar 6) (cCons (eVar 7) (cCons (eVar 10) (cCons (eUn (eVar 12)) cNil)))))) (eC (.bool true))))) (sRet (eC (.bool false))) sNext)
  (sFor (iR1 (aCons (eC (.int 4)) aNil)) (gNm 15) (sSeq (sSet 14 (eCallF 2 sp_law_otherwise (cIo 3 (cCons (eVar 12) cNil))))
  (sSeq (sSet 16 (eCallF 5 sp_shows_rows (cCons (eVar 5) (cCons (eVar 6) (cCons (eVar 7) (cCons (eVar 10) (cCons (eUn (eVar 14)) cNil)))))))
  (sIf (tOr' (tNt (tTru (eIsi .bool (eVar 16)))) (tBl (eOp2 pNe (eVar 16) (eCallF 5 sp_law_due (cCons (eVar 5) (cCons (eVar 6) (cCons (eVar 7) (cCons (eVar 10) (cCons (eVar 14) cNil))))))))) (sRet (eC (.bool false))) sNext))))))))))))))))
  (sRet (eC (.bool true)))))
end K08
end
section
set_option Elab.async false
set_option linter.all false
set_option maxRecDepth 100000
set_option maxHeartbeats 4000000
namespace K08
open PySem PySem.Spec PyProof.Rows L2 DL
def topS (i : Nat) : Stmt := PySem.Challenge.pw_shareones_k08_rows_that_meet_so_often.main.body.getD i (.Pass ⟨0, 0, 0, 0⟩)
abbrev s_is_number : Stmt := topS 9
abbrev s_is_bit : Stmt := topS 12
abbrev s_is_row : Stmt := topS 13
abbrev s_ones : Stmt := topS 14
abbrev s_of_one_length : Stmt := topS 15
abbrev s_overlap : Stmt := topS 17
abbrev s_met_ends : Stmt := topS 18
abbrev s_leaning_rows : Stmt := topS 19
abbrev s_shows_rows : Stmt := topS 20
abbrev s_law_box : Stmt := topS 22
abbrev s_law_take : Stmt := topS 23
abbrev s_law_folded : Stmt := topS 24
abbrev s_law_told : Stmt := topS 25
abbrev s_law_due : Stmt := topS 26
abbrev s_law_made : Stmt := topS 27
abbrev s_law_otherwise : Stmt := topS 28
abbrev s_law : Stmt := topS 29
/-- how the text stands behind its top -/
structure Txt (K : PySem.W.Frag) (mg : Str → Option Value) : Prop where
  i_is_number : Is K mg "is_number" s_is_number ["thing"]
  i_is_bit : Is K mg "is_bit" s_is_bit ["thing"]
  i_is_row : Is K mg "is_row" s_is_row ["thing"]
  i_ones : Is K mg "ones" s_ones ["row"]
  i_of_one_length : Is K mg "of_one_length" s_of_one_length ["rows"]
  i_overlap : Is K mg "overlap" s_overlap ["one", "other"]
  i_met_ends : Is K mg "met_ends" s_met_ends ["n", "a", "b"]
  i_leaning_rows : Is K mg "leaning_rows" s_leaning_rows ["n", "a", "b", "met"]
  i_shows_rows : Is K mg "shows_rows" s_shows_rows ["n", "a", "b", "met", "thing"]
  i_law_box : Is K mg "_law_box" s_law_box ["_law_script", "_law_k"]
  i_law_take : Is K mg "_law_take" s_law_take ["_law_box_here", "_law_many"]
  i_law_folded : Is K mg "_law_folded" s_law_folded ["_law_script", "_law_many"]
  i_law_told : Is K mg "_law_told" s_law_told ["_law_n", "_law_a", "_law_b", "_law_met"]
  i_law_due : Is K mg "_law_due" s_law_due ["_law_n", "_law_a", "_law_b", "_law_met", "_law_thing"]
  i_law_made : Is K mg "_law_made" s_law_made ["_law_box_here", "_law_n", "_law_a", "_law_b", "_law_met"]
  i_law_otherwise : Is K mg "_law_otherwise" s_law_otherwise ["_law_box_here", "_law_pair"]
  i_law : Is K mg "law" s_law ["_law_script"]
  z_ValueError : mg "ValueError" = none
  z_abs : mg "abs" = none
  z_all : mg "all" = none
  z_any : mg "any" = none
  z_bool : mg "bool" = none
  z_divmod : mg "divmod" = none
  z_enumerate : mg "enumerate" = none
  z_int : mg "int" = none
  z_isinstance : mg "isinstance" = none
  z_len : mg "len" = none
  z_list : mg "list" = none
  z_max : mg "max" = none
  z_min : mg "min" = none
  z_range : mg "range" = none
  z_sum : mg "sum" = none
  z_tuple : mg "tuple" = none
  z_zip : mg "zip" = none
  c_MOST_BITS : GlobD K mg "MOST_BITS" c_MOST_BITS
  xt : XTab K mg c_rs c_zs
  xc_NoSuch : XCls K mg "NoSuch"
section
variable {P : Program} {w : World} {K : PySem.W.Frag} {mg : Str → Option Value} {base : Heap}
def N_is_number : List Str := ["thing"]
theorem sc_is_number : FnScope N_is_number ["thing"] (defScope s_is_number) := ⟨rfl, rfl, rfl, by decide +kernel, rfl, by decide +kernel, by decide +kernel⟩
theorem w_is_number (T : Txt K mg) {sp : DSp} (h : ∀ cs post, cs.length = 1 → sp cs post → runD 1 (b_is_number) cs post) : Def P w K mg base 1 "is_number" 1 sp :=
  def_of (N := N_is_number) T.i_is_number sc_is_number (by decide) (fun f cdv A outer s H hr hgd => by
    have nd : N_is_number.Nodup := sc_is_number.nd
    exact (dss_one (ds_ret (d_and (d_isi .int (d_var 0) (by rfl) T.z_isinstance (by decide +kernel) (by rfl) T.z_int (by decide +kernel) (by decide) (by decide)) (d_one (d_not (d_isi .bool (d_var 0) (by rfl) T.z_isinstance (by decide +kernel) (by rfl) T.z_bool (by decide +kernel) (by decide) (by decide)))))))) h
def N_is_bit : List Str := ["thing"]
theorem sc_is_bit : FnScope N_is_bit ["thing"] (defScope s_is_bit) := ⟨rfl, rfl, rfl, by decide +kernel, rfl, by decide +kernel, by decide +kernel⟩
theorem w_is_bit (T : Txt K mg) {sp_is_number : DSp} {sp : DSp} (D_is_number : Def P w K mg base 1 "is_number" 1 sp_is_number) (h : ∀ cs post, cs.length = 1 → sp cs post → runD 1 (b_is_bit sp_is_number) cs post) : Def P w K mg base 2 "is_bit" 1 sp :=
  def_of (N := N_is_bit) T.i_is_bit sc_is_bit (by decide) (fun f cdv A outer s H hr hgd => by
    have nd : N_is_bit.Nodup := sc_is_bit.nd
    exact (dss_one (ds_ret (d_and (d_call D_is_number hr (by decide) hgd (by rfl) (c_cons (d_var 0) c_nil)) (d_one (d_cmp op_inA v_in (d_var 0) (d_tup (a_cons d_int (a_cons d_int a_nil))) (by with_unfolding_all rfl))))))) h
def N_is_row : List Str := ["thing", "bit"]
theorem sc_is_row : FnScope N_is_row ["thing"] (defScope s_is_row) := ⟨rfl, rfl, rfl, by decide +kernel, rfl, by decide +kernel, by decide +kernel⟩
theorem w_is_row (T : Txt K mg) {sp_is_bit : DSp} {sp : DSp} (D_is_bit : Def P w K mg base 2 "is_bit" 1 sp_is_bit) (h : ∀ cs post, cs.length = 1 → sp cs post → runD 2 (b_is_row sp_is_bit) cs post) : Def P w K mg base 3 "is_row" 1 sp :=
  def_of (N := N_is_row) T.i_is_row sc_is_row (by decide) (fun f cdv A outer s H hr hgd => by
    have nd : N_is_row.Nodup := sc_is_row.nd
    exact (dss_cons (ds_if (DW.dt (dw_or (dt_not (dt_tru (d_isi .tuple (d_var 0) (by rfl) T.z_isinstance (by decide +kernel) (by rfl) T.z_tuple (by decide +kernel) (by decide) (by decide)))) (dw_or1 (dt_not (dt_chain op_le v_intB op_le v_intB d_int (d_lenv 0 (by rfl) T.z_len) (d_globD (by rfl) T.c_MOST_BITS)))))) (dss_one (ds_ret d_bl)) dss_nil)
    (dss_one (ds_ret (d_callB (cr_all rfl) v_all (by rfl) T.z_all (by decide +kernel) (a_cons (d_frz (o_comp rfl nd (di_any (d_var 0)) (blkOk_by (own := [("bit", 1)]) (N := N_is_row) (sc := defScope s_is_row) (by decide +kernel)) rfl (fun _ _ _ _ _ => pg_name (i := 1) nd rfl (by first | exact Or.inl rfl | exact Or.inr rfl)) (fun _ _ _ _ _ => dts_nil) (fun _ _ _ _ _ => (d_call D_is_bit hr (by decide) hgd (by rfl) (c_cons (d_var 1) c_nil))))) a_nil)))))) h
def N_ones : List Str := ["row"]
theorem sc_ones : FnScope N_ones ["row"] (defScope s_ones) := ⟨rfl, rfl, rfl, by decide +kernel, rfl, by decide +kernel, by decide +kernel⟩
theorem w_ones (T : Txt K mg) {sp : DSp} (h : ∀ cs post, cs.length = 1 → sp cs post → runD 1 (b_ones) cs post) : Def P w K mg base 1 "ones" 1 sp :=
  def_of (N := N_ones) T.i_ones sc_ones (by decide) (fun f cdv A outer s H hr hgd => by
    have nd : N_ones.Nodup := sc_ones.nd
    exact (dss_one (ds_ret (d_callB (cr_sumA rfl) v_sum (by rfl) T.z_sum (by decide +kernel) (a_cons (d_var 0) a_nil))))) h
def N_of_one_length : List Str := ["rows", "row"]
theorem sc_of_one_length : FnScope N_of_one_length ["rows"] (defScope s_of_one_length) := ⟨rfl, rfl, rfl, by decide +kernel, rfl, by decide +kernel, by decide +kernel⟩
theorem w_of_one_length (T : Txt K mg) {sp : DSp} (h : ∀ cs post, cs.length = 1 → sp cs post → runD 2 (b_of_one_length) cs post) : Def P w K mg base 1 "of_one_length" 1 sp :=
  def_of (N := N_of_one_length) T.i_of_one_length sc_of_one_length (by decide) (fun f cdv A outer s H hr hgd => by
    have nd : N_of_one_length.Nodup := sc_of_one_length.nd
    exact (dss_one (ds_for PassesOwn.never rfl (di_any (d_var 0)) (dg_name (i := 1) nd rfl (by first | exact Or.inl rfl | exact Or.inr rfl)) (dss_one (ds_if (dt_cmp (op_neA hr.units) v_ne (d_lenv 1 (by rfl) T.z_len) (d_callB call_len v_len (by rfl) T.z_len (by decide +kernel) (a_cons (d_ixv 0 d_int (fun _ _ => rfl)) a_nil)) (nomark _)) (dss_one ds_bad) dss_nil))))) h
def N_overlap : List Str := ["one", "other", "a", "b"]
theorem sc_overlap : FnScope N_overlap ["one", "other"] (defScope s_overlap) := ⟨rfl, rfl, rfl, by decide +kernel, rfl, by decide +kernel, by decide +kernel⟩
theorem w_overlap (T : Txt K mg) {sp_of_one_length : DSp} {sp : DSp} (D_of_one_length : Def P w K mg base 1 "of_one_length" 1 sp_of_one_length) (h : ∀ cs post, cs.length = 2 → sp cs post → runD 4 (b_overlap sp_of_one_length) cs post) : Def P w K mg base 2 "overlap" 2 sp :=
  def_of (N := N_overlap) T.i_overlap sc_overlap (by decide) (fun f cdv A outer s H hr hgd => by
    have nd : N_overlap.Nodup := sc_overlap.nd
    exact (dss_cons (ds_expr (d_call D_of_one_length hr (by decide) hgd (by rfl) (c_cons (d_frz (o_lst (a_cons (d_var 0) (a_cons (d_var 1) a_nil)))) c_nil)))
    (dss_one (ds_ret (d_callB (cr_sumA rfl) v_sum (by rfl) T.z_sum (by decide +kernel) (a_cons (d_frz (o_comp rfl nd (di_zip (by rfl) T.z_zip (a_cons (d_var 0) (a_cons (d_var 1) a_nil))) (blkOk_by (own := [("a", 2), ("b", 3)]) (N := N_overlap) (sc := defScope s_overlap) (by decide +kernel)) rfl (fun _ _ _ _ _ => pg_tup rfl (pgs_cons (pg_name (i := 2) nd rfl (by first | exact Or.inl rfl | exact Or.inr rfl)) (pgs_cons (pg_name (i := 3) nd rfl (by first | exact Or.inl rfl | exact Or.inr rfl)) pgs_nil))) (fun _ _ _ _ _ => dts_nil) (fun _ _ _ _ _ => (d_op op_mulA v_mul (d_var 2) (d_var 3))))) a_nil)))))) h
def N_met_ends : List Str := ["n", "a", "b"]
theorem sc_met_ends : FnScope N_met_ends ["n", "a", "b"] (defScope s_met_ends) := ⟨rfl, rfl, rfl, by decide +kernel, rfl, by decide +kernel, by decide +kernel⟩
theorem w_met_ends (T : Txt K mg) {sp : DSp} (h : ∀ cs post, cs.length = 3 → sp cs post → runD 3 (b_met_ends) cs post) : Def P w K mg base 1 "met_ends" 3 sp :=
  def_of (N := N_met_ends) T.i_met_ends sc_met_ends (by decide) (fun f cdv A outer s H hr hgd => by
    have nd : N_met_ends.Nodup := sc_met_ends.nd
    exact (dss_one (ds_ret (d_tup (a_cons (d_callB (call_max2 rfl) v_max2 (by rfl) T.z_max (by decide +kernel) (a_cons d_int (a_cons (d_op op_sub v_int (d_op op_addA v_add (d_var 1) (d_var 2)) (d_var 0)) a_nil))) (a_cons (d_callB (call_min2 rfl) v_min2 (by rfl) T.z_min (by decide +kernel) (a_cons (d_var 1) (a_cons (d_var 2) a_nil))) a_nil)))))) h
def N_leaning_rows : List Str := ["n", "a", "b", "met", "least", "most", "one", "other"]
theorem sc_leaning_rows : FnScope N_leaning_rows ["n", "a", "b", "met"] (defScope s_leaning_rows) := ⟨rfl, rfl, rfl, by decide +kernel, rfl, by decide +kernel, by decide +kernel⟩
theorem w_leaning_rows (T : Txt K mg) {sp_met_ends : DSp} {sp : DSpX} (D_met_ends : Def P w K mg base 1 "met_ends" 3 sp_met_ends) (h : ∀ cs post xp, cs.length = 4 → sp cs post xp → runDX 8 (b_leaning_rows sp_met_ends) cs post xp) : DefX P w K mg base 2 "leaning_rows" 4 sp :=
  defX_of (N := N_leaning_rows) T.i_leaning_rows sc_leaning_rows (by decide) (fun f cdv A outer s H E hr hgd hpo => by
    have nd : N_leaning_rows.Nodup := sc_leaning_rows.nd
    exact (xss_cons (xs_of (ds_asg (d_call D_met_ends hr (by decide) hgd (by rfl) (c_cons (d_var 0) (c_cons (d_var 1) (c_cons (d_var 2) c_nil)))) (dg_tup' (n := 2) rfl (dgs_cons (dg_name (i := 4) nd rfl (by first | exact Or.inl rfl | exact Or.inr rfl)) (dgs_cons (dg_name (i := 5) nd rfl (by first | exact Or.inl rfl | exact Or.inr rfl)) dgs_nil)))))
    (xss_cons (xs_if (dt_not (dt_chain op_le v_intB op_le v_intB (d_var 4) (d_var 3) (d_var 5))) (xss_one (xs_raise rfl T.xc_NoSuch (by rfl))) (xss_of dss_nil))
    (xss_of (dss_cons (ds_set (i := 6) nd rfl (by first | exact Or.inl rfl | exact Or.inr rfl) (d_op op_catT' v_addT (d_op op_repTg v_mulTg (d_tupT (a_cons d_int a_nil)) (d_var 1)) (d_op op_repTg v_mulTg (d_tupT (a_cons d_int a_nil)) (d_op op_sub v_int (d_var 0) (d_var 1)))))
    (dss_cons (ds_set (i := 7) nd rfl (by first | exact Or.inl rfl | exact Or.inr rfl) (d_op op_catT' v_addT (d_op op_catT' v_addT (d_op op_catT' v_addT (d_op op_repTg v_mulTg (d_tupT (a_cons d_int a_nil)) (d_var 3)) (d_op op_repTg v_mulTg (d_tupT (a_cons d_int a_nil)) (d_op op_sub v_int (d_var 1) (d_var 3)))) (d_op op_repTg v_mulTg (d_tupT (a_cons d_int a_nil)) (d_op op_sub v_int (d_var 2) (d_var 3)))) (d_op op_repTg v_mulTg (d_tupT (a_cons d_int a_nil)) (d_op op_addA v_add (d_op op_sub v_int (d_op op_sub v_int (d_var 0) (d_var 1)) (d_var 2)) (d_var 3)))))
    (dss_one (ds_ret (d_tup (a_cons (d_var 6) (a_cons (d_var 7) a_nil))))))))))) h
def N_shows_rows : List Str := ["n", "a", "b", "met", "thing", "one", "other"]
theorem sc_shows_rows : FnScope N_shows_rows ["n", "a", "b", "met", "thing"] (defScope s_shows_rows) := ⟨rfl, rfl, rfl, by decide +kernel, rfl, by decide +kernel, by decide +kernel⟩
theorem w_shows_rows (T : Txt K mg) {sp_is_row : DSp} {sp_ones : DSp} {sp_overlap : DSp} {sp : DSp} (D_is_row : Def P w K mg base 3 "is_row" 1 sp_is_row) (D_ones : Def P w K mg base 1 "ones" 1 sp_ones) (D_overlap : Def P w K mg base 2 "overlap" 2 sp_overlap) (h : ∀ cs post, cs.length = 5 → sp cs post → runD 7 (b_shows_rows sp_is_row sp_ones sp_overlap) cs post) : Def P w K mg base 4 "shows_rows" 5 sp :=
  def_of (N := N_shows_rows) T.i_shows_rows sc_shows_rows (by decide) (fun f cdv A outer s H hr hgd => by
    have nd : N_shows_rows.Nodup := sc_shows_rows.nd
    exact (dss_cons (ds_if (DW.dt (dw_or (dt_not (dt_tru (d_isi .tuple (d_var 4) (by rfl) T.z_isinstance (by decide +kernel) (by rfl) T.z_tuple (by decide +kernel) (by decide) (by decide)))) (dw_or (dt_cmp (op_neA hr.units) v_ne (d_lenv 4 (by rfl) T.z_len) d_int (nomark _)) (dw_or (dt_not (dt_tru (d_call D_is_row hr (by decide) hgd (by rfl) (c_cons (d_ixv 4 d_int (fun _ _ => rfl)) c_nil)))) (dw_or1 (dt_not (dt_tru (d_call D_is_row hr (by decide) hgd (by rfl) (c_cons (d_ixv 4 d_int (fun _ _ => rfl)) c_nil))))))))) (dss_one (ds_ret d_bl)) dss_nil)
    (dss_cons (ds_asg (d_var 4) (dg_tup' (n := 2) rfl (dgs_cons (dg_name (i := 5) nd rfl (by first | exact Or.inl rfl | exact Or.inr rfl)) (dgs_cons (dg_name (i := 6) nd rfl (by first | exact Or.inl rfl | exact Or.inr rfl)) dgs_nil))))
    (dss_cons (ds_if (DW.dt (dw_or (dt_cmp (op_neA hr.units) v_ne (d_lenv 5 (by rfl) T.z_len) (d_var 0) (nomark _)) (dw_or1 (dt_cmp (op_neA hr.units) v_ne (d_lenv 6 (by rfl) T.z_len) (d_var 0) (nomark _))))) (dss_one (ds_ret d_bl)) dss_nil)
    (dss_one (ds_ret (d_and (d_cmp (op_eqA hr.units) v_eq (d_call D_ones hr (by decide) hgd (by rfl) (c_cons (d_var 5) c_nil)) (d_var 1) (nomark _)) (d_and (d_cmp (op_eqA hr.units) v_eq (d_call D_ones hr (by decide) hgd (by rfl) (c_cons (d_var 6) c_nil)) (d_var 2) (nomark _)) (d_one (d_cmp (op_eqA hr.units) v_eq (d_call D_overlap hr (by decide) hgd (by rfl) (c_cons (d_var 5) (c_cons (d_var 6) c_nil))) (d_var 3) (nomark _))))))))))) h
def N_law_box : List Str := ["_law_script", "_law_k", "_law_cell"]
theorem sc_law_box : FnScope N_law_box ["_law_script", "_law_k"] (defScope s_law_box) := ⟨rfl, rfl, rfl, by decide +kernel, rfl, by decide +kernel, by decide +kernel⟩
theorem w_law_box (T : Txt K mg) {sp : DSp} (h : ∀ cs post, cs.length = 2 → sp cs post → runD 3 (b_law_box) cs post) : Def P w K mg base 1 "_law_box" 2 sp :=
  def_of (N := N_law_box) T.i_law_box sc_law_box (by decide) (fun f cdv A outer s H hr hgd => by
    have nd : N_law_box.Nodup := sc_law_box.nd
    exact (dss_cons (ds_set (i := 2) nd rfl (by first | exact Or.inl rfl | exact Or.inr rfl) d_int)
    (dss_cons (ds_if (dt_cmp op_lt v_intB (d_var 1) (d_lenv 0 (by rfl) T.z_len) (nomark _)) (dss_one (ds_set (i := 2) nd rfl (by first | exact Or.inl rfl | exact Or.inr rfl) (d_ixv 0 (d_var 1) (fun _ _ => rfl)))) dss_nil)
    (dss_one (ds_retO (o_lst (a_cons (d_op op_mulA v_mul (d_callB call_abs v_abs (by rfl) T.z_abs (by decide +kernel) (a_cons (d_var 2) a_nil)) (d_callTy call_int1 v_int1 (by rfl) T.z_int (by decide +kernel) (a_cons (d_cmp op_ge v_intB (d_callB call_abs v_abs (by rfl) T.z_abs (by decide +kernel) (a_cons (d_var 2) a_nil)) (d_op op_pow v_intC d_int d_int) (nomark _)) a_nil))) (a_cons (d_op op_mod v_intC (d_op op_addA v_add (d_var 2) (d_op op_mulA v_mul (d_op op_mulA v_mul d_int (d_var 1)) (d_var 1))) d_int) (a_cons d_int a_nil))))))))) h
def N_law_take : List Str := ["_law_box_here", "_law_many", "_law_once", "_law_found"]
theorem sc_law_take : FnScope N_law_take ["_law_box_here", "_law_many"] (defScope s_law_take) := ⟨rfl, rfl, rfl, by decide +kernel, rfl, by decide +kernel, by decide +kernel⟩
theorem w_law_take (T : Txt K mg) {sp : DSp} (h : ∀ cs post, cs.length = 2 → sp cs post → runD 4 (b_law_take) cs post) : Def P w K mg base 1 "_law_take" 2 sp :=
  def_of (N := N_law_take) T.i_law_take sc_law_take (by decide) (fun f cdv A outer s H hr hgd => by
    have nd : N_law_take.Nodup := sc_law_take.nd
    exact (dss_cons (ds_if (dt_cmp op_gt v_intB (d_ixv 0 d_int (fun _ _ => rfl)) d_int (nomark _)) (dss_cons (ds_asg (d_callB call_divmodW v_dvm (by rfl) T.z_divmod (by decide +kernel) (a_cons (d_ixv 0 d_int (fun _ _ => rfl)) (a_cons (d_var 1) a_nil))) (dg_tup' (n := 2) rfl (dgs_cons (dg_sub 0 d_int) (dgs_cons (dg_name (i := 3) nd rfl (by first | exact Or.inl rfl | exact Or.inr rfl)) dgs_nil))))
    (dss_one (ds_ret (d_var 3)))) dss_nil)
    (dss_cons (ds_asg (d_op op_addA v_add (d_ixv 0 d_int (fun _ _ => rfl)) d_int) (dg_sub 0 d_int))
    (dss_cons (ds_set (i := 2) nd rfl (by first | exact Or.inl rfl | exact Or.inr rfl) (d_op op_mod v_intC (d_op op_pow v_intC (d_op op_addA v_add (d_ixv 0 d_int (fun _ _ => rfl)) (d_op op_mulA v_mul d_int (d_ixv 0 d_int (fun _ _ => rfl)))) d_int) d_int))
    (dss_one (ds_ret (d_op op_mod v_intC (d_op op_fdivD v_intC (d_op op_mod v_intC (d_op op_addA v_add (d_op op_mulA v_mul (d_var 2) d_int) (d_op op_mulA v_mul (d_op op_mulA v_mul (d_ixv 0 d_int (fun _ _ => rfl)) (d_ixv 0 d_int (fun _ _ => rfl))) d_int)) d_int) d_int) (d_var 1)))))))) h
def N_law_folded : List Str := ["_law_script", "_law_many", "_law_cells", "_law_k", "_law_cell"]
theorem sc_law_folded : FnScope N_law_folded ["_law_script", "_law_many"] (defScope s_law_folded) := ⟨rfl, rfl, rfl, by decide +kernel, rfl, by decide +kernel, by decide +kernel⟩
theorem w_law_folded (T : Txt K mg) {sp : DSp} (h : ∀ cs post, cs.length = 2 → sp cs post → runD 5 (b_law_folded) cs post) : Def P w K mg base 1 "_law_folded" 2 sp :=
  def_of (N := N_law_folded) T.i_law_folded sc_law_folded (by decide) (fun f cdv A outer s H hr hgd => by
    have nd : N_law_folded.Nodup := sc_law_folded.nd
    exact (dss_cons (ds_setO (i := 2) nd rfl (by first | exact Or.inl rfl | exact Or.inr rfl) (o_list (d_slv 0 dp_no (dp_some (d_var 1))) (by rfl) T.z_list (by decide +kernel)))
    (dss_cons (ds_for PassesOwn.never rfl (di_enum' (by rfl) T.z_enumerate (a_cons (d_slv 0 (dp_some (d_var 1)) (dp_some d_int)) a_nil)) (dg_tup' (n := 2) rfl (dgs_cons (dg_name (i := 3) nd rfl (by first | exact Or.inl rfl | exact Or.inr rfl)) (dgs_cons (dg_name (i := 4) nd rfl (by first | exact Or.inl rfl | exact Or.inr rfl)) dgs_nil))) (dss_one (ds_asg (d_op op_addA v_add (d_ixv 2 (d_op op_mod v_intC (d_var 3) (d_var 1)) (fun _ _ => rfl)) (d_op op_mulA v_mul (d_var 4) (d_op op_addA v_add (d_var 3) d_int))) (dg_sub 2 (d_op op_mod v_intC (d_var 3) (d_var 1))))))
    (dss_one (ds_ret (d_var 2)))))) h
def N_law_told : List Str := ["_law_n", "_law_a", "_law_b", "_law_met", "_law_found", "_law_caught", "_law_others", "error"]
theorem sc_law_told : FnScope N_law_told ["_law_n", "_law_a", "_law_b", "_law_met"] (defScope s_law_told) := ⟨rfl, rfl, rfl, by decide +kernel, rfl, by decide +kernel, by decide +kernel⟩
theorem w_law_told (T : Txt K mg) {sp_leaning_rows : DSpX} {sp : DSp} (D_leaning_rows : DefX P w K mg base 2 "leaning_rows" 4 sp_leaning_rows) (h : ∀ cs post, cs.length = 4 → sp cs post → runD 8 (b_law_told sp_leaning_rows) cs post) : Def P w K mg base 3 "_law_told" 4 sp :=
  def_of (N := N_law_told) T.i_law_told sc_law_told (by decide) (fun f cdv A outer s H hr hgd => by
    have nd : N_law_told.Nodup := sc_law_told.nd
    exact (dss_cons (ds_asg (d_tup (a_cons d_non (a_cons d_non a_nil))) (dg_tup' (n := 2) rfl (dgs_cons (dg_name (i := 4) nd rfl (by first | exact Or.inl rfl | exact Or.inr rfl)) (dgs_cons (dg_name (i := 5) nd rfl (by first | exact Or.inl rfl | exact Or.inr rfl)) dgs_nil))))
    (dss_cons (ds_tryK (i := 5) (j := 7) rfl rfl rfl nd rfl rfl rfl (by first | exact Or.inl rfl | exact Or.inr rfl) (by first | exact .inl rfl | exact .inr rfl) (by decide) T.xt (by decide) (by rfl) (fun pn xe hpo => (xss_one (xs_set (i := 4) nd rfl (by first | exact Or.inl rfl | exact Or.inr rfl) (xe_call D_leaning_rows hr (by decide) hgd (by rfl) (c_cons (d_var 0) (c_cons (d_var 1) (c_cons (d_var 2) (c_cons (d_var 3) c_nil)))))))))
    (dss_cons (ds_if (dt_cmp op_isA v_is (d_var 5) d_non (nomark _)) (dss_one (ds_ret (d_var 4))) dss_nil)
    (dss_cons (ds_set (i := 6) nd rfl (by first | exact Or.inl rfl | exact Or.inr rfl) (d_isxT T.xt (us := ["BadSheet", "BadText", "NoOne", "NoRound", "Unlike"]) (by decide) (d_var 5) (dcl_cons T.xt (by decide) (by rfl) (dcl_cons T.xt (by decide) (by rfl) (dcl_cons T.xt (by decide) (by rfl) (dcl_cons T.xt (by decide) (by rfl) (dcl_cons T.xt (by decide) (by rfl) dcl_nil))))) (by rfl) T.z_isinstance (by decide +kernel)))
    (dss_one (ds_ret (d_if (DW.dt (dw_and (dt_tru (d_isx T.xt (z := "NoSuch") (by decide) (d_var 5) (by rfl) T.z_isinstance (by decide +kernel) (by rfl))) (dw_and (dt_tru (d_isxV T.xt (d_var 5) (by rfl) T.z_isinstance (by decide +kernel) (by rfl) T.z_ValueError (by decide +kernel))) (dw_and1 (dt_not (dt_tru (d_var 6))))))) d_str d_str)))))))) h
def N_law_due : List Str := ["_law_n", "_law_a", "_law_b", "_law_met", "_law_thing", "_law_row", "_law_one", "_law_other", "_law_bit", "_law_place"]
theorem sc_law_due : FnScope N_law_due ["_law_n", "_law_a", "_law_b", "_law_met", "_law_thing"] (defScope s_law_due) := ⟨rfl, rfl, rfl, by decide +kernel, rfl, by decide +kernel, by decide +kernel⟩
theorem w_law_due (T : Txt K mg) {sp : DSp} (h : ∀ cs post, cs.length = 5 → sp cs post → runD 10 (b_law_due) cs post) : Def P w K mg base 1 "_law_due" 5 sp :=
  def_of (N := N_law_due) T.i_law_due sc_law_due (by decide) (fun f cdv A outer s H hr hgd => by
    have nd : N_law_due.Nodup := sc_law_due.nd
    exact (dss_cons (ds_if (DW.dt (dw_or (dt_not (dt_tru (d_isi .tuple (d_var 4) (by rfl) T.z_isinstance (by decide +kernel) (by rfl) T.z_tuple (by decide +kernel) (by decide) (by decide)))) (dw_or1 (dt_cmp (op_neA hr.units) v_ne (d_lenv 4 (by rfl) T.z_len) d_int (nomark _))))) (dss_one (ds_ret d_bl)) dss_nil)
    (dss_cons (ds_for PassesOwn.never rfl (di_any (d_var 4)) (dg_name (i := 5) nd rfl (by first | exact Or.inl rfl | exact Or.inr rfl)) (dss_cons (ds_if (DW.dt (dw_or (dt_not (dt_tru (d_isi .tuple (d_un_ (d_var 5)) (by rfl) T.z_isinstance (by decide +kernel) (by rfl) T.z_tuple (by decide +kernel) (by decide) (by decide)))) (dw_or1 (dt_cmp (op_neA hr.units) v_ne (d_callB call_len v_len (by rfl) T.z_len (by decide +kernel) (a_cons (d_un_ (d_var 5)) a_nil)) (d_var 0) (nomark _))))) (dss_one (ds_ret d_bl)) dss_nil)
    (dss_one (ds_if (dt_tru (d_callB (cr_any rfl) v_any (by rfl) T.z_any (by decide +kernel) (a_cons (d_frz (o_comp rfl nd (di_any (d_un_ (d_var 5))) (blkOk_by (own := [("_law_bit", 8)]) (N := N_law_due) (sc := defScope s_law_due) (by decide +kernel)) rfl (fun _ _ _ _ _ => pg_name (i := 8) nd rfl (by first | exact Or.inl rfl | exact Or.inr rfl)) (fun _ _ _ _ _ => dts_nil) (fun _ _ _ _ _ => (d_or (d_not (d_isi .int (d_var 8) (by rfl) T.z_isinstance (by decide +kernel) (by rfl) T.z_int (by decide +kernel) (by decide) (by decide))) (d_or (d_isi .bool (d_var 8) (by rfl) T.z_isinstance (by decide +kernel) (by rfl) T.z_bool (by decide +kernel) (by decide) (by decide)) (d_or (d_cmp op_lt v_intB (d_var 8) d_int (nomark _)) (d_one (d_cmp op_gt v_intB (d_var 8) d_int (nomark _))))))))) a_nil))) (dss_one (ds_ret d_bl)) dss_nil))))
    (dss_cons (ds_asg (d_var 4) (dg_tup' (n := 2) rfl (dgs_cons (dg_name (i := 6) nd rfl (by first | exact Or.inl rfl | exact Or.inr rfl)) (dgs_cons (dg_name (i := 7) nd rfl (by first | exact Or.inl rfl | exact Or.inr rfl)) dgs_nil))))
    (dss_cons (ds_if (DW.dt (dw_or (dt_cmp (op_neA hr.units) v_ne (d_cntT (d_var 6) (a_cons d_int a_nil)) (d_var 1) (nomark _)) (dw_or1 (dt_cmp (op_neA hr.units) v_ne (d_cntT (d_var 7) (a_cons d_int a_nil)) (d_var 2) (nomark _))))) (dss_one (ds_ret d_bl)) dss_nil)
    (dss_one (ds_ret (d_cmp (op_eqA hr.units) v_eq (d_callB call_len v_len (by rfl) T.z_len (by decide +kernel) (a_cons (d_frz (o_comp rfl nd (di_range1 (by rfl) T.z_range (a_cons (d_var 0) a_nil)) (blkOk_by (own := [("_law_place", 9)]) (N := N_law_due) (sc := defScope s_law_due) (by decide +kernel)) rfl (fun _ _ _ _ _ => pg_name (i := 9) nd rfl (by first | exact Or.inl rfl | exact Or.inr rfl)) (fun _ _ _ _ _ => (dts_one (dt_cmp (op_eqA hr.units) v_eq (d_op op_addA v_add (d_ix (d_un_ (d_var 6)) (d_var 9) (fun _ _ => rfl)) (d_ix (d_un_ (d_var 7)) (d_var 9) (fun _ _ => rfl))) d_int (nomark _)))) (fun _ _ _ _ _ => (d_var 9)))) a_nil)) (d_var 3) (nomark _))))))))) h
def N_law_made : List Str := ["_law_box_here", "_law_n", "_law_a", "_law_b", "_law_met", "_law_kinds", "_law_at", "_law_mixed", "_law_kind"]
theorem sc_law_made : FnScope N_law_made ["_law_box_here", "_law_n", "_law_a", "_law_b", "_law_met"] (defScope s_law_made) := ⟨rfl, rfl, rfl, by decide +kernel, rfl, by decide +kernel, by decide +kernel⟩
theorem w_law_made (T : Txt K mg) {sp_law_take : DSp} {sp : DSp} (D_law_take : Def P w K mg base 1 "_law_take" 2 sp_law_take) (h : ∀ cs post, cs.length = 5 → sp cs post → runD 9 (b_law_made sp_law_take) cs post) : Def P w K mg base 2 "_law_made" 5 sp :=
  def_of (N := N_law_made) T.i_law_made sc_law_made (by decide) (fun f cdv A outer s H hr hgd => by
    have nd : N_law_made.Nodup := sc_law_made.nd
    exact (dss_cons (ds_set (i := 5) nd rfl (by first | exact Or.inl rfl | exact Or.inr rfl) (d_op op_addA v_add (d_op op_addA v_add (d_op op_addA v_add (d_op op_mulA v_mul (d_frz (o_lst (a_cons (d_tup (a_cons d_int (a_cons d_int a_nil))) a_nil))) (d_var 4)) (d_op op_mulA v_mul (d_frz (o_lst (a_cons (d_tup (a_cons d_int (a_cons d_int a_nil))) a_nil))) (d_op op_sub v_int (d_var 2) (d_var 4)))) (d_op op_mulA v_mul (d_frz (o_lst (a_cons (d_tup (a_cons d_int (a_cons d_int a_nil))) a_nil))) (d_op op_sub v_int (d_var 3) (d_var 4)))) (d_op op_mulA v_mul (d_frz (o_lst (a_cons (d_tup (a_cons d_int (a_cons d_int a_nil))) a_nil))) (d_op op_addA v_add (d_op op_sub v_int (d_op op_sub v_int (d_var 1) (d_var 2)) (d_var 3)) (d_var 4)))))
    (dss_cons (ds_parX (i := 6) (j := 7) rfl nd rfl rfl (by decide) rfl rfl (x_cons (d_call D_law_take hr (by decide) hgd (by rfl) (c_io 0 (c_cons (d_var 1) c_nil))) (x_own (o_lst a_nil) x_nil)) (by rfl))
    (dss_cons (ds_for PassesOwn.never rfl (di_any (d_op op_mulA v_mul (d_var 5) (d_callTy call_int1 v_int1 (by rfl) T.z_int (by decide +kernel) (a_cons (d_cmp op_lt v_intB (d_var 1) d_int (nomark _)) a_nil)))) (dg_name (i := 8) nd rfl (by first | exact Or.inl rfl | exact Or.inr rfl)) (dss_one (ds_expr (d_insert 7 (a_cons (d_call D_law_take hr (by decide) hgd (by rfl) (c_io 0 (c_cons (d_op op_addA v_add (d_lenv 7 (by rfl) T.z_len) d_int) c_nil))) (a_cons (d_var 8) a_nil))))))
    (dss_cons (ds_set (i := 7) nd rfl (by first | exact Or.inl rfl | exact Or.inr rfl) (d_if (dt_cmp op_lt v_intB (d_var 1) d_int (nomark _)) (d_var 7) (d_op op_addA v_add (d_slv 5 (dp_some (d_var 6)) dp_no) (d_slv 5 dp_no (dp_some (d_var 6))))))
    (dss_one (ds_ret (d_tup (a_cons (d_callTy call_tupT v_tupT (by rfl) T.z_tuple (by decide +kernel) (a_cons (d_frz (o_comp rfl nd (di_any (d_var 7)) (blkOk_by (own := [("_law_kind", 8)]) (N := N_law_made) (sc := defScope s_law_made) (by decide +kernel)) rfl (fun _ _ _ _ _ => pg_name (i := 8) nd rfl (by first | exact Or.inl rfl | exact Or.inr rfl)) (fun _ _ _ _ _ => dts_nil) (fun _ _ _ _ _ => (d_ixv 8 d_int (fun _ _ => rfl))))) a_nil)) (a_cons (d_callTy call_tupT v_tupT (by rfl) T.z_tuple (by decide +kernel) (a_cons (d_frz (o_comp rfl nd (di_any (d_var 7)) (blkOk_by (own := [("_law_kind", 8)]) (N := N_law_made) (sc := defScope s_law_made) (by decide +kernel)) rfl (fun _ _ _ _ _ => pg_name (i := 8) nd rfl (by first | exact Or.inl rfl | exact Or.inr rfl)) (fun _ _ _ _ _ => dts_nil) (fun _ _ _ _ _ => (d_ixv 8 d_int (fun _ _ => rfl))))) a_nil)) a_nil)))))))))) h
def N_law_otherwise : List Str := ["_law_box_here", "_law_pair", "_law_way", "_law_which", "_law_row", "_law_at", "_law_other"]
theorem sc_law_otherwise : FnScope N_law_otherwise ["_law_box_here", "_law_pair"] (defScope s_law_otherwise) := ⟨rfl, rfl, rfl, by decide +kernel, rfl, by decide +kernel, by decide +kernel⟩
theorem w_law_otherwise (T : Txt K mg) {sp_law_take : DSp} {sp : DSp} (D_law_take : Def P w K mg base 1 "_law_take" 2 sp_law_take) (h : ∀ cs post, cs.length = 2 → sp cs post → runD 7 (b_law_otherwise sp_law_take) cs post) : Def P w K mg base 2 "_law_otherwise" 2 sp :=
  def_of (N := N_law_otherwise) T.i_law_otherwise sc_law_otherwise (by decide) (fun f cdv A outer s H hr hgd => by
    have nd : N_law_otherwise.Nodup := sc_law_otherwise.nd
    exact (dss_cons (ds_par (i := 2) (j := 3) rfl nd rfl rfl (by decide) rfl rfl (a_cons (d_call D_law_take hr (by decide) hgd (by rfl) (c_io 0 (c_cons d_int c_nil))) (a_cons (d_call D_law_take hr (by decide) hgd (by rfl) (c_io 0 (c_cons d_int c_nil))) a_nil)) (by rfl))
    (dss_cons (ds_parX (i := 4) (j := 5) rfl nd rfl rfl (by decide) rfl rfl (x_own (o_list (d_un_ (d_ixv 1 (d_var 3) (fun _ _ => rfl))) (by rfl) T.z_list (by decide +kernel)) (x_cons (d_call D_law_take hr (by decide) hgd (by rfl) (c_io 0 (c_cons (d_callB call_len v_len (by rfl) T.z_len (by decide +kernel) (a_cons (d_un_ (d_ixv 1 (d_var 3) (fun _ _ => rfl))) a_nil)) c_nil))) x_nil)) (by rfl))
    (dss_cons (ds_if (dt_cmp op_lt v_intB (d_var 2) d_int (nomark _)) (dss_one (ds_asg (d_ix (d_frz (o_lst (a_cons (d_op op_sub v_int d_int (d_ixv 4 (d_var 5) (fun _ _ => rfl))) (a_cons (d_cmp (op_eqA hr.units) v_eq (d_ixv 4 (d_var 5) (fun _ _ => rfl)) d_int (nomark _)) (a_cons (d_ix (d_frz (o_lst (a_cons d_int (a_cons d_non (a_cons d_str (a_cons (d_un un_neg v_neg d_int) (a_cons (d_frz (o_lst a_nil)) (a_cons (d_frz (o_lst (a_cons d_int a_nil))) (a_cons (d_tup (a_cons (d_frz (o_lst a_nil)) a_nil)) a_nil))))))))) (d_call D_law_take hr (by decide) hgd (by rfl) (c_io 0 (c_cons d_int c_nil))) (fun _ _ => rfl)) a_nil))))) (d_var 2) (fun _ _ => rfl)) (dg_sub 4 (d_var 5)))) (dss_one (ds_if (dt_cmp op_lt v_intB (d_var 2) d_int (nomark _)) (dss_one (ds_set (i := 4) nd rfl (by first | exact Or.inl rfl | exact Or.inr rfl) (d_ix (d_frz (o_lst (a_cons (d_op op_addA v_add (d_slv 4 dp_no (dp_some (d_var 5))) (d_slv 4 (dp_some (d_op op_addA v_add (d_var 5) d_int)) dp_no)) (a_cons (d_op op_addA v_add (d_op op_addA v_add (d_slv 4 dp_no (dp_some (d_var 5))) (d_frz (o_lst (a_cons (d_call D_law_take hr (by decide) hgd (by rfl) (c_io 0 (c_cons d_int c_nil))) a_nil)))) (d_slv 4 (dp_some (d_var 5)) dp_no)) a_nil)))) (d_op op_sub v_int (d_var 2) d_int) (fun _ _ => rfl)))) (dss_one (ds_if (dt_cmp (op_eqA hr.units) v_eq (d_var 2) d_int (nomark _)) (dss_cons (ds_set (i := 6) nd rfl (by first | exact Or.inl rfl | exact Or.inr rfl) (d_call D_law_take hr (by decide) hgd (by rfl) (c_io 0 (c_cons (d_lenv 4 (by rfl) T.z_len) c_nil))))
    (dss_one (ds_asg (d_tup (a_cons (d_ixv 4 (d_var 6) (fun _ _ => rfl)) (a_cons (d_ixv 4 (d_var 5) (fun _ _ => rfl)) a_nil))) (dg_tup' (n := 2) rfl (dgs_cons (dg_sub 4 (d_var 5)) (dgs_cons (dg_sub 4 (d_var 6)) dgs_nil)))))) (dss_one (ds_if (dt_cmp (op_eqA hr.units) v_eq (d_var 2) d_int (nomark _)) (dss_one (ds_ret (d_ix (d_frz (o_lst (a_cons (d_frz (o_list (d_var 1) (by rfl) T.z_list (by decide +kernel))) (a_cons (d_revT (d_var 1)) (a_cons (d_op op_addA v_add (d_var 1) (d_slv 1 dp_no (dp_some d_int))) (a_cons (d_slv 1 dp_no (dp_some d_int)) (a_cons (d_tup (a_cons (d_ixv 1 d_int (fun _ _ => rfl)) (a_cons (d_ixv 1 d_int (fun _ _ => rfl)) a_nil))) (a_cons (d_tup (a_cons (d_var 1) a_nil)) a_nil)))))))) (d_call D_law_take hr (by decide) hgd (by rfl) (c_io 0 (c_cons d_int c_nil))) (fun _ _ => rfl)))) dss_nil)))))))
    (dss_cons (ds_set (i := 4) nd rfl (by first | exact Or.inl rfl | exact Or.inr rfl) (d_if (dt_cmp (op_eqA hr.units) v_eq (d_var 2) d_int (nomark _)) (d_var 4) (d_callTy call_tupT v_tupT (by rfl) T.z_tuple (by decide +kernel) (a_cons (d_var 4) a_nil))))
    (dss_one (ds_ret (d_if (dt_cmp (op_eqA hr.units) v_eq (d_var 3) d_int (nomark _)) (d_tup (a_cons (d_var 4) (a_cons (d_ixv 1 d_int (fun _ _ => rfl)) a_nil))) (d_tup (a_cons (d_ixv 1 d_int (fun _ _ => rfl)) (a_cons (d_var 4) a_nil))))))))))) h
def N_law : List Str := ["_law_script", "_law_cells", "_law_k", "_law_box_here", "_law_great", "_law_n", "_law_a", "_law_b", "_law_least", "_law_most", "_law_met", "_law_told_here", "_law_pair", "_law_near", "_law_thing", "_law_turn", "_law_found"]
theorem sc_law : FnScope N_law ["_law_script"] (defScope s_law) := ⟨rfl, rfl, rfl, by decide +kernel, rfl, by decide +kernel, by decide +kernel⟩
theorem w_law (T : Txt K mg) {sp_law_box : DSp} {sp_law_due : DSp} {sp_law_folded : DSp} {sp_law_made : DSp} {sp_law_otherwise : DSp} {sp_law_take : DSp} {sp_law_told : DSp} {sp_shows_rows : DSp} {sp : DSp} (D_law_box : Def P w K mg base 1 "_law_box" 2 sp_law_box) (D_law_due : Def P w K mg base 1 "_law_due" 5 sp_law_due) (D_law_folded : Def P w K mg base 1 "_law_folded" 2 sp_law_folded) (D_law_made : Def P w K mg base 2 "_law_made" 5 sp_law_made) (D_law_otherwise : Def P w K mg base 2 "_law_otherwise" 2 sp_law_otherwise) (D_law_take : Def P w K mg base 1 "_law_take" 2 sp_law_take) (D_law_told : Def P w K mg base 3 "_law_told" 4 sp_law_told) (D_shows_rows : Def P w K mg base 4 "shows_rows" 5 sp_shows_rows) (h : ∀ cs post, cs.length = 1 → sp cs post → runD 17 (b_law sp_law_box sp_law_due sp_law_folded sp_law_made sp_law_otherwise sp_law_take sp_law_told sp_shows_rows) cs post) : Def P w K mg base 5 "law" 1 sp :=
  def_of (N := N_law) T.i_law sc_law (by decide) (fun f cdv A outer s H hr hgd => by
    have nd : N_law.Nodup := sc_law.nd
    exact (dss_cons (ds_set (i := 1) nd rfl (by first | exact Or.inl rfl | exact Or.inr rfl) (d_call D_law_folded hr (by decide) hgd (by rfl) (c_cons (d_var 0) (c_cons d_int c_nil))))
    (dss_cons (ds_for PassesOwn.never rfl (di_range1 (by rfl) T.z_range (a_cons (d_callB (call_max2 rfl) v_max2 (by rfl) T.z_max (by decide +kernel) (a_cons d_int (a_cons (d_lenv 1 (by rfl) T.z_len) a_nil))) a_nil)) (dg_name (i := 2) nd rfl (by first | exact Or.inl rfl | exact Or.inr rfl)) (dss_cons (ds_setO (i := 3) nd rfl (by first | exact Or.inl rfl | exact Or.inr rfl) (o_call D_law_box hr (by decide) hgd (by rfl) (c_cons (d_var 1) (c_cons (d_var 2) c_nil))))
    (dss_cons (ds_set (i := 4) nd rfl (by first | exact Or.inl rfl | exact Or.inr rfl) (d_cmp (op_eqA hr.units) v_eq (d_call D_law_take hr (by decide) hgd (by rfl) (c_io 3 (c_cons d_int c_nil))) d_int (nomark _)))
    (dss_cons (ds_set (i := 5) nd rfl (by first | exact Or.inl rfl | exact Or.inr rfl) (d_op op_addA v_add d_int (d_call D_law_take hr (by decide) hgd (by rfl) (c_io 3 (c_cons (d_if (dt_cmp (op_eqA hr.units) v_eq (d_call D_law_take hr (by decide) hgd (by rfl) (c_io 3 (c_cons d_int c_nil))) d_int (nomark _)) d_int d_int) c_nil)))))
    (dss_cons (ds_set (i := 5) nd rfl (by first | exact Or.inl rfl | exact Or.inr rfl) (d_if (DW.dt (dw_and (dt_tru (d_var 4)) (dw_and1 (dt_cmp (op_eqA hr.units) v_eq (d_var 2) d_int (nomark _))))) d_int (d_var 5)))
    (dss_cons (ds_asg (d_frz (o_comp rfl nd (di_range1 (by rfl) T.z_range (a_cons d_int a_nil)) (blkOk_by (own := [("_law_turn", 15)]) (N := N_law) (sc := defScope s_law) (by decide +kernel)) rfl (fun _ _ _ _ _ => pg_name (i := 15) nd rfl (by first | exact Or.inl rfl | exact Or.inr rfl)) (fun _ _ _ _ _ => dts_nil) (fun _ _ _ _ _ => (d_ix (d_frz (o_lst (a_cons d_int (a_cons (d_var 5) (a_cons (d_call D_law_take hr (by decide) hgd (by rfl) (c_io 3 (c_cons (d_op op_addA v_add (d_var 5) d_int) c_nil))) a_nil))))) (d_call D_law_take hr (by decide) hgd (by rfl) (c_io 3 (c_cons d_int c_nil))) (fun _ _ => rfl))))) (dg_tup' (n := 2) rfl (dgs_cons (dg_name (i := 6) nd rfl (by first | exact Or.inl rfl | exact Or.inr rfl)) (dgs_cons (dg_name (i := 7) nd rfl (by first | exact Or.inl rfl | exact Or.inr rfl)) dgs_nil))))
    (dss_cons (ds_par (i := 8) (j := 9) rfl nd rfl rfl (by decide) rfl rfl (a_cons (d_callB (call_max2 rfl) v_max2 (by rfl) T.z_max (by decide +kernel) (a_cons d_int (a_cons (d_op op_sub v_int (d_op op_addA v_add (d_var 6) (d_var 7)) (d_var 5)) a_nil))) (a_cons (d_callB (call_min2 rfl) v_min2 (by rfl) T.z_min (by decide +kernel) (a_cons (d_var 6) (a_cons (d_var 7) a_nil))) a_nil)) (by rfl))
    (dss_one (ds_for PassesOwn.never rfl (di_any (d_tup (a_cons (d_var 8) (a_cons (d_var 9) (a_cons (d_op op_addA v_add (d_var 8) (d_call D_law_take hr (by decide) hgd (by rfl) (c_io 3 (c_cons (d_op op_addA v_add (d_op op_sub v_int (d_var 9) (d_var 8)) d_int) c_nil)))) (a_cons (d_op op_sub v_int (d_var 8) d_int) (a_cons (d_op op_addA v_add (d_var 9) d_int) (a_cons (d_un un_neg v_neg d_int) (a_cons (d_op op_pow v_intC d_int d_int) a_nil))))))))) (dg_name (i := 10) nd rfl (by first | exact Or.inl rfl | exact Or.inr rfl)) (dss_cons (ds_set (i := 11) nd rfl (by first | exact Or.inl rfl | exact Or.inr rfl) (d_call D_law_told hr (by decide) hgd (by rfl) (c_cons (d_var 5) (c_cons (d_var 6) (c_cons (d_var 7) (c_cons (d_var 10) c_nil))))))
    (dss_cons (ds_if (dt_not (dt_chain op_le v_intB op_le v_intB (d_var 8) (d_var 10) (d_var 9))) (dss_cons (ds_set (i := 13) nd rfl (by first | exact Or.inl rfl | exact Or.inr rfl) (d_call D_law_made hr (by decide) hgd (by rfl) (c_io 3 (c_cons (d_var 5) (c_cons (d_var 6) (c_cons (d_var 7) (c_cons (d_if (dt_cmp op_lt v_intB (d_var 10) (d_var 8) (nomark _)) (d_var 8) (d_var 9)) c_nil)))))))
    (dss_cons (ds_for PassesOwn.never rfl (di_any (d_tup (a_cons (d_var 13) (a_cons (d_call D_law_otherwise hr (by decide) hgd (by rfl) (c_io 3 (c_cons (d_var 13) c_nil))) (a_cons (d_call D_law_otherwise hr (by decide) hgd (by rfl) (c_io 3 (c_cons (d_var 13) c_nil))) a_nil))))) (dg_name (i := 14) nd rfl (by first | exact Or.inl rfl | exact Or.inr rfl)) (dss_cons (ds_set (i := 16) nd rfl (by first | exact Or.inl rfl | exact Or.inr rfl) (d_call D_shows_rows hr (by decide) hgd (by rfl) (c_cons (d_var 5) (c_cons (d_var 6) (c_cons (d_var 7) (c_cons (d_var 10) (c_cons (d_un_ (d_var 14)) c_nil)))))))
    (dss_one (ds_if (DW.dt (dw_or (dt_not (dt_tru (d_isi .bool (d_var 16) (by rfl) T.z_isinstance (by decide +kernel) (by rfl) T.z_bool (by decide +kernel) (by decide) (by decide)))) (dw_or1 (dt_cmp (op_neA hr.units) v_ne (d_var 16) (d_call D_law_due hr (by decide) hgd (by rfl) (c_cons (d_var 5) (c_cons (d_var 6) (c_cons (d_var 7) (c_cons (d_var 10) (c_cons (d_var 14) c_nil)))))) (nomark _))))) (dss_one (ds_ret d_bl)) dss_nil))))
    (dss_cons (ds_if (DW.dt (dw_or (dt_cmp (op_neA hr.units) v_ne (d_var 11) d_str (nomark _)) (dw_or1 (dt_cmp op_isNA v_isN (d_call D_shows_rows hr (by decide) hgd (by rfl) (c_cons (d_var 5) (c_cons (d_var 6) (c_cons (d_var 7) (c_cons (d_var 10) (c_cons (d_un_ (d_var 13)) c_nil)))))) d_bl (nomark _))))) (dss_one (ds_ret d_bl)) dss_nil)
    (dss_one ds_continue)))) dss_nil)
    (dss_one (ds_for PassesOwn.never rfl (di_any (d_tup (a_cons (d_var 11) (a_cons (d_call D_law_made hr (by decide) hgd (by rfl) (c_io 3 (c_cons (d_var 5) (c_cons (d_var 6) (c_cons (d_var 7) (c_cons (d_var 10) c_nil)))))) a_nil)))) (dg_name (i := 12) nd rfl (by first | exact Or.inl rfl | exact Or.inr rfl)) (dss_cons (ds_if (DW.dt (dw_or (dt_not (dt_tru (d_call D_law_due hr (by decide) hgd (by rfl) (c_cons (d_var 5) (c_cons (d_var 6) (c_cons (d_var 7) (c_cons (d_var 10) (c_cons (d_var 12) c_nil)))))))) (dw_or1 (dt_cmp op_isNA v_isN (d_call D_shows_rows hr (by decide) hgd (by rfl) (c_cons (d_var 5) (c_cons (d_var 6) (c_cons (d_var 7) (c_cons (d_var 10) (c_cons (d_un_ (d_var 12)) c_nil)))))) d_bl (nomark _))))) (dss_one (ds_ret d_bl)) dss_nil)
    (dss_one (ds_for PassesOwn.never rfl (di_range1 (by rfl) T.z_range (a_cons d_int a_nil)) (dg_name (i := 15) nd rfl (by first | exact Or.inl rfl | exact Or.inr rfl)) (dss_cons (ds_set (i := 14) nd rfl (by first | exact Or.inl rfl | exact Or.inr rfl) (d_call D_law_otherwise hr (by decide) hgd (by rfl) (c_io 3 (c_cons (d_var 12) c_nil))))
    (dss_cons (ds_set (i := 16) nd rfl (by first | exact Or.inl rfl | exact Or.inr rfl) (d_call D_shows_rows hr (by decide) hgd (by rfl) (c_cons (d_var 5) (c_cons (d_var 6) (c_cons (d_var 7) (c_cons (d_var 10) (c_cons (d_un_ (d_var 14)) c_nil)))))))
    (dss_one (ds_if (DW.dt (dw_or (dt_not (dt_tru (d_isi .bool (d_var 16) (by rfl) T.z_isinstance (by decide +kernel) (by rfl) T.z_bool (by decide +kernel) (by decide) (by decide)))) (dw_or1 (dt_cmp (op_neA hr.units) v_ne (d_var 16) (d_call D_law_due hr (by decide) hgd (by rfl) (c_cons (d_var 5) (c_cons (d_var 6) (c_cons (d_var 7) (c_cons (d_var 10) (c_cons (d_var 14) c_nil)))))) (nomark _))))) (dss_one (ds_ret d_bl)) dss_nil))))))))))))))))))))
    (dss_one (ds_ret d_bl))))) h
end
end K08
end
section
set_option Elab.async false
set_option linter.all false
set_option maxRecDepth 100000
namespace DL
open PySem PySem.Spec PyProof.Rows L2
def dot (xs ys : List Int) : Int := (List.zipWith (· * ·) xs ys).sum
theorem dot_nil (ys : List Int) : dot [] ys = 0 := rfl
theorem dot_cons (x y : Int) (xs ys : List Int) : dot (x :: xs) (y :: ys) = x * y + dot xs ys := by
  unfold dot; rw [List.zipWith_cons_cons, List.sum_cons]
def b_of_one_length : DTS :=
  (sFor (iAny (eVar 0)) (gNm 1) (sIf (tBl (eOp2 pNe (eLenV 1) (eCall pLen (aCons (eIxV 0 (eC (.int 0))) aNil)))) sBad sNext))
def b_overlap (sp_of_one_length : DSp) : DTS :=
  (sSeq (sDrop (eCallF 1 sp_of_one_length (cCons (eFrz (oLst (aCons (eVar 0) (aCons (eVar 1) aNil)))) cNil)))
  (sRet (eCall pSum (aCons (eFrz (oComp false [2, 3] (iZp (aCons (eVar 0) (aCons (eVar 1) aNil))) tYesD (eOp2 pMul (eVar 2) (eVar 3)))) aNil))))
def sp_of_one_length : DSp := fun cs post => ∃ (rows : List (List Int)) (n : Nat), cs = [.sh (.list (rows.map bD))] ∧ (∀ r ∈ rows, r.length = n) ∧ post (.sh .none) []
theorem p_of_one_length (cs post) (h : sp_of_one_length cs post) : runD 2 b_of_one_length cs post := by
  obtain ⟨rows, n, rfl, hr, q⟩ := h
  refine idx_on (rows.map bD) [1] _ (fun i cs => ∃ c, cs = [c]) ?_ ?_ ⟨_, rfl⟩
  · rintro i hi cs N ⟨c, rfl⟩ hN
    rw [List.length_map] at hi
    have h0 : 0 < rows.length := by omega
    have e1 : (rows.map bD)[i]'(by rw [List.length_map]; exact hi) = bD rows[i] := List.getElem_map ..
    rw [e1]
    have e0 : atI (rows.map bD) 0 = some (bD rows[0]) := by
      rw [at_in (by omega) (by rw [List.length_map]; omega)]
      simp
    refine optD_of e0 ?_
    have l1 := hr _ (List.getElem_mem hi)
    have l0 := hr _ (List.getElem_mem h0)
    refine ifN (fun hne => absurd ?_ hne) (fun he => hN [_] ⟨_, rfl⟩)
    rw [List.length_map, List.length_map, l1, l0]
  · rintro cs ⟨c, rfl⟩
    exact q
def sp_overlap : DSp := fun cs post => ∃ (xs ys : List Int), cs = [.sh (bD xs), .sh (bD ys)] ∧ Bits xs ∧ Bits ys ∧ xs.length = ys.length ∧ xs.length < 2 ^ 22 ∧ post (.sh (.int (dot xs ys))) []
theorem p_overlap (cs post) (h : sp_overlap cs post) : runD 4 (b_overlap sp_of_one_length) cs post := by
  obtain ⟨xs, ys, rfl, hx, hy, he, hl, q⟩ := h
  have hbig := line_big
  refine ⟨sz2, rfl, .nil, [xs, ys], xs.length, rfl, fun r m => ?_, ?_⟩
  · rcases List.mem_cons.1 m with rfl | m
    · rfl
    · rcases List.mem_cons.1 m with rfl | m
      · exact he.symm
      · cases m
  · refine ⟨by rw [zipD_len, List.length_map, List.length_map]; omega, ?_⟩
    refine idx_comp _ (fun i acc r => acc = ((List.zipWith (· * ·) xs ys).take i).map PyData.int ∧ r = [some (.sh (bD xs)), some (.sh (bD ys)), none, none]) ?_ ?_ _ ⟨rfl, rfl⟩
    · rintro i hi acc r N ⟨rfl, rfl⟩ hN
      have hi2 : i < xs.length := by rw [zipD_len, List.length_map, List.length_map] at hi; omega
      obtain ⟨a, b, h1, h2, h3⟩ := zipD_get _ _ i _ (List.getElem?_eq_getElem hi)
      rw [h3]
      rw [List.getElem?_map, List.getElem?_eq_getElem hi2] at h1
      rw [List.getElem?_map, List.getElem?_eq_getElem (by omega)] at h2
      cases h1; cases h2
      refine ⟨rfl, MulOk.left ?_, hN _ _ ⟨?_, rfl⟩⟩
      · exact bit_abs hx (List.getElem_mem hi2)
      · rw [List.take_succ_eq_append_getElem (by rw [List.length_zipWith]; omega), List.map_append, List.getElem_zipWith]
        rfl
    · rintro acc r ⟨rfl, rfl⟩
      refine ⟨_, rfl, ?_⟩
      rw [List.take_of_length_le (by rw [List.length_zipWith, zipD_len, List.length_map, List.length_map]; omega)]
      exact q
def b_met_ends : DTS :=
  (sRet (eTup (aCons (eCall pMax2 (aCons (eC (.int 0)) (aCons (eOp2 pSub (eOp2 pAdd (eVar 1) (eVar 2)) (eVar 0)) aNil))) (aCons (eCall pMin2 (aCons (eVar 1) (aCons (eVar 2) aNil))) aNil))))
def lowMet (n a b : Int) : Int := if a + b - n > 0 then a + b - n else 0
def highMet (a b : Int) : Int := if b < a then b else a
def sp_met_ends : DSp := fun cs post => ∃ n a b : Int, cs = [.sh (.int n), .sh (.int a), .sh (.int b)] ∧ post (.sh (.tuple [.int (lowMet n a b), .int (highMet a b)])) []
theorem p_met_ends (cs post) (h : sp_met_ends cs post) : runD 3 b_met_ends cs post := by
  obtain ⟨n, a, b, rfl, q⟩ := h
  exact ⟨sz2, q⟩
end DL
end
section
set_option Elab.async false
set_option linter.all false
set_option maxRecDepth 100000
set_option maxHeartbeats 4000000
namespace K08
open PySem PySem.Spec PyProof.Rows DL L2
theorem p_ones (cs post) (h : sp_ones cs post) : runD 1 b_ones cs post := DL.p_ones cs post h
theorem p_of_one_length (cs post) (h : sp_of_one_length cs post) : runD 2 b_of_one_length cs post := DL.p_of_one_length cs post h
theorem p_overlap (cs post) (h : sp_overlap cs post) : runD 4 (b_overlap sp_of_one_length) cs post := DL.p_overlap cs post h
theorem p_met_ends (cs post) (h : sp_met_ends cs post) : runD 3 b_met_ends cs post := DL.p_met_ends cs post h
def isNum : D → Bool
  | .int _ => true
  | _ => false
def isBit : D → Bool
  | .int i => decide (i = 0) || decide (i = 1)
  | _ => false
def isRow : D → Bool
  | .tuple xs => decide (1 ≤ xs.length) && (decide (xs.length ≤ 4096) && xs.all isBit)
  | _ => false
/-- no dict, nor within one tuple -/
def CleanR (d : D) : Prop := notDict d = true ∧ ∀ xs, d = .tuple xs → ∀ x ∈ xs, notDict x = true
def sp_is_number : DSp := fun cs post => ∃ d : D, cs = [.sh d] ∧ notDict d = true ∧ post (.sh (.bool (isNum d))) []
def sp_is_bit : DSp := fun cs post => ∃ d : D, cs = [.sh d] ∧ notDict d = true ∧ post (.sh (.bool (isBit d))) []
def sp_is_row : DSp := fun cs post => ∃ d : D, cs = [.sh d] ∧ CleanR d ∧ post (.sh (.bool (isRow d))) []
theorem p_is_number (cs post) (h : sp_is_number cs post) : runD 1 b_is_number cs post := by
  obtain ⟨d, rfl, h, q⟩ := h
  cases d <;> first | exact ⟨rfl, q⟩ | exact ⟨rfl, rfl, q⟩ | cases h
theorem p_is_bit (cs post) (h : sp_is_bit cs post) : runD 1 (b_is_bit sp_is_number) cs post := by
  obtain ⟨d, rfl, h, q⟩ := h
  refine ⟨rfl, .nil, d, rfl, h, ?_⟩
  cases d with
  | int i =>
    refine ⟨sz2, rfl, rfl, ?_⟩
    have e : ([PyData.int 0, .int 1].any fun z => PyData.eqv z (.int i)) = isBit (.int i) := by
      simp [PyData.eqv, isBit, Bool.beq_eq_decide_eq, eq_comm]
    show post (.sh (.bool ([PyData.int 0, .int 1].any fun z => PyData.eqv z (.int i)))) []
    rw [e]
    exact q
  | dict _ => cases h
  | _ => exact q
theorem any_tuple {xs : List D} {post : Cell → List M → Prop} (hc : ∀ x ∈ xs, notDict x = true) (hl : xs.length ≤ 4096) (q : post (.sh (.bool (xs.all isBit))) []) :
    runD 2 (sRet (eCall pAll (aCons (eFrz (oComp true [1] (iAny (eVar 0)) tYesD (eCallF 1 sp_is_bit (cCons (eVar 1) cNil)))) aNil))) [.sh (.tuple xs)] post := by
  refine ⟨Nat.le_trans hl (by decide), ?_⟩
  refine idx_comp xs (fun i acc r => acc = (xs.take i).map (fun x => PyData.bool (isBit x)) ∧ r = [some (.sh (.tuple xs)), none]) ?_ ?_ _ ⟨rfl, rfl⟩
  · rintro i hi acc r N ⟨rfl, rfl⟩ hN
    refine ⟨rfl, .nil, xs[i], rfl, hc _ (List.getElem_mem hi), ?_⟩
    refine hN _ _ ⟨?_, rfl⟩
    rw [List.take_succ_eq_append_getElem hi, List.map_append]
    rfl
  · rintro acc r ⟨rfl, rfl⟩
    rw [List.take_length]
    refine ⟨xs.map isBit, by rw [List.map_map]; rfl, ?_⟩
    rw [List.all_map]
    exact q
theorem p_is_row (cs post) (h : sp_is_row cs post) : runD 2 (b_is_row sp_is_bit) cs post := by
  obtain ⟨d, rfl, hc, q⟩ := h
  cases d with
  | tuple xs =>
    refine ⟨rfl, ?_⟩
    have q' : post (.sh (.bool (decide (1 ≤ xs.length) && (decide (xs.length ≤ 4096) && xs.all isBit)))) [] := q
    refine ifD (p := (1 : Int) ≤ (xs.length : Nat)) (fun h => ?_) (fun h => ?_)
    · rw [decide_eq_true (show 1 ≤ xs.length by omega), Bool.true_and] at q'
      refine ifN (p := ((xs.length : Nat) : Int) ≤ 4096) (fun h2 => ?_) (fun h2 => ?_)
      · rw [decide_eq_false (show ¬ xs.length ≤ 4096 by omega), Bool.false_and] at q'
        exact q'
      · rw [decide_eq_true (show xs.length ≤ 4096 by omega), Bool.true_and] at q'
        exact any_tuple (hc.2 xs rfl) (by omega) q'
    · rw [decide_eq_false (show ¬ 1 ≤ xs.length by omega), Bool.false_and] at q'
      exact q'
  | dict _ => cases hc.1
  | _ => exact ⟨rfl, q⟩
theorem dot_app : ∀ {xs us ys vs : List Int}, xs.length = us.length → dot (xs ++ ys) (us ++ vs) = dot xs us + dot ys vs
  | [], [], ys, vs, _ => by rw [List.nil_append, List.nil_append, dot_nil, Int.zero_add]
  | x :: xs, u :: us, ys, vs, h => by
    rw [List.cons_append, List.cons_append, dot_cons, dot_cons, dot_app (Nat.succ.inj h), Int.add_assoc]
  | [], _ :: _, _, _, h => nomatch h
  | _ :: _, [], _, _, h => nomatch h
theorem dot_rep (x y : Int) : ∀ k : Nat, dot (List.replicate k x) (List.replicate k y) = k * (x * y)
  | 0 => by rw [List.replicate_zero, dot_nil]; simp
  | k + 1 => by
    rw [List.replicate_succ, List.replicate_succ, dot_cons, dot_rep x y k, Int.natCast_add, Int.add_mul]
    omega
theorem sum_rep (x : Int) : ∀ k : Nat, (List.replicate k x).sum = k * x
  | 0 => by simp
  | k + 1 => by
    rw [List.replicate_succ, List.sum_cons, sum_rep x k, Int.natCast_add, Int.add_mul]
    omega
structure Good (n a b met : Int) (xs ys : List Int) : Prop where
  lx : (xs.length : Int) = n
  ly : (ys.length : Int) = n
  bx : Bits xs
  bw : Bits ys
  sx : xs.sum = a
  sy : ys.sum = b
  d : dot xs ys = met
def GoodT (n a b met : Int) (d : D) : Prop := ∃ xs ys, d = .tuple [bD xs, bD ys] ∧ Good n a b met xs ys
structure In (n a b : Int) : Prop where
  n1 : 1 ≤ n
  n2 : n ≤ 4096
  a0 : 0 ≤ a
  a1 : a ≤ n
  b0 : 0 ≤ b
  b1 : b ≤ n
def inR (n a b met : Int) : Prop := lowMet n a b ≤ met ∧ met ≤ highMet a b
theorem low_le {n a b met : Int} (h : inR n a b met) : 0 ≤ met ∧ a + b - n ≤ met ∧ met ≤ a ∧ met ≤ b := by
  obtain ⟨h1, h2⟩ := h
  unfold lowMet at h1
  unfold highMet at h2
  split at h1 <;> split at h2 <;> omega
theorem low_in {n a b : Int} (I : In n a b) : lowMet n a b ≤ highMet a b ∧ 0 ≤ lowMet n a b ∧ highMet a b ≤ n := by
  obtain ⟨_, _, _, _, _, _⟩ := I
  unfold lowMet highMet
  split <;> split <;> omega
def rp (k : Int) (x : Int) : List Int := (List.replicate k.toNat [x]).flatten
theorem rp_eq (k x : Int) : rp k x = List.replicate k.toNat x := by
  unfold rp
  generalize k.toNat = m
  induction m with
  | zero => rfl
  | succ m ih => rw [List.replicate_succ, List.flatten_cons, ih]; rfl
theorem rp_len (k x : Int) : (rp k x).length = k.toNat := by rw [rp_eq, List.length_replicate]
def one (n a : Int) : List Int := rp a 1 ++ rp (n - a) 0
def two (n a b met : Int) : List Int := ((rp met 1 ++ rp (a - met) 0) ++ rp (b - met) 1) ++ rp (n - a - b + met) 0
theorem rep_bits {k : Nat} {x : Int} (h : x = 0 ∨ x = 1) : Bits (List.replicate k x) := fun b hb => by rw [List.eq_of_mem_replicate hb]; exact h
theorem good_lean {n a b met : Int} (I : In n a b) (R : inR n a b met) : Good n a b met (one n a) (two n a b met) := by
  obtain ⟨r1, r2, r3, r4⟩ := low_le R
  obtain ⟨_, _, _, _, _, _⟩ := I
  obtain ⟨A, rfl⟩ := Int.eq_ofNat_of_zero_le (show 0 ≤ a by omega)
  obtain ⟨B, rfl⟩ := Int.eq_ofNat_of_zero_le (show 0 ≤ b by omega)
  obtain ⟨M, rfl⟩ := Int.eq_ofNat_of_zero_le r1
  obtain ⟨N, rfl⟩ := Int.eq_ofNat_of_zero_le (show 0 ≤ n by omega)
  have e1 : ((N : Int) - A).toNat = N - A := by omega
  have e2 : ((A : Int) - M).toNat = A - M := by omega
  have e3 : ((B : Int) - M).toNat = B - M := by omega
  have e4 : ((N : Int) - A - B + M).toNat = N + M - A - B := by omega
  have o1 : one (N : Int) A = List.replicate A 1 ++ List.replicate (N - A) 0 := by
    unfold one
    rw [rp_eq, rp_eq, Int.toNat_natCast, e1]
  have o2 : two (N : Int) A B M = ((List.replicate M 1 ++ List.replicate (A - M) 0) ++ List.replicate (B - M) 1) ++ List.replicate (N + M - A - B) 0 := by
    unfold two
    rw [rp_eq, rp_eq, rp_eq, rp_eq, Int.toNat_natCast, e2, e3, e4]
  have o3 : List.replicate A (1 : Int) ++ List.replicate (N - A) 0 = ((List.replicate M 1 ++ List.replicate (A - M) 1) ++ List.replicate (B - M) 0) ++ List.replicate (N + M - A - B) 0 := by
    rw [List.replicate_append_replicate, List.append_assoc, List.replicate_append_replicate]
    congr 2 <;> omega
  rw [o1, o2]
  refine ⟨?_, ?_, ?_, ?_, ?_, ?_, ?_⟩
  · simp only [List.length_append, List.length_replicate]; omega
  · simp only [List.length_append, List.length_replicate]; omega
  · exact (rep_bits (.inr rfl)).app (rep_bits (.inl rfl))
  · exact (((rep_bits (.inr rfl)).app (rep_bits (.inl rfl))).app (rep_bits (.inr rfl))).app (rep_bits (.inl rfl))
  · rw [List.sum_append, sum_rep, sum_rep]; omega
  · rw [List.sum_append, List.sum_append, List.sum_append, sum_rep, sum_rep, sum_rep, sum_rep]; omega
  · rw [o3, dot_app (by simp only [List.length_append, List.length_replicate]), dot_app (by simp only [List.length_append, List.length_replicate]), dot_app (by simp only [List.length_replicate]), dot_rep, dot_rep, dot_rep, dot_rep]
    omega
def pairT (xs ys : List Int) : D := .tuple [tgT xs, tgT ys]
def T1 (te : DTE) (r : DSt) (d : D) : Prop := ∀ q : D → DSt → Prop, q d r → te r q
theorem T1.v {r : DSt} {i : Nat} {d : D} (h : dat r i = some (.sh d)) : T1 (eVar i) r d := fun q hq => by unfold eVar; rw [h]; exact hq
theorem T1.sub {r : DSt} {ta tb : DTE} {x y : Int} (ha : T1 ta r (.int x)) (hb : T1 tb r (.int y)) : T1 (eOp2 pSub ta tb) r (.int (x - y)) := fun q hq => ha _ (hb _ hq)
theorem T1.add {r : DSt} {ta tb : DTE} {x y : Int} (ha : T1 ta r (.int x)) (hb : T1 tb r (.int y)) : T1 (eOp2 pAdd ta tb) r (.int (x + y)) := fun q hq => ha _ (hb _ hq)
theorem T1.mul {r : DSt} {te : DTE} {x k : Int} (h : T1 te r (.int k)) (h0 : -20000 ≤ k) (h1 : k ≤ 20000) : T1 (eOp2 pMulTg (eTupT (aCons (eC (.int x)) aNil)) te) r (tgT (rp k x)) := fun q hq => ⟨sz1, [x], rfl, h _ ⟨[x], k, rfl, rfl, ⟨by omega, by omega, by
  have := line_big
  show 1 * _ ≤ _
  omega⟩, hq⟩⟩
theorem T1.cat {r : DSt} {ta tb : DTE} {xs ys : List Int} (ha : T1 ta r (tgT xs)) (hb : T1 tb r (tgT ys)) (hl : xs.length + ys.length ≤ 100000) : T1 (eOp2 pAddT ta tb) r (tgT (xs ++ ys)) := fun q hq => ha _ (hb _ ⟨xs, ys, rfl, rfl, by have := line_big; omega, hq⟩)
def sp_leaning_rows : DSpX := fun cs post xp => ∃ n a b met : Int, cs = [.sh (.int n), .sh (.int a), .sh (.int b), .sh (.int met)] ∧ In n a b ∧ (inR n a b met → post (.sh (pairT (one n a) (two n a b met))) []) ∧ (¬ inR n a b met → xp "NoSuch")
theorem p_leaning_rows (cs post xp) (h : sp_leaning_rows cs post xp) : runDX 8 (b_leaning_rows sp_met_ends) cs post xp := by
  obtain ⟨n, a, b, met, rfl, I, q1, q2⟩ := h
  have I2 := I
  obtain ⟨i1, i2, i3, i4, i5, i6⟩ := I2
  refine nrm_in ?_
  show sSeq _ _ _ [_, _, _, _, _, _, _, _]
  refine seq_on [4, 5] (fun cs => cs = [some (.sh (.int (lowMet n a b))), some (.sh (.int (highMet a b)))]) (fun N hN => ⟨rfl, .nil, n, a, b, rfl, rfl, nrm_in (nrm_in (hN [_, _] rfl))⟩) ?_
  rintro cs rfl
  show sSeq _ _ _ [_, _, _, _, _, _, _, _]
  refine seq_on [] (fun cs => cs = [] ∧ inR n a b met) (fun N hN => ?_) ?_
  · refine ifD (p := lowMet n a b ≤ met) (fun h1 => ?_) (fun h1 => q2 fun h => h1 h.1)
    exact ifN (p := met ≤ highMet a b) (fun h2 => q2 fun h => h2 h.2) (fun h2 => hN [] ⟨rfl, h1, h2⟩)
  rintro cs ⟨rfl, R⟩
  obtain ⟨r1, r2, r3, r4⟩ := low_le R
  show sSeq _ _ _ [some (.sh (.int n)), some (.sh (.int a)), some (.sh (.int b)), some (.sh (.int met)), some (.sh (.int (lowMet n a b))), some (.sh (.int (highMet a b))), none, none]
  refine seq_on [6] (fun cs => cs = [some (.sh (tgT (one n a)))]) (fun N hN => ?_) ?_
  · exact T1.cat (T1.mul (T1.v rfl) (by omega) (by omega)) (T1.mul (T1.sub (T1.v rfl) (T1.v rfl)) (by omega) (by omega)) (by rw [rp_len, rp_len]; omega) _ (nrm_in (hN [_] rfl))
  rintro cs rfl
  show sSeq _ _ _ [some (.sh (.int n)), some (.sh (.int a)), some (.sh (.int b)), some (.sh (.int met)), some (.sh (.int (lowMet n a b))), some (.sh (.int (highMet a b))), some (.sh (tgT (one n a))), none]
  refine seq_on [7] (fun cs => cs = [some (.sh (tgT (two n a b met)))]) (fun N hN => ?_) ?_
  · exact T1.cat (T1.cat (T1.cat (T1.mul (T1.v rfl) (by omega) (by omega)) (T1.mul (T1.sub (T1.v rfl) (T1.v rfl)) (by omega) (by omega)) (by rw [rp_len, rp_len]; omega)) (T1.mul (T1.sub (T1.v rfl) (T1.v rfl)) (by omega) (by omega)) (by rw [List.length_append, rp_len, rp_len, rp_len]; omega))
      (T1.mul (T1.add (T1.sub (T1.sub (T1.v rfl) (T1.v rfl)) (T1.v rfl)) (T1.v rfl)) (by omega) (by omega)) (by rw [List.length_append, List.length_append, rp_len, rp_len, rp_len, rp_len]; omega) _ (nrm_in (hN [_] rfl))
  rintro cs rfl
  show sRet _ _ [_, _, _, _, _, _, _, _]
  exact ⟨sz2, q1 R⟩
def sp_law_told : DSp := fun cs post => ∃ n a b met : Int, cs = [.sh (.int n), .sh (.int a), .sh (.int b), .sh (.int met)] ∧ In n a b ∧ (inR n a b met → post (.sh (pairT (one n a) (two n a b met))) []) ∧ (¬ inR n a b met → post (.sh (.str "none")) [])
theorem p_law_told (cs post) (h : sp_law_told cs post) : runD 8 (b_law_told sp_leaning_rows) cs post := by
  obtain ⟨n, a, b, met, rfl, I, q1, q2⟩ := h
  refine nrm_in ?_
  show sSeq _ _ _ [_, _, _, _, _, _, _, _]
  refine seq_on [4, 5] (fun cs => cs = [some (.sh .none), some (.sh .none)]) (fun N hN => ⟨sz2, rfl, nrm_in (nrm_in (hN [_, _] rfl))⟩) ?_
  rintro cs rfl
  show sSeq _ _ _ [_, _, _, _, _, _, _, _]
  refine seq_on [4, 5] (fun cs => (inR n a b met ∧ cs = [some (.sh (pairT (one n a) (two n a b met))), some (.sh .none)]) ∨ (¬ inR n a b met ∧ cs = [some (.sh .none), some (.sh (excD "NoSuch"))])) (fun N hN => ?_) ?_
  · exact ⟨rfl, rfl, rfl, n, a, b, met, rfl, I, fun e => hN [_, _] (.inl ⟨e, rfl⟩), fun e => ⟨by decide, hN [_, _] (.inr ⟨e, rfl⟩)⟩⟩
  rintro cs (⟨e, rfl⟩ | ⟨e, rfl⟩)
  · show sSeq _ _ _ [_, _, _, _, _, _, _, _]
    exact q1 e
  · show sSeq _ _ _ [_, _, _, _, _, _, _, _]
    refine seq_on [] (fun cs => cs = []) (fun N hN => hN [] rfl) ?_
    rintro cs rfl
    show sSeq _ _ _ [_, _, _, _, _, _, _, _]
    refine seq_on [6] (fun cs => cs = [some (.sh (.bool false))]) (fun N hN => ⟨"NoSuch", rfl, by decide, nrm_in (hN [_] rfl)⟩) ?_
    rintro cs rfl
    show sRet _ _ [_, _, _, _, _, _, _, _]
    exact ⟨"NoSuch", rfl, by decide, "NoSuch", rfl, by decide, q2 e⟩
inductive RowK : D → D → Prop
  | tg (ns : List Int) : ns.length ≤ 10000 → RowK (tgT ns) (bD ns)
  | bad (d : D) : CleanR d → (∀ xs, d = .tuple xs → xs.length ≤ 10000 ∧ ∃ x ∈ xs, isBit x = false) → RowK d d
theorem RowK.unt {x x' : D} (k : RowK x x') : Unt x x' := by
  cases k with
  | tg ns _ => exact .tg ns
  | bad _ _ _ => exact .refl _
inductive ThingK : D → D → Prop
  | pair {x y x' y' : D} : RowK x x' → RowK y y' → ThingK (.tuple [x, y]) (.tuple [x', y'])
  | lst (ds : List D) : ThingK (.list ds) (.list ds)
  | tup (ds : List D) : ds.length ≠ 2 → ThingK (.tuple ds) (.tuple ds)
theorem ThingK.unt {x x' : D} (k : ThingK x x') : Unt x x' := by
  cases k with
  | pair a b => exact .two a.unt b.unt
  | lst ds => exact .refl _
  | tup ds _ => exact .refl _
theorem bits_of_all {ns : List Int} : (ns.map PyData.int).all isBit = true ↔ Bits ns := by
  rw [List.all_eq_true]
  constructor
  · intro h b hb
    have := h _ (List.mem_map_of_mem hb)
    simpa [isBit] using this
  · intro h x hx
    obtain ⟨b, hb, rfl⟩ := List.mem_map.1 hx
    simpa [isBit] using h b hb
/-- is a row of n bits -/
def ROk (n : Int) (d : D) : Prop := ∃ ns, d = bD ns ∧ (ns.length : Int) = n ∧ Bits ns
theorem bad_row {n : Int} {d : D} (h : ∀ xs, d = .tuple xs → xs.length ≤ 10000 ∧ ∃ x ∈ xs, isBit x = false) : ¬ ROk n d := fun ⟨ns, e, _, hb⟩ => by
  obtain ⟨_, x, hx, hf⟩ := h _ e
  have := List.all_eq_true.1 (bits_of_all.2 hb) x hx
  rw [this] at hf
  cases hf
theorem any_not {xs : List D} : (xs.any fun x => !isBit x) = !xs.all isBit := by
  induction xs with
  | nil => rfl
  | cons x xs ih => rw [List.any_cons, List.all_cons, ih, Bool.not_and]
def dueAny : DTE := eCall pAny (aCons (eFrz (oComp true [8] (iAny (eUn (eVar 5))) tYesD (eOr (eNot (eIsi .int (eVar 8))) (eOr (eIsi .bool (eVar 8)) (eOr (eOp2 pLt (eVar 8) (eC (.int 0))) (eOp2 pGt (eVar 8) (eC (.int 1)))))))) aNil)
theorem due_any {c0 c1 c2 c3 c4 c6 c7 c9 : Option Cell} {x : D} {xs : List D} (u : Unt x (.tuple xs)) (hl : xs.length ≤ 10000) (hc : ∀ x ∈ xs, notDict x = true) {q : D → DSt → Prop}
    (h : q (.bool (!xs.all isBit)) [c0, c1, c2, c3, c4, some (.sh x), c6, c7, none, c9]) : dueAny [c0, c1, c2, c3, c4, some (.sh x), c6, c7, none, c9] q := by
  have hbig := line_big
  refine ⟨_, u, ?_⟩
  refine ⟨by omega, ?_⟩
  refine comp_map xs [c0, c1, c2, c3, c4, some (.sh x), c6, c7, none, c9] (fun x => .bool (!isBit x)) (fun d hd q2 h2 => ?_) ?_
  · have nd := hc d hd
    cases d with
    | int v =>
      refine ⟨rfl, rfl, ?_⟩
      have e : (!isBit (.int v)) = (decide (v < 0) || decide (1 < v)) := by
        show (!(decide (v = 0) || decide (v = 1))) = _
        by_cases h0 : v = 0
        · subst h0; rfl
        · by_cases h1 : v = 1
          · subst h1; rfl
          · rw [decide_eq_false h0, decide_eq_false h1]
            by_cases h2 : v < 0
            · rw [decide_eq_true h2]; rfl
            · rw [decide_eq_false h2, decide_eq_true (show 1 < v by omega)]; rfl
      rw [e] at h2
      refine ifD (p := v < 0) (fun hv => ?_) (fun hv => ?_)
      · rw [decide_eq_true hv] at h2
        exact h2 _ rfl
      · rw [decide_eq_false hv, Bool.false_or] at h2
        exact h2 _ rfl
    | bool b => exact ⟨rfl, rfl, h2 _ rfl⟩
    | dict _ => cases nd
    | _ => exact ⟨rfl, h2 _ rfl⟩
  · refine ⟨xs.map fun x => !isBit x, by rw [List.map_map]; rfl, ?_⟩
    rw [List.any_map]
    have e : (xs.any (id ∘ fun x => !isBit x)) = !xs.all isBit := any_not
    rw [e]
    exact h
def dueBody : DTS := (sSeq (sIf (tOr' (tNt (tTru (eIsi .tuple (eUn (eVar 5))))) (tBl (eOp2 pNe (eCall pLen (aCons (eUn (eVar 5)) aNil)) (eVar 0)))) (sRet (eC (.bool false))) sNext)
  (sIf (tTru dueAny) (sRet (eC (.bool false))) sNext))
theorem due_row {E : DEnds} {n : Int} {c1 c2 c3 c4 c6 c7 c9 : Option Cell} {x x' : D} (k : RowK x x')
    (hok : ROk n x' → E.nx [some (.sh (.int n)), c1, c2, c3, c4, some (.sh x), c6, c7, none, c9]) (hbad : ¬ ROk n x' → E.rt (.sh (.bool false)) [some (.sh (.int n)), c1, c2, c3, c4, some (.sh x), c6, c7, none, c9]) :
    dueBody E [some (.sh (.int n)), c1, c2, c3, c4, some (.sh x), c6, c7, none, c9] := by
  have tup : ∀ xs, x' = .tuple xs → xs.length ≤ 10000 → (∀ z ∈ xs, notDict z = true) → (xs.all isBit = true → (xs.length : Int) = n → ROk n x') → (ROk n x' → xs.all isBit = true ∧ (xs.length : Int) = n) → dueBody E [some (.sh (.int n)), c1, c2, c3, c4, some (.sh x), c6, c7, none, c9] := by
    intro xs e hl hc h1 h2
    have u := k.unt
    rw [e] at u
    refine ⟨_, u, rfl, ?_⟩
    show _root_.ite _ _ _
    refine ⟨_, u, ?_⟩
    refine ifN (p := ((xs.length : Nat) : Int) = n) (fun hne => hbad fun hR => hne (h2 hR).2) (fun he => ?_)
    refine due_any u hl hc ?_
    cases ha : xs.all isBit with
    | true => exact hok (h1 ha he)
    | false => exact hbad fun hR => by rw [(h2 hR).1] at ha; cases ha
  cases k with
  | tg ns hl =>
    refine tup _ rfl (by rw [List.length_map]; exact hl) (fun z hz => ?_) (fun h1 h2 => ⟨ns, rfl, by rw [List.length_map] at h2; exact h2, bits_of_all.1 h1⟩) (fun ⟨ms, e, h1, h2⟩ => ?_)
    · obtain ⟨i, _, rfl⟩ := List.mem_map.1 hz
      rfl
    · injection e with e
      have := ints_inj e
      subst this
      exact ⟨bits_of_all.2 h2, by rw [List.length_map]; exact h1⟩
  | bad d hc hb =>
    have nb : ¬ ROk n x := bad_row hb
    cases x with
    | tuple xs =>
      obtain ⟨hl, z, hz, hf⟩ := hb xs rfl
      exact tup xs rfl hl (hc.2 xs rfl) (fun h1 _ => by rw [List.all_eq_true.1 h1 z hz] at hf; cases hf) (fun hR => absurd hR nb)
    | dict _ => cases hc.1
    | _ => exact ⟨_, .refl _, hc.1, hbad nb⟩
def sp_law_due : DSp := fun cs post => ∃ (n a b met : Int) (d d' : D), cs = [.sh (.int n), .sh (.int a), .sh (.int b), .sh (.int met), .sh d] ∧ n ≤ 4096 ∧ 0 ≤ n ∧ ThingK d d' ∧ ∀ v : Bool, (v = true ↔ GoodT n a b met d') → post (.sh (.bool v)) []
theorem not_two {n a b met : Int} {x y : D} (h : ¬ (ROk n x ∧ ROk n y)) : ¬ GoodT n a b met (.tuple [x, y]) := fun ⟨xs, ys, e, G⟩ => by
  injection e with e
  injection e with e1 e
  injection e with e2 _
  exact h ⟨⟨xs, e1, G.lx, G.bx⟩, ⟨ys, e2, G.ly, G.bw⟩⟩
theorem not_thing {n a b met : Int} {d : D} (h : (∃ ds, d = .list ds) ∨ ∃ ds, d = .tuple ds ∧ ds.length ≠ 2) : ¬ GoodT n a b met d := fun ⟨xs, ys, e, G⟩ => by
  rcases h with ⟨ds, rfl⟩ | ⟨ds, rfl, hl⟩
  · cases e
  · injection e with e
    rw [e] at hl
    exact hl rfl
theorem bits_count : ∀ {ns : List Int}, Bits ns → ((ns.count 1 : Nat) : Int) = ns.sum
  | [], _ => rfl
  | x :: ns, h => by
    have ih := bits_count (ns := ns) fun b m => h b (List.mem_cons_of_mem _ m)
    rw [List.sum_cons, List.count_cons, Int.natCast_add, ih]
    rcases h x List.mem_cons_self with e | e <;> subst e <;> simp <;> omega
theorem two_sum {x y : Int} (hx : x = 0 ∨ x = 1) (hy : y = 0 ∨ y = 1) : x * y = if x + y = 2 then 1 else 0 := by
  rcases hx with rfl | rfl <;> rcases hy with rfl | rfl <;> rfl
theorem dot_take {xs ys : List Int} {i : Nat} (hl : xs.length = ys.length) (hi : i < xs.length) : dot (xs.take (i + 1)) (ys.take (i + 1)) = dot (xs.take i) (ys.take i) + xs[i] * ys[i] := by
  rw [List.take_succ_eq_append_getElem hi, List.take_succ_eq_append_getElem (by omega), dot_app (by rw [List.length_take, List.length_take, hl]), dot_cons, dot_nil]
  omega
theorem p_law_due (cs post) (h : sp_law_due cs post) : runD 10 b_law_due cs post := by
  obtain ⟨n, a, b, met, d, d', rfl, hn, hn0, k, q⟩ := h
  have hbig := line_big
  have no : ¬ GoodT n a b met d' → post (.sh (.bool false)) [] := fun h => q false ⟨fun e => (nomatch e), fun e => absurd e h⟩
  refine nrm_in ?_
  cases k with
  | lst ds => exact ⟨rfl, no (not_thing (.inl ⟨ds, rfl⟩))⟩
  | tup ds hd =>
    refine ⟨rfl, ?_⟩
    show _root_.ite _ _ _
    exact ifN (p := ((ds.length : Nat) : Int) = 2) (fun _ => no (not_thing (.inr ⟨ds, rfl, hd⟩))) (fun he => absurd (by omega) hd)
  | @pair x y x' y' k1 k2 =>
    show sSeq _ _ _ [_, _, _, _, _, _, _, _, _, _]
    refine seq_on [] (fun cs => cs = []) (fun N hN => ⟨rfl, hN [] rfl⟩) ?_
    rintro cs rfl
    show sSeq _ _ _ [some (.sh (.int n)), some (.sh (.int a)), some (.sh (.int b)), some (.sh (.int met)), some (.sh (.tuple [x, y])), none, none, none, none, none]
    refine seq_on [5] (fun cs => cs = [some (.sh y)] ∧ ROk n x' ∧ ROk n y') (fun N hN => ?_) ?_
    · show loopD (gNm 5) dueBody [x, y] _ _
      refine nrm_in ?_
      refine due_row k1 (fun ok1 => ?_) (fun h => no (not_two fun z => h z.1))
      refine nrm_in ?_
      exact due_row k2 (fun ok2 => hN [_] ⟨rfl, ok1, ok2⟩) (fun h => no (not_two fun z => h z.2))
    rintro cs ⟨rfl, ok1, ok2⟩
    cases k1 with
    | bad _ _ hb => exact absurd ok1 (bad_row hb)
    | tg xs hx =>
      cases k2 with
      | bad _ _ hb => exact absurd ok2 (bad_row hb)
      | tg ys hy =>
        obtain ⟨xs', e, lx, bx⟩ := ok1
        injection e with e
        have e := ints_inj e
        subst e
        obtain ⟨ys', e, ly, bw⟩ := ok2
        injection e with e
        have e := ints_inj e
        subst e
        show sSeq _ _ _ [_, _, _, _, _, _, _, _, _, _]
        refine seq_on [6, 7] (fun cs => cs = [some (.sh (tgT xs)), some (.sh (tgT ys))]) (fun N hN => ⟨rfl, nrm_in (nrm_in (hN [_, _] rfl))⟩) ?_
        rintro cs rfl
        have hG : ∀ v : Bool, (v = true ↔ (xs.sum = a ∧ ys.sum = b ∧ dot xs ys = met)) → post (.sh (.bool v)) [] := fun v hv => q v (hv.trans ⟨fun ⟨h1, h2, h3⟩ => ⟨xs, ys, rfl, lx, ly, bx, bw, h1, h2, h3⟩, fun ⟨us, vs, e, G⟩ => by
          injection e with e
          injection e with e1 e
          injection e with e2 _
          injection e1 with e1
          injection e2 with e2
          rw [ints_inj e1, ints_inj e2]
          exact ⟨G.sx, G.sy, G.d⟩⟩)
        have cx := bits_count bx
        have cy := bits_count bw
        show sSeq _ _ _ [some (.sh (.int n)), some (.sh (.int a)), some (.sh (.int b)), some (.sh (.int met)), some (.sh (.tuple [tgT xs, tgT ys])), some (.sh (tgT ys)), some (.sh (tgT xs)), some (.sh (tgT ys)), none, none]
        refine seq_on [] (fun cs => cs = [] ∧ xs.sum = a ∧ ys.sum = b) (fun N hN => ?_) ?_
        · refine ⟨xs, rfl, 1, rfl, ?_⟩
          refine ifN (p := ((xs.count 1 : Nat) : Int) = a) (fun hne => hG false ⟨fun e => (nomatch e), fun h => absurd (cx.trans h.1) hne⟩) (fun he => ?_)
          refine ⟨ys, rfl, 1, rfl, ?_⟩
          exact ifN (p := ((ys.count 1 : Nat) : Int) = b) (fun hne => hG false ⟨fun e => (nomatch e), fun h => absurd (cy.trans h.2.1) hne⟩) (fun he2 => hN [] ⟨rfl, by omega, by omega⟩)
        rintro cs ⟨rfl, h1, h2⟩
        show sRet _ _ [some (.sh (.int n)), some (.sh (.int a)), some (.sh (.int b)), some (.sh (.int met)), some (.sh (.tuple [tgT xs, tgT ys])), some (.sh (tgT ys)), some (.sh (tgT xs)), some (.sh (tgT ys)), none, none]
        refine ⟨by omega, by omega, by rw [rngD_len]; omega, ?_⟩
        refine rng_comp 0 n.toNat (fun i acc r => ((acc.length : Nat) : Int) = dot (xs.take i) (ys.take i) ∧ r = [some (.sh (.int n)), some (.sh (.int a)), some (.sh (.int b)), some (.sh (.int met)), some (.sh (.tuple [tgT xs, tgT ys])), some (.sh (tgT ys)), some (.sh (tgT xs)), some (.sh (tgT ys)), none, none]) ?_ ?_ _ ⟨rfl, rfl⟩
        · rintro i hi acc r N ⟨hacc, rfl⟩ hN
          have ix : i < xs.length := by omega
          have iy : i < ys.length := by omega
          rw [Int.zero_add]
          have ax : atI (xs.map PyData.int) ((i : Nat) : Int) = some (.int xs[i]) := by
            rw [at_in (by omega) (by rw [List.length_map]; omega)]
            simp
          have ay : atI (ys.map PyData.int) ((i : Nat) : Int) = some (.int ys[i]) := by
            rw [at_in (by omega) (by rw [List.length_map]; omega)]
            simp
          have dt := dot_take (xs := xs) (ys := ys) (i := i) (by omega) ix
          rw [two_sum (bx _ (List.getElem_mem ix)) (bw _ (List.getElem_mem iy))] at dt
          refine ⟨_, .tg xs, optD_of ax ⟨_, .tg ys, optD_of ay ?_⟩⟩
          refine ifD (p := xs[i] + ys[i] = 2) (fun he => ?_) (fun he => ?_)
          · rw [if_pos he] at dt
            exact hN _ _ ⟨by rw [List.length_append, Int.natCast_add, hacc, dt]; rfl, rfl⟩
          · rw [if_neg he, Int.add_zero] at dt
            exact hN _ _ ⟨by rw [hacc, dt], rfl⟩
        · rintro acc r ⟨hacc, rfl⟩
          rw [List.take_of_length_le (by omega), List.take_of_length_le (by omega)] at hacc
          refine hG (decide (((acc.length : Nat) : Int) = met)) ?_
          rw [decide_eq_true_eq]
          exact ⟨fun e => ⟨h1, h2, hacc.symm.trans e⟩, fun e => hacc.trans e.2.2⟩
def sp_shows_rows : DSp := fun cs post => ∃ (n a b met : Int) (d d' : D), cs = [.sh (.int n), .sh (.int a), .sh (.int b), .sh (.int met), .sh d'] ∧ 1 ≤ n ∧ n ≤ 4096 ∧ ThingK d d' ∧ ∀ v : Bool, (v = true ↔ GoodT n a b met d') → post (.sh (.bool v)) []
theorem RowK.clean {x x' : D} (k : RowK x x') : CleanR x' := by
  cases k with
  | tg ns _ => exact ⟨rfl, fun xs e x hx => by
      injection e with e
      rw [← e] at hx
      obtain ⟨i, _, rfl⟩ := List.mem_map.1 hx
      rfl⟩
  | bad d hc _ => exact hc
theorem row_is {x x' : D} (k : RowK x x') : isRow x' = true → ∃ ns, x' = bD ns ∧ Bits ns ∧ 1 ≤ ns.length ∧ ns.length ≤ 4096 := by
  intro h
  cases k with
  | tg ns hl =>
    have h' : (decide (1 ≤ (ns.map PyData.int).length) && (decide ((ns.map PyData.int).length ≤ 4096) && (ns.map PyData.int).all isBit)) = true := h
    rw [Bool.and_eq_true, Bool.and_eq_true, decide_eq_true_eq, decide_eq_true_eq, bits_of_all, List.length_map] at h'
    exact ⟨ns, rfl, h'.2.2, h'.1, h'.2.1⟩
  | bad d hc hb =>
    cases x with
    | tuple xs =>
      have h' : (decide (1 ≤ xs.length) && (decide (xs.length ≤ 4096) && xs.all isBit)) = true := h
      rw [Bool.and_eq_true, Bool.and_eq_true] at h'
      obtain ⟨_, z, hz, hf⟩ := hb xs rfl
      rw [List.all_eq_true.1 h'.2.2 z hz] at hf
      cases hf
    | _ => cases h
theorem rok_is {n : Int} {x : D} (h1 : 1 ≤ n) (h2 : n ≤ 4096) (h : ROk n x) : isRow x = true := by
  obtain ⟨ns, rfl, l, hb⟩ := h
  show (decide (1 ≤ (ns.map PyData.int).length) && (decide ((ns.map PyData.int).length ≤ 4096) && (ns.map PyData.int).all isBit)) = true
  rw [Bool.and_eq_true, Bool.and_eq_true, decide_eq_true_eq, decide_eq_true_eq, bits_of_all, List.length_map]
  exact ⟨by omega, by omega, hb⟩
theorem p_shows_rows (cs post) (h : sp_shows_rows cs post) : runD 7 (b_shows_rows sp_is_row sp_ones sp_overlap) cs post := by
  obtain ⟨n, a, b, met, d, d', rfl, hn1, hn2, k, q⟩ := h
  have no : ¬ GoodT n a b met d' → post (.sh (.bool false)) [] := fun h => q false ⟨fun e => (nomatch e), fun e => absurd e h⟩
  refine nrm_in ?_
  cases k with
  | lst ds => exact ⟨rfl, no (not_thing (.inl ⟨ds, rfl⟩))⟩
  | tup ds hd =>
    refine ⟨rfl, ?_⟩
    show _root_.ite _ _ _
    exact ifN (p := ((ds.length : Nat) : Int) = 2) (fun _ => no (not_thing (.inr ⟨ds, rfl, hd⟩))) (fun he => absurd (by omega) hd)
  | @pair x y x' y' k1 k2 =>
    show sSeq _ _ _ [_, _, _, _, _, _, _]
    refine seq_on [] (fun cs => cs = [] ∧ isRow x' = true ∧ isRow y' = true) (fun N hN => ?_) ?_
    · refine ⟨rfl, rfl, .nil, x', rfl, k1.clean, nrm_in ?_⟩
      cases e1 : isRow x' with
      | false => exact no (not_two fun z => by rw [rok_is hn1 hn2 z.1] at e1; cases e1)
      | true =>
        refine ⟨rfl, .nil, y', rfl, k2.clean, nrm_in ?_⟩
        cases e2 : isRow y' with
        | false => exact no (not_two fun z => by rw [rok_is hn1 hn2 z.2] at e2; cases e2)
        | true => exact hN [] ⟨rfl, e1, e2⟩
    rintro cs ⟨rfl, e1, e2⟩
    obtain ⟨xs, rfl, bx, lx1, lx2⟩ := row_is k1 e1
    obtain ⟨ys, rfl, bw, ly1, ly2⟩ := row_is k2 e2
    show sSeq _ _ _ [_, _, _, _, _, _, _]
    refine seq_on [5, 6] (fun cs => cs = [some (.sh (bD xs)), some (.sh (bD ys))]) (fun N hN => ⟨rfl, nrm_in (nrm_in (hN [_, _] rfl))⟩) ?_
    rintro cs rfl
    show sSeq _ _ _ [_, _, _, _, _, _, _]
    refine seq_on [] (fun cs => cs = [] ∧ (xs.length : Int) = n ∧ (ys.length : Int) = n) (fun N hN => ?_) ?_
    · refine ifN (p := (((xs.map PyData.int).length : Nat) : Int) = n) (fun hne => no (not_two fun z => ?_)) (fun h1 => ?_)
      · obtain ⟨us, e, l, _⟩ := z.1
        injection e with e
        rw [e, List.length_map] at hne
        exact hne l
      refine ifN (p := (((ys.map PyData.int).length : Nat) : Int) = n) (fun hne => no (not_two fun z => ?_)) (fun h2 => ?_)
      · obtain ⟨us, e, l, _⟩ := z.2
        injection e with e
        rw [e, List.length_map] at hne
        exact hne l
      rw [List.length_map] at h1 h2
      exact hN [] ⟨rfl, h1, h2⟩
    rintro cs ⟨rfl, lx, ly⟩
    have hG : ∀ v : Bool, (v = true ↔ (xs.sum = a ∧ ys.sum = b ∧ dot xs ys = met)) → post (.sh (.bool v)) [] := fun v hv => q v (hv.trans ⟨fun ⟨h1, h2, h3⟩ => ⟨xs, ys, rfl, lx, ly, bx, bw, h1, h2, h3⟩, fun ⟨us, vs, e, G⟩ => by
      injection e with e
      injection e with e1 e
      injection e with e2 _
      injection e1 with e1
      injection e2 with e2
      rw [ints_inj e1, ints_inj e2]
      exact ⟨G.sx, G.sy, G.d⟩⟩)
    show sRet _ _ [_, _, _, _, _, _, _]
    refine ⟨rfl, .nil, xs, rfl, nrm_in ?_⟩
    refine ifD (p := xs.sum = a) (fun h1 => ?_) (fun h1 => hG false ⟨fun e => (nomatch e), fun h => absurd h.1 h1⟩)
    refine ⟨rfl, .nil, ys, rfl, nrm_in ?_⟩
    refine ifD (p := ys.sum = b) (fun h2 => ?_) (fun h2 => hG false ⟨fun e => (nomatch e), fun h => absurd h.2.1 h2⟩)
    refine ⟨rfl, .nil, xs, ys, rfl, bx, bw, by omega, by omega, nrm_in ?_⟩
    refine hG (decide (dot xs ys = met)) ?_
    rw [decide_eq_true_eq]
    exact ⟨fun e => ⟨h1, h2, e⟩, fun e => e.2.2⟩
theorem perm_sum {α : Type} (f : α → Int) {l l' : List α} (h : l.Perm l') : (l.map f).sum = (l'.map f).sum := by
  induction h with
  | nil => rfl
  | cons x _ ih => rw [List.map_cons, List.map_cons, List.sum_cons, List.sum_cons, ih]
  | swap x y l => simp only [List.map_cons, List.sum_cons]; omega
  | trans _ _ i1 i2 => exact i1.trans i2
abbrev Pr := Int × Int
def pD (p : Pr) : D := .tuple [.int p.1, .int p.2]
theorem dot_fs : ∀ ps : List Pr, dot (ps.map (·.1)) (ps.map (·.2)) = (ps.map fun p => p.1 * p.2).sum
  | [] => rfl
  | p :: ps => by rw [List.map_cons, List.map_cons, dot_cons, dot_fs ps, List.map_cons, List.sum_cons]
def GoodP (n a b met : Int) (ps : List Pr) : Prop := Good n a b met (ps.map (·.1)) (ps.map (·.2))
theorem good_perm {n a b met : Int} {ps qs : List Pr} (h : ps.Perm qs) (G : GoodP n a b met ps) : GoodP n a b met qs := by
  have hl := h.length_eq
  refine ⟨?_, ?_, ?_, ?_, ?_, ?_, ?_⟩
  · have := G.lx
    rw [List.length_map] at this ⊢
    omega
  · have := G.ly
    rw [List.length_map] at this ⊢
    omega
  · intro x hx
    obtain ⟨p, hp, rfl⟩ := List.mem_map.1 hx
    exact G.bx _ (List.mem_map_of_mem (f := fun p : Pr => p.1) (h.mem_iff.2 hp))
  · intro x hx
    obtain ⟨p, hp, rfl⟩ := List.mem_map.1 hx
    exact G.bw _ (List.mem_map_of_mem (f := fun p : Pr => p.2) (h.mem_iff.2 hp))
  · rw [← perm_sum _ h]; exact G.sx
  · rw [← perm_sum _ h]; exact G.sy
  · rw [dot_fs, ← perm_sum _ h, ← dot_fs]; exact G.d
def rpP (k : Int) (p : Pr) : List Pr := List.replicate k.toNat p
def kinds (n a b met : Int) : List Pr := ((rpP met (1, 1) ++ rpP (a - met) (1, 0)) ++ rpP (b - met) (0, 1)) ++ rpP (n - a - b + met) (0, 0)
theorem good_kinds {n a b met : Int} (I : In n a b) (R : inR n a b met) : GoodP n a b met (kinds n a b met) := by
  obtain ⟨r1, r2, r3, r4⟩ := low_le R
  obtain ⟨_, _, _, _, _, _⟩ := I
  obtain ⟨A, rfl⟩ := Int.eq_ofNat_of_zero_le (show 0 ≤ a by omega)
  obtain ⟨B, rfl⟩ := Int.eq_ofNat_of_zero_le (show 0 ≤ b by omega)
  obtain ⟨M, rfl⟩ := Int.eq_ofNat_of_zero_le r1
  obtain ⟨N, rfl⟩ := Int.eq_ofNat_of_zero_le (show 0 ≤ n by omega)
  have e2 : ((A : Int) - M).toNat = A - M := by omega
  have e3 : ((B : Int) - M).toNat = B - M := by omega
  have e4 : ((N : Int) - A - B + M).toNat = N + M - A - B := by omega
  have o1 : (kinds (N : Int) A B M).map (·.1) = ((List.replicate M (1 : Int) ++ List.replicate (A - M) 1) ++ List.replicate (B - M) 0) ++ List.replicate (N + M - A - B) 0 := by
    unfold kinds rpP
    simp only [List.map_append, List.map_replicate, Int.toNat_natCast, e2, e3, e4]
  have o2 : (kinds (N : Int) A B M).map (·.2) = ((List.replicate M (1 : Int) ++ List.replicate (A - M) 0) ++ List.replicate (B - M) 1) ++ List.replicate (N + M - A - B) 0 := by
    unfold kinds rpP
    simp only [List.map_append, List.map_replicate, Int.toNat_natCast, e2, e3, e4]
  unfold GoodP
  rw [o1, o2]
  refine ⟨?_, ?_, ?_, ?_, ?_, ?_, ?_⟩
  · simp only [List.length_append, List.length_replicate]; omega
  · simp only [List.length_append, List.length_replicate]; omega
  · exact (((rep_bits (.inr rfl)).app (rep_bits (.inr rfl))).app (rep_bits (.inl rfl))).app (rep_bits (.inl rfl))
  · exact (((rep_bits (.inr rfl)).app (rep_bits (.inl rfl))).app (rep_bits (.inr rfl))).app (rep_bits (.inl rfl))
  · rw [List.sum_append, List.sum_append, List.sum_append, sum_rep, sum_rep, sum_rep, sum_rep]; omega
  · rw [List.sum_append, List.sum_append, List.sum_append, sum_rep, sum_rep, sum_rep, sum_rep]; omega
  · rw [dot_app (by simp only [List.length_append, List.length_replicate]), dot_app (by simp only [List.length_append, List.length_replicate]), dot_app (by simp only [List.length_replicate]), dot_rep, dot_rep, dot_rep, dot_rep]
    omega
theorem kinds_len {n a b met : Int} (I : In n a b) (R : inR n a b met) : ((kinds n a b met).length : Int) = n := by
  have := (good_kinds I R).lx
  rw [List.length_map] at this
  exact this
theorem rep_flat {α : Type} (x : α) (k : Nat) : (List.replicate k [x]).flatten = List.replicate k x := by
  induction k with
  | zero => rfl
  | succ k ih => rw [List.replicate_succ, List.flatten_cons, ih]; rfl
theorem T1.mulL {r : DSt} {te : DTE} {x y k : Int} (h : T1 te r (.int k)) (h0 : -20000 ≤ k) (h1 : k ≤ 20000) : T1 (eOp2 pMul (eFrz (oLst (aCons (eTup (aCons (eC (.int x)) (aCons (eC (.int y)) aNil))) aNil))) te) r (.list ((rpP k (x, y)).map pD)) := fun q hq => ⟨sz2, sz1, h _ ⟨⟨by omega, by omega, by
  have := line_big
  show 1 * _ ≤ _
  omega⟩, by
  rw [rep_flat]
  unfold rpP at hq
  rw [List.map_replicate] at hq
  exact hq⟩⟩
theorem T1.catL {r : DSt} {ta tb : DTE} {xs ys : List Pr} (ha : T1 ta r (.list (xs.map pD))) (hb : T1 tb r (.list (ys.map pD))) (hl : xs.length + ys.length ≤ 100000) : T1 (eOp2 pAdd ta tb) r (.list ((xs ++ ys).map pD)) := fun q hq => ha _ (hb _ ⟨by rw [List.length_map, List.length_map]; have := line_big; omega, by rw [← List.map_append]; exact hq⟩)
theorem rpP_len (k : Int) (p : Pr) : (rpP k p).length = k.toNat := List.length_replicate
theorem ins_perm {α : Type} (l : List α) (x : α) (i : Nat) : (l.take i ++ [x] ++ l.drop i).Perm (l ++ [x]) := by
  have h1 : (l.take i ++ [x] ++ l.drop i).Perm (l.take i ++ (l.drop i ++ [x])) := by
    rw [List.append_assoc]
    exact (List.perm_append_comm).append_left _
  rw [← List.append_assoc, List.take_append_drop] at h1
  exact h1
def sp_law_made : DSp := fun cs post => ∃ (m : M) (B n a b met : Int), cs = [.io m, .sh (.int n), .sh (.int a), .sh (.int b), .sh (.int met)] ∧ Box B m ∧ B + 500 < farB ∧ In n a b ∧ inR n a b met ∧ ∀ xs ys m', Good n a b met xs ys → Box (B + 410) m' → post (.sh (pairT xs ys)) [m']
theorem p_law_made (cs post) (h : sp_law_made cs post) : runD 9 (b_law_made sp_take) cs post := by
  obtain ⟨m, B, n, a, b, met, rfl, bm, hB, I, R, q⟩ := h
  have hf : farB = 1099511627776 := by decide
  have hbig := line_big
  have I2 := I
  obtain ⟨i1, i2, i3, i4, i5, i6⟩ := I2
  obtain ⟨r1, r2, r3, r4⟩ := low_le R
  have hk := kinds_len I R
  have G := good_kinds I R
  refine nrm_in ?_
  show sSeq _ _ _ [_, _, _, _, _, _, _, _, _]
  refine seq_on [5] (fun cs => cs = [some (.sh (.list ((kinds n a b met).map pD)))]) (fun N hN => ?_) ?_
  · exact T1.catL (T1.catL (T1.catL (T1.mulL (T1.v rfl) (by omega) (by omega)) (T1.mulL (T1.sub (T1.v rfl) (T1.v rfl)) (by omega) (by omega)) (by rw [rpP_len, rpP_len]; omega)) (T1.mulL (T1.sub (T1.v rfl) (T1.v rfl)) (by omega) (by omega)) (by rw [List.length_append, rpP_len, rpP_len, rpP_len]; omega))
      (T1.mulL (T1.add (T1.sub (T1.sub (T1.v rfl) (T1.v rfl)) (T1.v rfl)) (T1.v rfl)) (by omega) (by omega)) (by rw [List.length_append, List.length_append, rpP_len, rpP_len, rpP_len, rpP_len]; omega) _ (nrm_in (hN [_] rfl))
  rintro cs rfl
  generalize kinds n a b met = ks at hk G
  show sSeq _ _ _ [some (.io m), some (.sh (.int n)), some (.sh (.int a)), some (.sh (.int b)), some (.sh (.int met)), some (.sh (.list (ks.map pD))), none, none, none]
  refine seq_on [0, 6, 7] (fun cs => ∃ (m : M) (at_ : Nat), cs = [some (.io m), some (.sh (.int (at_ : Nat))), some (.own (.lst []))] ∧ Box (B + 1) m) (fun N hN => ?_) ?_
  · refine ⟨rfl, rfl, nd1 0, m, B, n, rfl, bm, by omega, by omega, by omega, fun v m1 a1 z1 b1 => ?_⟩
    obtain ⟨v, rfl⟩ := Int.eq_ofNat_of_zero_le a1
    exact ⟨sz0, rfl, nrm_in (hN [_, _, _] ⟨m1, v, rfl, b1⟩)⟩
  rintro cs ⟨m1, at_, rfl, b1⟩
  show sSeq _ _ _ [some (.io m1), some (.sh (.int n)), some (.sh (.int a)), some (.sh (.int b)), some (.sh (.int met)), some (.sh (.list (ks.map pD))), some (.sh (.int (at_ : Nat))), some (.own (.lst [])), none]
  refine seq_on [0, 7, 8] (fun cs => ∃ (m : M) (ps : List Pr) (c8 : Option Cell), cs = [some (.io m), some (.own (.lst (ps.map pD))), c8] ∧ Box (B + 402) m ∧ (n < 401 → ps.Perm ks)) (fun N hN => ?_) ?_
  · have key : ∀ (E2 : DEnds) (k : Int) (K : List Pr), E2.nx = N → (List.replicate k.toNat (ks.map pD)).flatten = K.map pD → 0 ≤ k → k ≤ 1 → (n < 401 → K = ks) → K.length ≤ 400 →
        loopD (gNm 8) (sDrop (eMutL 7 pIns (aCons (eCallF 2 sp_take (cIo 0 (cCons (eOp2 pAdd (eLenV 7) (eC (.int 1))) cNil))) (aCons (eVar 8) aNil)))) ((List.replicate k.toNat (ks.map pD)).flatten) E2 [some (.io m1), some (.sh (.int n)), some (.sh (.int a)), some (.sh (.int b)), some (.sh (.int met)), some (.sh (.list (ks.map pD))), some (.sh (.int (at_ : Nat))), some (.own (.lst [])), none] := by
      intro E2 k K hE2 e _ _ hK hKl
      rw [e]
      refine map_on K pD [0, 7, 8] _ (fun i cs => ∃ (m : M) (ps : List Pr) (c8 : Option Cell), cs = [some (.io m), some (.own (.lst (ps.map pD))), c8] ∧ Box (B + 1 + i) m ∧ ps.Perm (K.take i)) ?_ ?_ ⟨m1, [], _, rfl, b1.le (by omega), .nil⟩
      · rintro i hi cs N2 ⟨m2, ps, c8, rfl, b2, pp⟩ hN2
        have pl : ps.length = i := by rw [pp.length_eq, List.length_take]; omega
        refine nrm_in ?_
        refine ⟨rfl, rfl, rfl, rfl, nd1 0, m2, _, _, rfl, b2, by omega, by rw [List.length_map]; omega, by rw [List.length_map]; omega, fun v m3 a3 z3 b3 => ?_⟩
        rw [List.length_map] at z3
        obtain ⟨v, rfl⟩ := Int.eq_ofNat_of_zero_le a3
        refine ⟨by rw [List.length_map]; omega, by omega, by omega, ?_⟩
        have e2 : (ps.map pD).take ((v : Nat) : Int).toNat ++ [pD K[i]] ++ (ps.map pD).drop ((v : Nat) : Int).toNat = (ps.take v ++ [K[i]] ++ ps.drop v).map pD := by
          rw [Int.toNat_natCast, List.map_append, List.map_append, List.map_take, List.map_drop]
          rfl
        rw [e2]
        refine hN2 [_, _, _] ⟨m3, _, _, rfl, b3.le (by omega), ?_⟩
        rw [List.take_succ_eq_append_getElem hi]
        exact (ins_perm ps K[i] v).trans (pp.append_right _)
      · rintro cs ⟨m2, ps, c8, rfl, b2, pp⟩
        rw [List.take_length] at pp
        rw [hE2]
        exact hN [_, _, _] ⟨m2, ps, c8, rfl, b2.le (by omega), fun h => by rw [hK h] at pp; exact pp⟩
    obtain ⟨kk, hkk, e⟩ : ∃ kk : Int, kk = (if decide (n < 401) = true then (1 : Int) else 0) ∧ (kk = 1 ∧ n < 401 ∨ kk = 0 ∧ ¬ n < 401) := by
      refine ⟨_, rfl, ?_⟩
      by_cases h : n < 401
      · rw [decide_eq_true h]; exact .inl ⟨rfl, h⟩
      · rw [decide_eq_false h]; exact .inr ⟨rfl, h⟩
    show (-(2 ^ 63) ≤ (if decide (n < 401) = true then (1 : Int) else 0) ∧ (if decide (n < 401) = true then (1 : Int) else 0) < 2 ^ 63 ∧ (ks.map pD).length * (if decide (n < 401) = true then (1 : Int) else 0).toNat ≤ sizeLine) ∧ loopD _ _ ((List.replicate (if decide (n < 401) = true then (1 : Int) else 0).toNat (ks.map pD)).flatten) _ _
    rw [← hkk]
    rcases e with ⟨e, h⟩ | ⟨e, h⟩
    · refine ⟨⟨by omega, by omega, ?_⟩, key _ kk ks rfl (by rw [e]; exact rep_one _) (by omega) (by omega) (fun _ => rfl) (by omega)⟩
      rw [e, List.length_map]
      show ks.length * 1 ≤ _
      omega
    · refine ⟨⟨by omega, by omega, ?_⟩, key _ kk [] rfl (by rw [e]; rfl) (by omega) (by omega) (fun h2 => absurd h2 h) (by decide)⟩
      rw [e, List.length_map]
      show ks.length * 0 ≤ _
      omega
  rintro cs ⟨m2, ps, c8, rfl, b2, pp⟩
  show sSeq _ _ _ [some (.io m2), some (.sh (.int n)), some (.sh (.int a)), some (.sh (.int b)), some (.sh (.int met)), some (.sh (.list (ks.map pD))), some (.sh (.int (at_ : Nat))), some (.own (.lst (ps.map pD))), c8]
  refine seq_on [7] (fun cs => ∃ qs : List Pr, cs = [some (.sh (.list (qs.map pD)))] ∧ ks.Perm qs) (fun N hN => ?_) ?_
  · refine ifD (p := n < 401) (fun h => nrm_in (hN [_] ⟨ps, rfl, (pp h).symm⟩)) (fun h => ?_)
    have e1 : cutD (ks.map pD) (some ((at_ : Nat) : Int)) none = (ks.drop at_).map pD := by rw [cut_from _ _ (by omega), Int.toNat_natCast, List.map_drop]
    have e2 : cutD (ks.map pD) none (some ((at_ : Nat) : Int)) = (ks.take at_).map pD := by rw [cut_hi _ _ (by omega), Int.toNat_natCast, List.map_take]
    show (cutD (ks.map pD) (some ((at_ : Nat) : Int)) none).length + (cutD (ks.map pD) none (some ((at_ : Nat) : Int))).length ≤ sizeLine ∧ _
    refine ⟨by rw [e1, e2, List.length_map, List.length_map, List.length_drop, List.length_take]; omega, nrm_in ?_⟩
    rw [e1, e2, ← List.map_append]
    refine hN [_] ⟨_, rfl, ?_⟩
    have := List.perm_append_comm (l₁ := ks.take at_) (l₂ := ks.drop at_)
    rw [List.take_append_drop] at this
    exact this
  rintro cs ⟨qs, rfl, pq⟩
  have G2 := good_perm pq G
  have ql := pq.length_eq
  show sRet _ _ [some (.io m2), some (.sh (.int n)), some (.sh (.int a)), some (.sh (.int b)), some (.sh (.int met)), some (.sh (.list (ks.map pD))), some (.sh (.int (at_ : Nat))), some (.sh (.list (qs.map pD))), c8]
  refine ⟨by rw [List.length_map]; omega, ?_⟩
  refine comp_mapA qs pD [some (.io m2), some (.sh (.int n)), some (.sh (.int a)), some (.sh (.int b)), some (.sh (.int met)), some (.sh (.list (ks.map pD))), some (.sh (.int (at_ : Nat))), some (.sh (.list (qs.map pD))), none] (fun p => .int p.1) (fun p _ q2 h2 => optD_of rfl (h2 _ rfl)) ?_
  refine .inl ⟨qs.map (·.1), by rw [List.map_map]; rfl, ?_⟩
  refine ⟨by rw [List.length_map]; omega, ?_⟩
  refine comp_mapA qs pD [some (.io m2), some (.sh (.int n)), some (.sh (.int a)), some (.sh (.int b)), some (.sh (.int met)), some (.sh (.list (ks.map pD))), some (.sh (.int (at_ : Nat))), some (.sh (.list (qs.map pD))), none] (fun p => .int p.2) (fun p _ q2 h2 => optD_of rfl (h2 _ rfl)) ?_
  refine .inl ⟨qs.map (·.2), by rw [List.map_map]; rfl, ?_⟩
  exact ⟨sz2, q _ _ m2 G2 (b2.le (by omega))⟩
def RowDs (ds : List D) : Prop := ds.length ≤ 10000 ∧ (∀ x ∈ ds, notDict x = true) ∧ ((∃ ns : List Int, ds = ns.map PyData.int) ∨ ∃ x ∈ ds, isBit x = false)
theorem rowDs_ints {ns : List Int} (h : ns.length ≤ 10000) : RowDs (ns.map PyData.int) := ⟨by rw [List.length_map]; exact h, fun x hx => by
  obtain ⟨i, _, rfl⟩ := List.mem_map.1 hx
  rfl, .inl ⟨ns, rfl⟩⟩
theorem rowDs_set {zs : List Int} {j : Nat} {d : D} (hl : zs.length ≤ 10000) (hj : j < zs.length) (hd : (∃ v, d = .int v) ∨ (notDict d = true ∧ isBit d = false)) : RowDs ((zs.map PyData.int).set j d) := by
  rcases hd with ⟨v, rfl⟩ | ⟨h1, h2⟩
  · have e : (zs.map PyData.int).set j (.int v) = (zs.set j v).map PyData.int := by rw [List.map_set]
    rw [e]
    exact rowDs_ints (by rw [List.length_set]; exact hl)
  · refine ⟨by rw [List.length_set, List.length_map]; exact hl, fun x hx => ?_, .inr ⟨d, ?_, h2⟩⟩
    · rcases List.mem_or_eq_of_mem_set hx with h | rfl
      · obtain ⟨i, _, rfl⟩ := List.mem_map.1 h
        rfl
      · exact h1
    · exact List.mem_iff_getElem.2 ⟨j, by rw [List.length_set, List.length_map]; exact hj, by simp⟩
theorem rowK_lst {ds : List D} : RowK (.list ds) (.list ds) := .bad _ ⟨rfl, fun xs e => by cases e⟩ fun xs e => by cases e
theorem sz7' : 7 ≤ sizeLine := by have := line_big; omega
theorem at_iz {zs : List Int} {i : Nat} (h : i < zs.length) : atI (zs.map PyData.int) ((i : Nat) : Int) = some (.int zs[i]) := by
  rw [at_in (by omega) (by rw [List.length_map]; omega)]
  simp
theorem cut_ints (zs : List Int) (lo hi : Option Int) : DL.cutD (zs.map PyData.int) lo hi = (DL.cutD zs lo hi).map PyData.int := by
  unfold DL.cutD
  simp [List.map_take, List.map_drop]
def odd7 : List D := [.int 2, .none, .str "1", .int (-1), .list [], .list [.int 1], .tuple [.list []]]
theorem odd7_ok : ∀ d ∈ odd7, (∃ v, d = .int v) ∨ (notDict d = true ∧ isBit d = false) := fun d hd => by
  simp only [odd7, List.mem_cons, List.not_mem_nil, or_false] at hd
  rcases hd with rfl | rfl | rfl | rfl | rfl | rfl | rfl
  · exact .inl ⟨_, rfl⟩
  · exact .inr ⟨rfl, rfl⟩
  · exact .inr ⟨rfl, rfl⟩
  · exact .inl ⟨_, rfl⟩
  · exact .inr ⟨rfl, rfl⟩
  · exact .inr ⟨rfl, rfl⟩
  · exact .inr ⟨rfl, rfl⟩
theorem cut_most {α : Type} (xs : List α) (lo hi : Option Int) : (DL.cutD xs lo hi).length ≤ xs.length := by
  unfold DL.cutD
  rw [List.length_take, List.length_drop]
  omega
def sp_law_otherwise : DSp := fun cs post => ∃ (m : M) (B : Int) (xs ys : List Int), cs = [.io m, .sh (pairT xs ys)] ∧ Box B m ∧ B + 50 < farB ∧ 1 ≤ xs.length ∧ xs.length ≤ 4096 ∧ ys.length = xs.length ∧ ∀ d d' m', ThingK d d' → Box (B + 6) m' → post (.sh d) [m']
theorem p_law_otherwise (cs post) (h : sp_law_otherwise cs post) : runD 7 (b_law_otherwise sp_take) cs post := by
  obtain ⟨m, B, xs, ys, rfl, bm, hB, hl1, hl2, hly, q⟩ := h
  have hf : farB = 1099511627776 := by decide
  have hbig := line_big
  have kx : RowK (tgT xs) (bD xs) := .tg xs (by omega)
  have ky : RowK (tgT ys) (bD ys) := .tg ys (by omega)
  refine nrm_in ?_
  show sSeq _ _ _ [_, _, _, _, _, _, _]
  refine seq_on [0, 2, 3] (fun cs => ∃ (m : M) (way w : Int), cs = [some (.io m), some (.sh (.int way)), some (.sh (.int w))] ∧ Box (B + 2) m ∧ 0 ≤ way ∧ way < 10 ∧ 0 ≤ w ∧ w < 2) (fun N hN => ?_) ?_
  · refine ⟨rfl, rfl, nd1 0, m, B, 10, rfl, bm, by omega, by decide, by decide, fun way m1 a1 z1 b1 => ?_⟩
    refine ⟨rfl, rfl, nd1 0, m1, _, 2, rfl, b1, by omega, by decide, by decide, fun w m2 a2 z2 b2 => nrm_in (hN [_, _, _] ⟨m2, way, w, rfl, b2.le (by omega), a1, z1, a2, z2⟩)⟩
  rintro cs ⟨m2, way, w, rfl, b2, hw0, hw1, hv0, hv1⟩
  obtain ⟨zs, us, kz, ez, hzl, fin⟩ : ∃ zs us : List Int, RowK (tgT us) (bD us) ∧ atI [tgT xs, tgT ys] w = some (tgT zs) ∧ zs.length = xs.length ∧
      (∀ x x' : D, RowK x x' → (w = 0 → ThingK (.tuple [x, tgT ys]) (.tuple [x', bD ys])) ∧ (w ≠ 0 → ThingK (.tuple [tgT xs, x]) (.tuple [bD xs, x']))) := by
    have hf2 : ∀ x x' : D, RowK x x' → (w = 0 → ThingK (.tuple [x, tgT ys]) (.tuple [x', bD ys])) ∧ (w ≠ 0 → ThingK (.tuple [tgT xs, x]) (.tuple [bD xs, x'])) := fun x x' k => ⟨fun _ => .pair k ky, fun _ => .pair kx k⟩
    rcases (show w = 0 ∨ w = 1 by omega) with rfl | rfl
    · exact ⟨xs, ys, ky, rfl, rfl, hf2⟩
    · exact ⟨ys, xs, kx, rfl, hly, hf2⟩
  show sSeq _ _ _ [some (.io m2), some (.sh (pairT xs ys)), some (.sh (.int way)), some (.sh (.int w)), none, none, none]
  refine seq_on [0, 4, 5] (fun cs => ∃ (m : M) (at_ : Nat), cs = [some (.io m), some (.own (.lst (zs.map PyData.int))), some (.sh (.int (at_ : Nat)))] ∧ Box (B + 3) m ∧ at_ < zs.length) (fun N hN => ?_) ?_
  · refine optD_of ez ⟨_, .tg zs, ?_⟩
    refine ⟨rfl, optD_of ez ⟨_, .tg zs, ?_⟩⟩
    refine ⟨rfl, nd1 0, m2, _, _, rfl, b2, by omega, by rw [List.length_map]; omega, by rw [List.length_map]; omega, fun v m3 a3 z3 b3 => ?_⟩
    rw [List.length_map] at z3
    obtain ⟨v, rfl⟩ := Int.eq_ofNat_of_zero_le a3
    exact nrm_in ⟨rfl, nrm_in (hN [_, _, _] ⟨m3, v, rfl, b3.le (by omega), by omega⟩)⟩
  rintro cs ⟨m3, at_, rfl, b3, hat⟩
  have ea := at_iz hat
  have ij : ixN (zs.map PyData.int).length ((at_ : Nat) : Int) = some at_ := by
    rw [ix_in (by omega) (by rw [List.length_map]; omega), Int.toNat_natCast]
  show sSeq _ _ _ [some (.io m3), some (.sh (pairT xs ys)), some (.sh (.int way)), some (.sh (.int w)), some (.own (.lst (zs.map PyData.int))), some (.sh (.int (at_ : Nat))), none]
  refine seq_on [0, 4, 6] (fun cs => ∃ (m : M) (ds : List D) (c : Cell) (c6 : Option Cell), cs = [some (.io m), some c, c6] ∧ Box (B + 5) m ∧ (c = .own (.lst ds) ∨ c = .sh (.list ds)) ∧ RowDs ds) (fun N hN => ?_) ?_
  · refine ifD (p := way < 3) (fun h3 => ?_) (fun h3 => ?_)
    · refine optD_of ea (optD_of ea ?_)
      refine ⟨sz0, sz1, sz0, sz1, sz7', ?_⟩
      refine ⟨rfl, rfl, nd1 0, m3, _, 7, rfl, b3, by omega, by decide, by decide, fun v m4 a4 z4 b4 => ?_⟩
      refine at_all (l := odd7) a4 (by exact z4) fun o ho => ⟨sz3, ?_⟩
      have ho' := odd7_ok o ho
      have hd : ∀ d : D, d ∈ [PyData.int (1 - zs[at_]), .bool (decide (zs[at_] = 1)), o] → (∃ v, d = .int v) ∨ (notDict d = true ∧ isBit d = false) := fun d hd => by
        simp only [List.mem_cons, List.not_mem_nil, or_false] at hd
        rcases hd with rfl | rfl | rfl
        · exact .inl ⟨_, rfl⟩
        · exact .inr ⟨rfl, rfl⟩
        · exact ho'
      refine at_all (l := [PyData.int (1 - zs[at_]), .bool (decide (zs[at_] = 1)), o]) hw0 (by exact h3) fun d hd2 => ?_
      exact ⟨rfl, at_, ij, hN [_, _, _] ⟨m4, _, _, none, rfl, b4.le (by omega), .inl rfl, rowDs_set (by omega) hat (hd d hd2)⟩⟩
    · refine ifD (p := way < 5) (fun h5 => ?_) (fun h5 => ?_)
      · have cm := fun lo hi => cut_most (zs.map PyData.int) lo hi
        simp only [List.length_map] at cm
        have ci := cut_ints zs
        have co := fun lo hi => cut_most zs lo hi
        refine ⟨by have := cm none (some ((at_ : Nat) : Int)); have := cm (some (((at_ : Nat) : Int) + 1)) none; omega, ?_⟩
        refine ⟨rfl, rfl, nd1 0, m3, _, 2, rfl, b3, by omega, by decide, by decide, fun v m4 a4 z4 b4 => ⟨sz1, by have := cm none (some ((at_ : Nat) : Int)); show _ + 1 ≤ _; omega, by have := cm none (some ((at_ : Nat) : Int)); have := cm (some ((at_ : Nat) : Int)) none; rw [List.length_append]; show _ + 1 + _ ≤ _; omega, sz2, ?_⟩⟩
        refine at_all (i := way - 3) (l := [.list (DL.cutD (zs.map PyData.int) none (some ((at_ : Nat) : Int)) ++ DL.cutD (zs.map PyData.int) (some (((at_ : Nat) : Int) + 1)) none), .list ((DL.cutD (zs.map PyData.int) none (some ((at_ : Nat) : Int)) ++ [.int v]) ++ DL.cutD (zs.map PyData.int) (some ((at_ : Nat) : Int)) none)]) (by omega) (by show way - 3 < 2; omega) fun d hd => ?_
        have hd2 : ∃ ns : List Int, d = .list (ns.map PyData.int) ∧ ns.length ≤ 10000 := by
          simp only [List.mem_cons, List.not_mem_nil, or_false] at hd
          rcases hd with rfl | rfl
          · refine ⟨DL.cutD zs none (some ((at_ : Nat) : Int)) ++ DL.cutD zs (some (((at_ : Nat) : Int) + 1)) none, by rw [ci, ci, List.map_append], ?_⟩
            have := co none (some ((at_ : Nat) : Int)); have := co (some (((at_ : Nat) : Int) + 1)) none
            rw [List.length_append]
            omega
          · refine ⟨(DL.cutD zs none (some ((at_ : Nat) : Int)) ++ [v]) ++ DL.cutD zs (some ((at_ : Nat) : Int)) none, by rw [ci, ci, List.map_append, List.map_append]; rfl, ?_⟩
            have := co none (some ((at_ : Nat) : Int)); have := co (some ((at_ : Nat) : Int)) none
            rw [List.length_append, List.length_append]
            show _ + 1 + _ ≤ _
            omega
        obtain ⟨ns, rfl, hns⟩ := hd2
        exact nrm_in (hN [_, _, _] ⟨m4, _, _, none, rfl, b4.le (by omega), .inr rfl, rowDs_ints hns⟩)
      · refine ifD (p := way = 5) (fun h5 => ?_) (fun h5 => ?_)
        · refine ⟨rfl, rfl, nd1 0, m3, _, _, rfl, b3, by omega, by rw [List.length_map]; omega, by rw [List.length_map]; omega, fun v m4 a4 z4 b4 => nrm_in (nrm_in ?_)⟩
          rw [List.length_map] at z4
          obtain ⟨v, rfl⟩ := Int.eq_ofNat_of_zero_le a4
          have hv : v < zs.length := by omega
          have e2 : ((zs.map PyData.int).set at_ (.int zs[v])).set v (.int zs[at_]) = ((zs.set at_ zs[v]).set v zs[at_]).map PyData.int := by rw [List.map_set, List.map_set]
          have iv : ixN ((zs.map PyData.int).set at_ (.int zs[v])).length ((v : Nat) : Int) = some v := by
            rw [ix_in (by omega) (by rw [List.length_set, List.length_map]; omega), Int.toNat_natCast]
          refine optD_of (at_iz hv) (optD_of ea ⟨sz2, rfl, rfl, at_, ij, rfl, v, iv, ?_⟩)
          refine hN [_, _, _] ⟨m4, _, _, some (.sh (.int (v : Nat))), rfl, b4.le (by omega), .inl rfl, ?_⟩
          rw [e2]
          exact rowDs_ints (by rw [List.length_set, List.length_set]; omega)
        · refine ifD (p := way = 6) (fun h6 => ?_) (fun h6 => hN [_, _, _] ⟨m3, _, _, none, rfl, b3.le (by omega), .inl rfl, rowDs_ints (by omega)⟩)
          refine ⟨sz3, optD_of rfl (optD_of rfl ⟨sz2, sz1, sz6, ?_⟩)⟩
          refine ⟨rfl, rfl, nd1 0, m3, _, 6, rfl, b3, by omega, by decide, by decide, fun v m4 a4 z4 b4 => ?_⟩
          refine at_all (l := [.list [tgT xs, tgT ys], .tuple [tgT ys, tgT xs], .tuple [tgT xs, tgT ys, tgT xs], .tuple [tgT xs], .tuple [tgT xs, tgT xs], .tuple [pairT xs ys]]) a4 (by exact z4) fun d hd => ?_
          have hk : ∃ d', ThingK d d' := by
            simp only [List.mem_cons, List.not_mem_nil, or_false] at hd
            rcases hd with rfl | rfl | rfl | rfl | rfl | rfl
            · exact ⟨_, .lst _⟩
            · exact ⟨_, .pair ky kx⟩
            · exact ⟨_, .tup _ (fun h => nomatch h)⟩
            · exact ⟨_, .tup _ (fun h => nomatch h)⟩
            · exact ⟨_, .pair kx kx⟩
            · exact ⟨_, .tup _ (fun h => nomatch h)⟩
          obtain ⟨d', k⟩ := hk
          exact q d d' m4 k (b4.le (by omega))
  rintro cs ⟨m4, ds, c, c6, rfl, b4, hc, hR⟩
  obtain ⟨r1, r2, r3⟩ := hR
  show sSeq _ _ _ [some (.io m4), some (.sh (pairT xs ys)), some (.sh (.int way)), some (.sh (.int w)), some c, some (.sh (.int (at_ : Nat))), c6]
  refine seq_on [4] (fun cs => ∃ x x' : D, cs = [some (.sh x)] ∧ RowK x x') (fun N hN => ?_) ?_
  · rcases hc with rfl | rfl
    · refine ifD (p := way = 7) (fun _ => nrm_in (hN [_] ⟨_, _, rfl, rowK_lst⟩)) (fun _ => ?_)
      rcases r3 with ⟨ns, rfl⟩ | ⟨z, hz, hf⟩
      · rw [List.length_map] at r1
        exact .inl ⟨ns, rfl, nrm_in (hN [_] ⟨_, _, rfl, .tg ns r1⟩)⟩
      · exact .inr (nrm_in (hN [_] ⟨_, _, rfl, .bad _ ⟨rfl, fun us e => by cases e; exact r2⟩ (fun us e => by cases e; exact ⟨r1, z, hz, hf⟩)⟩))
    · refine ifD (p := way = 7) (fun _ => nrm_in (hN [_] ⟨_, _, rfl, rowK_lst⟩)) (fun _ => ?_)
      rcases r3 with ⟨ns, rfl⟩ | ⟨z, hz, hf⟩
      · rw [List.length_map] at r1
        exact .inl ⟨ns, rfl, nrm_in (hN [_] ⟨_, _, rfl, .tg ns r1⟩)⟩
      · exact .inr (nrm_in (hN [_] ⟨_, _, rfl, .bad _ ⟨rfl, fun us e => by cases e; exact r2⟩ (fun us e => by cases e; exact ⟨r1, z, hz, hf⟩)⟩))
  rintro cs ⟨x, x', rfl, k⟩
  show sRet _ _ [some (.io m4), some (.sh (pairT xs ys)), some (.sh (.int way)), some (.sh (.int w)), some (.sh x), some (.sh (.int (at_ : Nat))), c6]
  exact ifD (p := w = 0) (fun h => optD_of rfl ⟨sz2, q _ _ m4 ((fin x x' k).1 h) (b4.le (by omega))⟩) (fun h => optD_of rfl ⟨sz2, q _ _ m4 ((fin x x' k).2 h) (b4.le (by omega))⟩)
def cmpB : DTS := (sSeq (sSet 16 (eCallF 5 sp_shows_rows (cCons (eVar 5) (cCons (eVar 6) (cCons (eVar 7) (cCons (eVar 10) (cCons (eUn (eVar 14)) cNil)))))))
  (sIf (tOr' (tNt (tTru (eIsi .bool (eVar 16)))) (tBl (eOp2 pNe (eVar 16) (eCallF 5 sp_law_due (cCons (eVar 5) (cCons (eVar 6) (cCons (eVar 7) (cCons (eVar 10) (cCons (eVar 14) cNil))))))))) (sRet (eC (.bool false))) sNext))
def turnB : DTS := (sSeq (sSet 14 (eCallF 2 sp_law_otherwise (cIo 3 (cCons (eVar 12) cNil))))
  cmpB)
def pairB : DTS := (sSeq (sIf (tOr' (tNt (tTru (eCallF 5 sp_law_due (cCons (eVar 5) (cCons (eVar 6) (cCons (eVar 7) (cCons (eVar 10) (cCons (eVar 12) cNil)))))))) (tBl (eOp2 pIsN (eCallF 5 sp_shows_rows (cCons (eVar 5) (cCons (eVar 6) (cCons (eVar 7) (cCons (eVar 10) (cCons (eUn (eVar 12)) cNil)))))) (eC (.bool true))))) (sRet (eC (.bool false))) sNext)
  (sFor (iR1 (aCons (eC (.int 4)) aNil)) (gNm 15) turnB))
def outB : DTS := (sSeq (sSet 13 (eCallF 5 sp_law_made (cIo 3 (cCons (eVar 5) (cCons (eVar 6) (cCons (eVar 7) (cCons (eIf (tBl (eOp2 pLt (eVar 10) (eVar 8))) (eVar 8) (eVar 9)) cNil)))))))
  (sSeq (sFor (iAny (eTup (aCons (eVar 13) (aCons (eCallF 2 sp_law_otherwise (cIo 3 (cCons (eVar 13) cNil))) (aCons (eCallF 2 sp_law_otherwise (cIo 3 (cCons (eVar 13) cNil))) aNil))))) (gNm 14) cmpB)
  (sSeq (sIf (tOr' (tBl (eOp2 pNe (eVar 11) (eC (.str "none")))) (tBl (eOp2 pIsN (eCallF 5 sp_shows_rows (cCons (eVar 5) (cCons (eVar 6) (cCons (eVar 7) (cCons (eVar 10) (cCons (eUn (eVar 13)) cNil)))))) (eC (.bool false))))) (sRet (eC (.bool false))) sNext)
  sCont)))
def metB : DTS := (sSeq (sSet 11 (eCallF 4 sp_law_told (cCons (eVar 5) (cCons (eVar 6) (cCons (eVar 7) (cCons (eVar 10) cNil))))))
  (sSeq (sIf (tNt (tBl (eChain pLe pLe (eVar 8) (eVar 10) (eVar 9)))) outB sNext)
  (sFor (iAny (eTup (aCons (eVar 11) (aCons (eCallF 5 sp_law_made (cIo 3 (cCons (eVar 5) (cCons (eVar 6) (cCons (eVar 7) (cCons (eVar 10) cNil)))))) aNil)))) (gNm 12) pairB)))
abbrev St (d0 d1 : D) (k : Int) (m : M) (g : D) (n a b lo hi : Int) (c10 c11 c12 c13 c14 c15 c16 : Option Cell) : DSt := [some (.sh d0), some (.sh d1), some (.sh (.int k)), some (.own m), some (.sh g), some (.sh (.int n)), some (.sh (.int a)), some (.sh (.int b)), some (.sh (.int lo)), some (.sh (.int hi)), c10, c11, c12, c13, c14, c15, c16]
section
variable {d0 d1 g : D} {k n a b lo hi met : Int} {m : M} {E : DEnds} {c10 c11 c12 c13 c14 c15 c16 : Option Cell}
theorem cmp_step {d d' : D} (K : ThingK d d') (hn1 : 1 ≤ n) (hn2 : n ≤ 4096) (h : ∀ v, E.nx (St d0 d1 k m g n a b lo hi (some (.sh (.int met))) c11 c12 c13 (some (.sh d)) c15 (some (.sh (.bool v))))) :
    cmpB E (St d0 d1 k m g n a b lo hi (some (.sh (.int met))) c11 c12 c13 (some (.sh d)) c15 c16) := by
  refine ⟨_, K.unt, rfl, .nil, n, a, b, met, d, d', rfl, hn1, hn2, K, fun v hv => nrm_in (nrm_in ?_)⟩
  refine ⟨rfl, ?_⟩
  refine ⟨rfl, .nil, n, a, b, met, d, d', rfl, hn2, by omega, K, fun v2 hv2 => nrm_in ?_⟩
  have e : v = v2 := Bool.eq_iff_iff.2 (hv.trans hv2.symm)
  subst e
  cases v <;> exact h _
theorem turn_step {B : Int} {xs ys : List Int} (bm : Box B m) (hB : B + 50 < farB) (l1 : 1 ≤ xs.length) (l2 : xs.length ≤ 4096) (l3 : ys.length = xs.length) (hn1 : 1 ≤ n) (hn2 : n ≤ 4096)
    (h : ∀ m' c14 c16, Box (B + 6) m' → E.nx (St d0 d1 k m' g n a b lo hi (some (.sh (.int met))) c11 (some (.sh (pairT xs ys))) c13 c14 c15 c16)) :
    turnB E (St d0 d1 k m g n a b lo hi (some (.sh (.int met))) c11 (some (.sh (pairT xs ys))) c13 c14 c15 c16) := by
  refine ⟨rfl, rfl, nd1 3, m, B, xs, ys, rfl, bm, hB, l1, l2, l3, fun d d' m' K b' => nrm_in (nrm_in ?_)⟩
  exact cmp_step K hn1 hn2 fun v => h m' _ _ b'
theorem pair_k {xs ys : List Int} (h1 : xs.length ≤ 10000) (h2 : ys.length ≤ 10000) : ThingK (pairT xs ys) (.tuple [bD xs, bD ys]) := .pair (.tg xs h1) (.tg ys h2)
theorem pair_step {B : Int} {xs ys : List Int} (bm : Box B m) (hB : B + 100 < farB) (G : Good n a b met xs ys) (hn1 : 1 ≤ n) (hn2 : n ≤ 4096)
    (h : ∀ m' c14 c15 c16, Box (B + 24) m' → E.nx (St d0 d1 k m' g n a b lo hi (some (.sh (.int met))) c11 (some (.sh (pairT xs ys))) c13 c14 c15 c16)) :
    pairB E (St d0 d1 k m g n a b lo hi (some (.sh (.int met))) c11 (some (.sh (pairT xs ys))) c13 c14 c15 c16) := by
  have l1 := G.lx
  have l2 := G.ly
  have K : ThingK (pairT xs ys) (.tuple [bD xs, bD ys]) := pair_k (by omega) (by omega)
  have GT : GoodT n a b met (.tuple [bD xs, bD ys]) := ⟨xs, ys, rfl, G⟩
  show sSeq _ _ _ (St d0 d1 k m g n a b lo hi (some (.sh (.int met))) c11 (some (.sh (pairT xs ys))) c13 c14 c15 c16)
  refine seq_on [] (fun cs => cs = []) (fun N hN => ?_) ?_
  · refine ⟨rfl, .nil, n, a, b, met, _, _, rfl, hn2, by omega, K, fun v hv => nrm_in ?_⟩
    have e : v = true := hv.2 GT
    subst e
    refine ⟨_, K.unt, rfl, .nil, n, a, b, met, _, _, rfl, hn1, hn2, K, fun v2 hv2 => nrm_in ?_⟩
    have e2 : v2 = true := hv2.2 GT
    subst e2
    exact hN [] rfl
  rintro cs rfl
  show sFor _ _ _ _ (St d0 d1 k m g n a b lo hi (some (.sh (.int met))) c11 (some (.sh (pairT xs ys))) c13 c14 c15 c16)
  refine ⟨by omega, by omega, ?_⟩
  refine rng_on 0 4 [3, 14, 15, 16] _ (fun i cs => ∃ (m : M) (c14 c15 c16 : Option Cell), cs = [some (.own m), c14, c15, c16] ∧ Box (B + 6 * (i : Int)) m) ?_ ?_ ⟨m, c14, c15, c16, rfl, bm.le (by omega)⟩
  · rintro i hi cs N ⟨m1, e14, e15, e16, rfl, b1⟩ hN
    refine nrm_in ?_
    show turnB _ (St d0 d1 k m1 g n a b _ _ (some (.sh (.int met))) c11 (some (.sh (pairT xs ys))) c13 e14 _ e16)
    exact turn_step b1 (by omega) (by omega) (by omega) (by omega) hn1 hn2 fun m' f14 f16 b' => hN [_, _, _, _] ⟨m', _, _, _, rfl, b'.le (by omega)⟩
  · rintro cs ⟨m1, e14, e15, e16, rfl, b1⟩
    exact h _ _ _ _ (b1.le (by omega))
theorem out_step {B : Int} (bm : Box B m) (hB : B + 600 < farB) (I : In n a b) (R : ¬ inR n a b met)
    (h : ∀ m' c13 c14 c16, Box (B + 430) m' → E.ct (St d0 d1 k m' g n a b (lowMet n a b) (highMet a b) (some (.sh (.int met))) (some (.sh (.str "none"))) c12 c13 c14 c15 c16)) :
    outB E (St d0 d1 k m g n a b (lowMet n a b) (highMet a b) (some (.sh (.int met))) (some (.sh (.str "none"))) c12 c13 c14 c15 c16) := by
  have I2 := I
  obtain ⟨hn1, hn2, _, _, _, _⟩ := I2
  obtain ⟨w1, w2, w3⟩ := low_in I
  show sSeq _ _ _ (St d0 d1 k m g n a b (lowMet n a b) (highMet a b) (some (.sh (.int met))) (some (.sh (.str "none"))) c12 c13 c14 c15 c16)
  refine seq_on [3, 13] (fun cs => ∃ (m : M) (xs ys : List Int) (met' : Int), cs = [some (.own m), some (.sh (pairT xs ys))] ∧ Good n a b met' xs ys ∧ met' ≠ met ∧ Box (B + 410) m) (fun N hN => ?_) ?_
  · refine ⟨rfl, ifD (p := met < lowMet n a b) (fun h => ?_) (fun h => ?_)⟩
    · exact ⟨rfl, nd1 3, m, B, n, a, b, _, rfl, bm, by omega, I, ⟨Int.le_refl _, w1⟩, fun xs ys m' G b' => nrm_in (nrm_in (hN [_, _] ⟨m', xs, ys, _, rfl, G, by omega, b'⟩))⟩
    · exact ⟨rfl, nd1 3, m, B, n, a, b, _, rfl, bm, by omega, I, ⟨w1, Int.le_refl _⟩, fun xs ys m' G b' => nrm_in (nrm_in (hN [_, _] ⟨m', xs, ys, _, rfl, G, fun e => R ⟨by omega, by omega⟩, b'⟩))⟩
  rintro cs ⟨m1, xs, ys, met', rfl, G, hne, b1⟩
  have l1 := G.lx
  have l2 := G.ly
  have K : ThingK (pairT xs ys) (.tuple [bD xs, bD ys]) := pair_k (by omega) (by omega)
  have GT : ¬ GoodT n a b met (.tuple [bD xs, bD ys]) := fun ⟨us, vs, e, G2⟩ => by
    injection e with e
    injection e with e1 e
    injection e with e2 _
    injection e1 with e1
    injection e2 with e2
    rw [← ints_inj e1, ← ints_inj e2] at G2
    exact hne (G.d.symm.trans G2.d)
  show sSeq _ _ _ (St d0 d1 k m1 g n a b (lowMet n a b) (highMet a b) (some (.sh (.int met))) (some (.sh (.str "none"))) c12 (some (.sh (pairT xs ys))) c14 c15 c16)
  refine seq_on [3, 14, 16] (fun cs => ∃ (m : M) (c14 c16 : Option Cell), cs = [some (.own m), c14, c16] ∧ Box (B + 430) m) (fun N hN => ?_) ?_
  · refine ⟨rfl, rfl, nd1 3, m1, _, xs, ys, rfl, b1, by omega, by omega, by omega, by omega, fun o o' m2 K1 b2 => ?_⟩
    refine ⟨rfl, rfl, nd1 3, m2, _, xs, ys, rfl, b2, by omega, by omega, by omega, by omega, fun e e' m3 K2 b3 => ⟨sz3, ?_⟩⟩
    have all : ∀ x ∈ [pairT xs ys, o, e], ∃ x', ThingK x x' := fun x hx => by
      simp only [List.mem_cons, List.not_mem_nil, or_false] at hx
      rcases hx with rfl | rfl | rfl
      · exact ⟨_, K⟩
      · exact ⟨_, K1⟩
      · exact ⟨_, K2⟩
    show loopD _ _ [pairT xs ys, o, e] _ (St d0 d1 k m3 g n a b (lowMet n a b) (highMet a b) (some (.sh (.int met))) (some (.sh (.str "none"))) c12 (some (.sh (pairT xs ys))) c14 c15 c16)
    generalize [pairT xs ys, o, e] = ts at all
    rw [← List.map_id ts]
    refine map_on ts id [14, 16] _ (fun i cs => ∃ c14 c16, cs = [c14, c16]) ?_ ?_ ⟨_, _, rfl⟩
    · rintro i hi cs N2 ⟨e14, e16, rfl⟩ hN2
      refine nrm_in ?_
      obtain ⟨x', K3⟩ := all ts[i] (List.getElem_mem hi)
      show cmpB _ (St d0 d1 k m3 g n a b (lowMet n a b) (highMet a b) (some (.sh (.int met))) (some (.sh (.str "none"))) c12 (some (.sh (pairT xs ys))) (some (.sh ts[i])) c15 e16)
      exact cmp_step K3 hn1 hn2 fun v => hN2 [_, _] ⟨_, _, rfl⟩
    · rintro cs ⟨e14, e16, rfl⟩
      exact hN [_, _, _] ⟨m3, _, _, rfl, b3.le (by omega)⟩
  rintro cs ⟨m2, e14, e16, rfl, b2⟩
  show sSeq _ _ _ (St d0 d1 k m2 g n a b (lowMet n a b) (highMet a b) (some (.sh (.int met))) (some (.sh (.str "none"))) c12 (some (.sh (pairT xs ys))) e14 c15 e16)
  refine seq_on [] (fun cs => cs = []) (fun N hN => ?_) ?_
  · refine ⟨_, K.unt, rfl, .nil, n, a, b, met, _, _, rfl, hn1, hn2, K, fun v hv => nrm_in ?_⟩
    have e : v = false := by
      cases v with
      | false => rfl
      | true => exact absurd (hv.1 rfl) GT
    subst e
    exact hN [] rfl
  rintro cs rfl
  exact h _ _ _ _ b2
theorem met_step {B : Int} (bm : Box B m) (hB : B + 1000 < farB) (I : In n a b)
    (h : ∀ m' c11 c12 c13 c14 c15 c16, Box (B + 600) m' → E.nx (St d0 d1 k m' g n a b (lowMet n a b) (highMet a b) (some (.sh (.int met))) c11 c12 c13 c14 c15 c16) ∧ E.ct (St d0 d1 k m' g n a b (lowMet n a b) (highMet a b) (some (.sh (.int met))) c11 c12 c13 c14 c15 c16)) :
    metB E (St d0 d1 k m g n a b (lowMet n a b) (highMet a b) (some (.sh (.int met))) c11 c12 c13 c14 c15 c16) := by
  have I2 := I
  obtain ⟨hn1, hn2, _, _, _, _⟩ := I2
  show sSeq _ _ _ (St d0 d1 k m g n a b (lowMet n a b) (highMet a b) (some (.sh (.int met))) c11 c12 c13 c14 c15 c16)
  refine seq_on [11] (fun cs => (inR n a b met ∧ cs = [some (.sh (pairT (one n a) (two n a b met)))]) ∨ (¬ inR n a b met ∧ cs = [some (.sh (.str "none"))])) (fun N hN => ⟨rfl, .nil, n, a, b, met, rfl, I, fun e => nrm_in (nrm_in (hN [_] (.inl ⟨e, rfl⟩))), fun e => nrm_in (nrm_in (hN [_] (.inr ⟨e, rfl⟩)))⟩) ?_
  rintro cs (⟨R, rfl⟩ | ⟨R, rfl⟩)
  · show sSeq _ _ _ (St d0 d1 k m g n a b (lowMet n a b) (highMet a b) (some (.sh (.int met))) (some (.sh (pairT (one n a) (two n a b met)))) c12 c13 c14 c15 c16)
    refine seq_on [] (fun cs => cs = []) (fun N hN => ?_) ?_
    · exact ifD (p := lowMet n a b ≤ met) (fun h1 => ifN (p := met ≤ highMet a b) (fun h2 => absurd R.2 h2) (fun _ => hN [] rfl)) (fun h1 => absurd R.1 h1)
    rintro cs rfl
    show sFor _ _ _ _ (St d0 d1 k m g n a b (lowMet n a b) (highMet a b) (some (.sh (.int met))) (some (.sh (pairT (one n a) (two n a b met)))) c12 c13 c14 c15 c16)
    refine ⟨rfl, rfl, nd1 3, m, B, n, a, b, met, rfl, bm, by omega, I, R, fun xs ys m1 G b1 => ⟨sz2, ?_⟩⟩
    have all : ∀ x ∈ [pairT (one n a) (two n a b met), pairT xs ys], ∃ us vs, x = pairT us vs ∧ Good n a b met us vs := fun x hx => by
      simp only [List.mem_cons, List.not_mem_nil, or_false] at hx
      rcases hx with rfl | rfl
      · exact ⟨_, _, rfl, good_lean I R⟩
      · exact ⟨_, _, rfl, G⟩
    have hlen : [pairT (one n a) (two n a b met), pairT xs ys].length = 2 := rfl
    show loopD _ _ [pairT (one n a) (two n a b met), pairT xs ys] _ (St d0 d1 k m1 g n a b (lowMet n a b) (highMet a b) (some (.sh (.int met))) (some (.sh (pairT (one n a) (two n a b met)))) c12 c13 c14 c15 c16)
    generalize [pairT (one n a) (two n a b met), pairT xs ys] = ts at all hlen
    rw [← List.map_id ts]
    refine map_on ts id [3, 12, 14, 15, 16] _ (fun i cs => ∃ (m : M) (c12 c14 c15 c16 : Option Cell), cs = [some (.own m), c12, c14, c15, c16] ∧ Box (B + 410 + 24 * (i : Int)) m) ?_ ?_ ⟨m1, _, _, _, _, rfl, b1.le (by omega)⟩
    · rintro i hi cs N2 ⟨m2, e12, e14, e15, e16, rfl, b2⟩ hN2
      refine nrm_in ?_
      obtain ⟨us, vs, ex, G3⟩ := all ts[i] (List.getElem_mem hi)
      show pairB _ (St d0 d1 k m2 g n a b (lowMet n a b) (highMet a b) (some (.sh (.int met))) (some (.sh (pairT (one n a) (two n a b met)))) (some (.sh ts[i])) c13 e14 e15 e16)
      rw [ex]
      exact pair_step b2 (by omega) G3 hn1 hn2 fun m' f14 f15 f16 b' => hN2 [_, _, _, _, _] ⟨m', _, _, _, _, rfl, b'.le (by omega)⟩
    · rintro cs ⟨m2, e12, e14, e15, e16, rfl, b2⟩
      rw [hlen] at b2
      exact (h _ _ _ _ _ _ _ (b2.le (by omega))).1
  · show sSeq _ _ _ (St d0 d1 k m g n a b (lowMet n a b) (highMet a b) (some (.sh (.int met))) (some (.sh (.str "none"))) c12 c13 c14 c15 c16)
    have out : ∀ E2 : DEnds, E2.ct = E.ct → outB E2 (St d0 d1 k m g n a b (lowMet n a b) (highMet a b) (some (.sh (.int met))) (some (.sh (.str "none"))) c12 c13 c14 c15 c16) := fun E2 e => out_step bm (by omega) I R fun m' f13 f14 f16 b' => by
      rw [e]
      exact (h _ _ _ _ _ _ _ (b'.le (by omega))).2
    exact ifD (p := lowMet n a b ≤ met) (fun h1 => ifN (p := met ≤ highMet a b) (fun h2 => out _ rfl) (fun h2 => absurd ⟨h1, h2⟩ R)) (fun h1 => out _ rfl)
end
theorem law_rest {E : DEnds} {d0 d1 : D} {k : Int} {m0 : M} {c4 c5 c6 c7 c8 c9 c10 c11 c12 c13 c14 c15 c16 : Option Cell} (bm : Box 0 m0) (hE : ∀ c cs', cs'.length = 13 → E.nx (some (.sh d0) :: some (.sh d1) :: some (.sh (.int k)) :: c :: cs')) :
  (sSeq (sSet 4 (eOp2 pEq (eCallF 2 sp_take (cIo 3 (cCons (eC (.int 16)) cNil))) (eC (.int 0))))
  (sSeq (sSet 5 (eOp2 pAdd (eC (.int 1)) (eCallF 2 sp_take (cIo 3 (cCons (eIf (tBl (eOp2 pEq (eCallF 2 sp_take (cIo 3 (cCons (eC (.int 8)) cNil))) (eC (.int 0)))) (eC (.int 400)) (eC (.int 40))) cNil)))))
  (sSeq (sSet 5 (eIf (tAn (tTru (eVar 4)) (tBl (eOp2 pEq (eVar 2) (eC (.int 0))))) (eC (.int 4096)) (eVar 5)))
  (sSeq (sAsg (eFrz (oComp true [15] (iR1 (aCons (eC (.int 2)) aNil)) tYesD (eOp2 pIx (eFrz (oLst (aCons (eC (.int 0)) (aCons (eVar 5) (aCons (eCallF 2 sp_take (cIo 3 (cCons (eOp2 pAdd (eVar 5) (eC (.int 1))) cNil))) aNil))))) (eCallF 2 sp_take (cIo 3 (cCons (eC (.int 3)) cNil)))))) (gTp' 2 (gsCons (gNm 6) (gsCons (gNm 7) gsNil))))
  (sSeq (sPar 8 9 (aCons (eCall pMax2 (aCons (eC (.int 0)) (aCons (eOp2 pSub (eOp2 pAdd (eVar 6) (eVar 7)) (eVar 5)) aNil))) (aCons (eCall pMin2 (aCons (eVar 6) (aCons (eVar 7) aNil))) aNil)))
  (sFor (iAny (eTup (aCons (eVar 8) (aCons (eVar 9) (aCons (eOp2 pAdd (eVar 8) (eCallF 2 sp_take (cIo 3 (cCons (eOp2 pAdd (eOp2 pSub (eVar 9) (eVar 8)) (eC (.int 1))) cNil)))) (aCons (eOp2 pSub (eVar 8) (eC (.int 1))) (aCons (eOp2 pAdd (eVar 9) (eC (.int 1))) (aCons (eOp1 pNeg (eC (.int 7))) (aCons (eOp2 pPow (eC (.int 10)) (eC (.int 9))) aNil))))))))) (gNm 10) metB))))))
  E [some (.sh d0), some (.sh d1), some (.sh (.int k)), some (.own m0), c4, c5, c6, c7, c8, c9, c10, c11, c12, c13, c14, c15, c16] := by
  have hf : farB = 1099511627776 := by decide
  have hbig := line_big
  refine seq_on [3, 4] (fun cs => ∃ (m : M) (g : Bool), cs = [some (.own m), some (.sh (.bool g))] ∧ Box 1 m) (fun N hN => ?_) ?_
  · exact ⟨rfl, rfl, nd1 3, m0, 0, 16, rfl, bm, by omega, by decide, by decide, fun v m1 a z b1 => nrm_in (nrm_in (hN [_, _] ⟨m1, _, rfl, b1⟩))⟩
  rintro cs ⟨m1, g, rfl, b1⟩
  show sSeq _ _ _ [some (.sh d0), some (.sh d1), some (.sh (.int k)), some (.own m1), some (.sh (.bool g)), c5, c6, c7, c8, c9, c10, c11, c12, c13, c14, c15, c16]
  refine seq_on [3, 5] (fun cs => ∃ (m : M) (n : Int), cs = [some (.own m), some (.sh (.int n))] ∧ Box 3 m ∧ 1 ≤ n ∧ n ≤ 400) (fun N hN => ?_) ?_
  · refine ⟨rfl, rfl, rfl, nd1 3, m1, 1, 8, rfl, b1, by omega, by decide, by decide, fun v m2 a2 z2 b2 => nrm_in ?_⟩
    refine ifD (p := v = 0) (fun _ => ?_) (fun _ => ?_)
    · exact ⟨rfl, nd1 3, m2, _, 400, rfl, b2, by omega, by decide, by decide, fun w m3 a3 z3 b3 => nrm_in (nrm_in (hN [_, _] ⟨m3, _, rfl, b3.le (by omega), by omega, by omega⟩))⟩
    · exact ⟨rfl, nd1 3, m2, _, 40, rfl, b2, by omega, by decide, by decide, fun w m3 a3 z3 b3 => nrm_in (nrm_in (hN [_, _] ⟨m3, _, rfl, b3.le (by omega), by omega, by omega⟩))⟩
  rintro cs ⟨m2, n0, rfl, b2, hn1, hn2⟩
  show sSeq _ _ _ [some (.sh d0), some (.sh d1), some (.sh (.int k)), some (.own m2), some (.sh (.bool g)), some (.sh (.int n0)), c6, c7, c8, c9, c10, c11, c12, c13, c14, c15, c16]
  refine seq_on [5] (fun cs => ∃ n : Int, cs = [some (.sh (.int n))] ∧ 1 ≤ n ∧ n ≤ 4096) (fun N hN => ?_) ?_
  · cases g with
    | false => exact nrm_in (hN [_] ⟨n0, rfl, by omega, by omega⟩)
    | true => exact ifD (p := k = 0) (fun _ => nrm_in (hN [_] ⟨4096, rfl, by omega, by omega⟩)) (fun _ => nrm_in (hN [_] ⟨n0, rfl, by omega, by omega⟩))
  rintro cs ⟨n, rfl, hn1, hn2⟩
  show sSeq _ _ _ [some (.sh d0), some (.sh d1), some (.sh (.int k)), some (.own m2), some (.sh (.bool g)), some (.sh (.int n)), c6, c7, c8, c9, c10, c11, c12, c13, c14, c15, c16]
  refine seq_on [3, 6, 7, 15] (fun cs => ∃ (m : M) (a b : Int), cs = [some (.own m), some (.sh (.int a)), some (.sh (.int b)), none] ∧ Box 7 m ∧ In n a b) (fun N hN => ?_) ?_
  · refine ⟨by omega, by omega, by rw [rngD_len]; show 2 ≤ _; omega, ?_⟩
    refine rng_comp 0 2 (fun i acc r => ∃ (m : M) (vs : List Int), acc = vs.map PyData.int ∧ vs.length = i ∧ (∀ v ∈ vs, 0 ≤ v ∧ v ≤ n) ∧ Box (3 + 2 * (i : Int)) m ∧ r = [some (.sh d0), some (.sh d1), some (.sh (.int k)), some (.own m), some (.sh (.bool g)), some (.sh (.int n)), c6, c7, c8, c9, c10, c11, c12, c13, c14, none, c16]) ?_ ?_ _ ⟨m2, [], rfl, rfl, (fun _ h => nomatch h), b2.le (by omega), rfl⟩
    · rintro i hi acc r N2 ⟨m3, vs, rfl, hvl, hv, b3, rfl⟩ hN2
      refine ⟨rfl, rfl, nd1 3, m3, _, n + 1, rfl, b3, by omega, by omega, by omega, fun v m4 a4 z4 b4 => ⟨sz3, ?_⟩⟩
      refine ⟨rfl, rfl, nd1 3, m4, _, 3, rfl, b4, by omega, by decide, by decide, fun w m5 a5 z5 b5 => ?_⟩
      refine at_all (i := w) (l := [.int 0, .int n, .int v]) a5 (by exact z5) fun d hd => ?_
      have hd2 : ∃ x : Int, d = .int x ∧ 0 ≤ x ∧ x ≤ n := by
        simp only [List.mem_cons, List.not_mem_nil, or_false] at hd
        rcases hd with rfl | rfl | rfl
        · exact ⟨_, rfl, by omega, by omega⟩
        · exact ⟨_, rfl, by omega, by omega⟩
        · exact ⟨_, rfl, by omega, by omega⟩
      obtain ⟨x, rfl, h0, h1⟩ := hd2
      refine hN2 _ _ ⟨m5, vs ++ [x], by rw [List.map_append]; rfl, by rw [List.length_append, hvl]; rfl, fun y hy => ?_, b5.le (by omega), rfl⟩
      rcases List.mem_append.1 hy with h | h
      · exact hv y h
      · rw [List.mem_singleton.1 h]; exact ⟨h0, h1⟩
    · rintro acc r ⟨m3, vs, rfl, hvl, hv, b3, rfl⟩
      match vs, hvl, hv with
      | [a, b], _, hv =>
        have h1 := hv a (by simp)
        have h2 := hv b (by simp)
        exact ⟨rfl, nrm_in (nrm_in (hN [_, _, _, _] ⟨m3, a, b, rfl, b3.le (by omega), ⟨hn1, hn2, h1.1, h1.2, h2.1, h2.2⟩⟩))⟩
  rintro cs ⟨m3, a, b, rfl, b3, I⟩
  obtain ⟨w1, w2, w3⟩ := low_in I
  show sSeq _ _ _ [some (.sh d0), some (.sh d1), some (.sh (.int k)), some (.own m3), some (.sh (.bool g)), some (.sh (.int n)), some (.sh (.int a)), some (.sh (.int b)), c8, c9, c10, c11, c12, c13, c14, none, c16]
  refine seq_on [8, 9] (fun cs => cs = [some (.sh (.int (lowMet n a b))), some (.sh (.int (highMet a b)))]) (fun N hN => nrm_in (hN [_, _] rfl)) ?_
  rintro cs rfl
  show sFor _ _ _ _ (St d0 d1 k m3 (.bool g) n a b (lowMet n a b) (highMet a b) c10 c11 c12 c13 c14 none c16)
  refine ⟨rfl, rfl, nd1 3, m3, _, _, rfl, b3, by omega, by omega, by omega, fun v m4 a4 z4 b4 => ⟨?_, sz7, ?_⟩⟩
  · exact ⟨by decide, by decide, by decide⟩
  show loopD _ _ ([lowMet n a b, highMet a b, lowMet n a b + v, lowMet n a b - 1, highMet a b + 1, -7, 10 ^ (9 : Int).toNat].map PyData.int) _ (St d0 d1 k m4 (.bool g) n a b (lowMet n a b) (highMet a b) c10 c11 c12 c13 c14 none c16)
  have hlen : [lowMet n a b, highMet a b, lowMet n a b + v, lowMet n a b - 1, highMet a b + 1, -7, 10 ^ (9 : Int).toNat].length = 7 := rfl
  generalize [lowMet n a b, highMet a b, lowMet n a b + v, lowMet n a b - 1, highMet a b + 1, -7, 10 ^ (9 : Int).toNat] = ms at hlen
  refine map_on ms PyData.int [3, 10, 11, 12, 13, 14, 15, 16] _ (fun i cs => ∃ (m : M) (c10 c11 c12 c13 c14 c15 c16 : Option Cell), cs = [some (.own m), c10, c11, c12, c13, c14, c15, c16] ∧ Box (50 + 600 * (i : Int)) m) ?_ ?_ ⟨m4, _, _, _, _, _, _, _, rfl, b4.le (by omega)⟩
  · rintro i hi cs N ⟨m5, e10, e11, e12, e13, e14, e15, e16, rfl, b5⟩ hN
    refine nrm_in ?_
    show metB _ (St d0 d1 k m5 (.bool g) n a b (lowMet n a b) (highMet a b) (some (.sh (.int ms[i]))) e11 e12 e13 e14 e15 e16)
    exact met_step b5 (by omega) I fun m' f11 f12 f13 f14 f15 f16 b' => ⟨hN [_, _, _, _, _, _, _, _] ⟨m', _, _, _, _, _, _, _, rfl, b'.le (by omega)⟩, hN [_, _, _, _, _, _, _, _] ⟨m', _, _, _, _, _, _, _, rfl, b'.le (by omega)⟩⟩
  · rintro cs ⟨m5, e10, e11, e12, e13, e14, e15, e16, rfl, b5⟩
    exact hE (some (.own m5)) [_, _, _, _, _, _, _, _, _, _, _, _, _] rfl
theorem len13 {α : Type} {l : List α} (h : l.length = 13) : ∃ a b c d e f g i j k m n o, l = [a, b, c, d, e, f, g, i, j, k, m, n, o] := by
  match l, h with
  | [a, b, c, d, e, f, g, i, j, k, m, n, o], _ => exact ⟨a, b, c, d, e, f, g, i, j, k, m, n, o, rfl⟩
theorem p_law (cs post) (h : spLaw cs post) : runD 17 (b_law sp_box sp_law_due sp_fold sp_law_made sp_law_otherwise sp_take sp_law_told sp_shows_rows) cs post :=
  outer 13 (by decide) (by decide) (fun ns es k m cs E hcs hk0 hk1 bm hE => by
    obtain ⟨c4, c5, c6, c7, c8, c9, c10, c11, c12, c13, c14, c15, c16, rfl⟩ := len13 hcs
    exact law_rest bm hE) cs post h
end K08
end
section
set_option Elab.async false
set_option linter.all false
set_option maxRecDepth 100000
set_option maxHeartbeats 4000000
open PySem PySem.Spec PyProof.Rows L2 DL
namespace K08
theorem all_mk {P : Program} {w : World} {K : PySem.W.Frag} {h : Heap} {mg : Str → Option Value} {base : Heap} (X : K.In h) (G : h.Ns mainGlobals mg)
    {f0 : Addr} {oc0 : Value} {od0 an0 : Option Addr} {sl0 : Array (Option Value)} {kV0 dc0 pm0 cd0 ct0 : Value}
    (a0 : PySem.W.nsIn K mainGlobals "is_number" = some (some (.ref f0))) (l0 : K.lookup f0 = some ⟨oc0, od0, .func (PySem.W.fnOf "is_number" "is_number" (defArgs s_is_number) (defBody s_is_number) (defScope s_is_number) .none kV0 dc0 pm0 an0 cd0 ct0), sl0⟩) (c0 : PySem.W.codeIn K cd0 "is_number" = true) (k0 : PySem.W.keepIn K (.ref f0) = true)
    {f1 : Addr} {oc1 : Value} {od1 an1 : Option Addr} {sl1 : Array (Option Value)} {kV1 dc1 pm1 cd1 ct1 : Value}
    (a1 : PySem.W.nsIn K mainGlobals "is_bit" = some (some (.ref f1))) (l1 : K.lookup f1 = some ⟨oc1, od1, .func (PySem.W.fnOf "is_bit" "is_bit" (defArgs s_is_bit) (defBody s_is_bit) (defScope s_is_bit) .none kV1 dc1 pm1 an1 cd1 ct1), sl1⟩) (c1 : PySem.W.codeIn K cd1 "is_bit" = true) (k1 : PySem.W.keepIn K (.ref f1) = true)
    {f2 : Addr} {oc2 : Value} {od2 an2 : Option Addr} {sl2 : Array (Option Value)} {kV2 dc2 pm2 cd2 ct2 : Value}
    (a2 : PySem.W.nsIn K mainGlobals "is_row" = some (some (.ref f2))) (l2 : K.lookup f2 = some ⟨oc2, od2, .func (PySem.W.fnOf "is_row" "is_row" (defArgs s_is_row) (defBody s_is_row) (defScope s_is_row) .none kV2 dc2 pm2 an2 cd2 ct2), sl2⟩) (c2 : PySem.W.codeIn K cd2 "is_row" = true) (k2 : PySem.W.keepIn K (.ref f2) = true)
    {f3 : Addr} {oc3 : Value} {od3 an3 : Option Addr} {sl3 : Array (Option Value)} {kV3 dc3 pm3 cd3 ct3 : Value}
    (a3 : PySem.W.nsIn K mainGlobals "ones" = some (some (.ref f3))) (l3 : K.lookup f3 = some ⟨oc3, od3, .func (PySem.W.fnOf "ones" "ones" (defArgs s_ones) (defBody s_ones) (defScope s_ones) .none kV3 dc3 pm3 an3 cd3 ct3), sl3⟩) (c3 : PySem.W.codeIn K cd3 "ones" = true) (k3 : PySem.W.keepIn K (.ref f3) = true)
    {f4 : Addr} {oc4 : Value} {od4 an4 : Option Addr} {sl4 : Array (Option Value)} {kV4 dc4 pm4 cd4 ct4 : Value}
    (a4 : PySem.W.nsIn K mainGlobals "of_one_length" = some (some (.ref f4))) (l4 : K.lookup f4 = some ⟨oc4, od4, .func (PySem.W.fnOf "of_one_length" "of_one_length" (defArgs s_of_one_length) (defBody s_of_one_length) (defScope s_of_one_length) .none kV4 dc4 pm4 an4 cd4 ct4), sl4⟩) (c4 : PySem.W.codeIn K cd4 "of_one_length" = true) (k4 : PySem.W.keepIn K (.ref f4) = true)
    {f5 : Addr} {oc5 : Value} {od5 an5 : Option Addr} {sl5 : Array (Option Value)} {kV5 dc5 pm5 cd5 ct5 : Value}
    (a5 : PySem.W.nsIn K mainGlobals "overlap" = some (some (.ref f5))) (l5 : K.lookup f5 = some ⟨oc5, od5, .func (PySem.W.fnOf "overlap" "overlap" (defArgs s_overlap) (defBody s_overlap) (defScope s_overlap) .none kV5 dc5 pm5 an5 cd5 ct5), sl5⟩) (c5 : PySem.W.codeIn K cd5 "overlap" = true) (k5 : PySem.W.keepIn K (.ref f5) = true)
    {f6 : Addr} {oc6 : Value} {od6 an6 : Option Addr} {sl6 : Array (Option Value)} {kV6 dc6 pm6 cd6 ct6 : Value}
    (a6 : PySem.W.nsIn K mainGlobals "met_ends" = some (some (.ref f6))) (l6 : K.lookup f6 = some ⟨oc6, od6, .func (PySem.W.fnOf "met_ends" "met_ends" (defArgs s_met_ends) (defBody s_met_ends) (defScope s_met_ends) .none kV6 dc6 pm6 an6 cd6 ct6), sl6⟩) (c6 : PySem.W.codeIn K cd6 "met_ends" = true) (k6 : PySem.W.keepIn K (.ref f6) = true)
    {f7 : Addr} {oc7 : Value} {od7 an7 : Option Addr} {sl7 : Array (Option Value)} {kV7 dc7 pm7 cd7 ct7 : Value}
    (a7 : PySem.W.nsIn K mainGlobals "leaning_rows" = some (some (.ref f7))) (l7 : K.lookup f7 = some ⟨oc7, od7, .func (PySem.W.fnOf "leaning_rows" "leaning_rows" (defArgs s_leaning_rows) (defBody s_leaning_rows) (defScope s_leaning_rows) .none kV7 dc7 pm7 an7 cd7 ct7), sl7⟩) (c7 : PySem.W.codeIn K cd7 "leaning_rows" = true) (k7 : PySem.W.keepIn K (.ref f7) = true)
    {f8 : Addr} {oc8 : Value} {od8 an8 : Option Addr} {sl8 : Array (Option Value)} {kV8 dc8 pm8 cd8 ct8 : Value}
    (a8 : PySem.W.nsIn K mainGlobals "shows_rows" = some (some (.ref f8))) (l8 : K.lookup f8 = some ⟨oc8, od8, .func (PySem.W.fnOf "shows_rows" "shows_rows" (defArgs s_shows_rows) (defBody s_shows_rows) (defScope s_shows_rows) .none kV8 dc8 pm8 an8 cd8 ct8), sl8⟩) (c8 : PySem.W.codeIn K cd8 "shows_rows" = true) (k8 : PySem.W.keepIn K (.ref f8) = true)
    {f9 : Addr} {oc9 : Value} {od9 an9 : Option Addr} {sl9 : Array (Option Value)} {kV9 dc9 pm9 cd9 ct9 : Value}
    (a9 : PySem.W.nsIn K mainGlobals "_law_box" = some (some (.ref f9))) (l9 : K.lookup f9 = some ⟨oc9, od9, .func (PySem.W.fnOf "_law_box" "_law_box" (defArgs s_law_box) (defBody s_law_box) (defScope s_law_box) .none kV9 dc9 pm9 an9 cd9 ct9), sl9⟩) (c9 : PySem.W.codeIn K cd9 "_law_box" = true) (k9 : PySem.W.keepIn K (.ref f9) = true)
    {f10 : Addr} {oc10 : Value} {od10 an10 : Option Addr} {sl10 : Array (Option Value)} {kV10 dc10 pm10 cd10 ct10 : Value}
    (a10 : PySem.W.nsIn K mainGlobals "_law_take" = some (some (.ref f10))) (l10 : K.lookup f10 = some ⟨oc10, od10, .func (PySem.W.fnOf "_law_take" "_law_take" (defArgs s_law_take) (defBody s_law_take) (defScope s_law_take) .none kV10 dc10 pm10 an10 cd10 ct10), sl10⟩) (c10 : PySem.W.codeIn K cd10 "_law_take" = true) (k10 : PySem.W.keepIn K (.ref f10) = true)
    {f11 : Addr} {oc11 : Value} {od11 an11 : Option Addr} {sl11 : Array (Option Value)} {kV11 dc11 pm11 cd11 ct11 : Value}
    (a11 : PySem.W.nsIn K mainGlobals "_law_folded" = some (some (.ref f11))) (l11 : K.lookup f11 = some ⟨oc11, od11, .func (PySem.W.fnOf "_law_folded" "_law_folded" (defArgs s_law_folded) (defBody s_law_folded) (defScope s_law_folded) .none kV11 dc11 pm11 an11 cd11 ct11), sl11⟩) (c11 : PySem.W.codeIn K cd11 "_law_folded" = true) (k11 : PySem.W.keepIn K (.ref f11) = true)
    {f12 : Addr} {oc12 : Value} {od12 an12 : Option Addr} {sl12 : Array (Option Value)} {kV12 dc12 pm12 cd12 ct12 : Value}
    (a12 : PySem.W.nsIn K mainGlobals "_law_told" = some (some (.ref f12))) (l12 : K.lookup f12 = some ⟨oc12, od12, .func (PySem.W.fnOf "_law_told" "_law_told" (defArgs s_law_told) (defBody s_law_told) (defScope s_law_told) .none kV12 dc12 pm12 an12 cd12 ct12), sl12⟩) (c12 : PySem.W.codeIn K cd12 "_law_told" = true) (k12 : PySem.W.keepIn K (.ref f12) = true)
    {f13 : Addr} {oc13 : Value} {od13 an13 : Option Addr} {sl13 : Array (Option Value)} {kV13 dc13 pm13 cd13 ct13 : Value}
    (a13 : PySem.W.nsIn K mainGlobals "_law_due" = some (some (.ref f13))) (l13 : K.lookup f13 = some ⟨oc13, od13, .func (PySem.W.fnOf "_law_due" "_law_due" (defArgs s_law_due) (defBody s_law_due) (defScope s_law_due) .none kV13 dc13 pm13 an13 cd13 ct13), sl13⟩) (c13 : PySem.W.codeIn K cd13 "_law_due" = true) (k13 : PySem.W.keepIn K (.ref f13) = true)
    {f14 : Addr} {oc14 : Value} {od14 an14 : Option Addr} {sl14 : Array (Option Value)} {kV14 dc14 pm14 cd14 ct14 : Value}
    (a14 : PySem.W.nsIn K mainGlobals "_law_made" = some (some (.ref f14))) (l14 : K.lookup f14 = some ⟨oc14, od14, .func (PySem.W.fnOf "_law_made" "_law_made" (defArgs s_law_made) (defBody s_law_made) (defScope s_law_made) .none kV14 dc14 pm14 an14 cd14 ct14), sl14⟩) (c14 : PySem.W.codeIn K cd14 "_law_made" = true) (k14 : PySem.W.keepIn K (.ref f14) = true)
    {f15 : Addr} {oc15 : Value} {od15 an15 : Option Addr} {sl15 : Array (Option Value)} {kV15 dc15 pm15 cd15 ct15 : Value}
    (a15 : PySem.W.nsIn K mainGlobals "_law_otherwise" = some (some (.ref f15))) (l15 : K.lookup f15 = some ⟨oc15, od15, .func (PySem.W.fnOf "_law_otherwise" "_law_otherwise" (defArgs s_law_otherwise) (defBody s_law_otherwise) (defScope s_law_otherwise) .none kV15 dc15 pm15 an15 cd15 ct15), sl15⟩) (c15 : PySem.W.codeIn K cd15 "_law_otherwise" = true) (k15 : PySem.W.keepIn K (.ref f15) = true)
    {f16 : Addr} {oc16 : Value} {od16 an16 : Option Addr} {sl16 : Array (Option Value)} {kV16 dc16 pm16 cd16 ct16 : Value}
    (a16 : PySem.W.nsIn K mainGlobals "law" = some (some (.ref f16))) (l16 : K.lookup f16 = some ⟨oc16, od16, .func (PySem.W.fnOf "law" "law" (defArgs s_law) (defBody s_law) (defScope s_law) .none kV16 dc16 pm16 an16 cd16 ct16), sl16⟩) (c16 : PySem.W.codeIn K cd16 "law" = true) (k16 : PySem.W.keepIn K (.ref f16) = true)
    (z0 : PySem.W.nsIn K mainGlobals "ValueError" = some none)
    (z1 : PySem.W.nsIn K mainGlobals "abs" = some none)
    (z2 : PySem.W.nsIn K mainGlobals "all" = some none)
    (z3 : PySem.W.nsIn K mainGlobals "any" = some none)
    (z4 : PySem.W.nsIn K mainGlobals "bool" = some none)
    (z5 : PySem.W.nsIn K mainGlobals "divmod" = some none)
    (z6 : PySem.W.nsIn K mainGlobals "enumerate" = some none)
    (z7 : PySem.W.nsIn K mainGlobals "int" = some none)
    (z8 : PySem.W.nsIn K mainGlobals "isinstance" = some none)
    (z9 : PySem.W.nsIn K mainGlobals "len" = some none)
    (z10 : PySem.W.nsIn K mainGlobals "list" = some none)
    (z11 : PySem.W.nsIn K mainGlobals "max" = some none)
    (z12 : PySem.W.nsIn K mainGlobals "min" = some none)
    (z13 : PySem.W.nsIn K mainGlobals "range" = some none)
    (z14 : PySem.W.nsIn K mainGlobals "sum" = some none)
    (z15 : PySem.W.nsIn K mainGlobals "tuple" = some none)
    (z16 : PySem.W.nsIn K mainGlobals "zip" = some none)
    {gt0 : Tok} (cn0 : PySem.W.nsIn K mainGlobals "MOST_BITS" = some (some (.int 4096 gt0)))
    (xk : xOk K c_rs c_zs = true)
    (xcNoSuch : xClsOk K "NoSuch" = true) :
    Def P w K mg base 5 "law" 1 spLaw := by
  have T : Txt K mg := ⟨is_mk X G a0 l0 c0 k0 (fun _ _ _ _ _ _ us hl => match us, hl with | [_], _ => rfl),
    is_mk X G a1 l1 c1 k1 (fun _ _ _ _ _ _ us hl => match us, hl with | [_], _ => rfl),
    is_mk X G a2 l2 c2 k2 (fun _ _ _ _ _ _ us hl => match us, hl with | [_], _ => rfl),
    is_mk X G a3 l3 c3 k3 (fun _ _ _ _ _ _ us hl => match us, hl with | [_], _ => rfl),
    is_mk X G a4 l4 c4 k4 (fun _ _ _ _ _ _ us hl => match us, hl with | [_], _ => rfl),
    is_mk X G a5 l5 c5 k5 (fun _ _ _ _ _ _ us hl => match us, hl with | [_, _], _ => rfl),
    is_mk X G a6 l6 c6 k6 (fun _ _ _ _ _ _ us hl => match us, hl with | [_, _, _], _ => rfl),
    is_mk X G a7 l7 c7 k7 (fun _ _ _ _ _ _ us hl => match us, hl with | [_, _, _, _], _ => rfl),
    is_mk X G a8 l8 c8 k8 (fun _ _ _ _ _ _ us hl => match us, hl with | [_, _, _, _, _], _ => rfl),
    is_mk X G a9 l9 c9 k9 (fun _ _ _ _ _ _ us hl => match us, hl with | [_, _], _ => rfl),
    is_mk X G a10 l10 c10 k10 (fun _ _ _ _ _ _ us hl => match us, hl with | [_, _], _ => rfl),
    is_mk X G a11 l11 c11 k11 (fun _ _ _ _ _ _ us hl => match us, hl with | [_, _], _ => rfl),
    is_mk X G a12 l12 c12 k12 (fun _ _ _ _ _ _ us hl => match us, hl with | [_, _, _, _], _ => rfl),
    is_mk X G a13 l13 c13 k13 (fun _ _ _ _ _ _ us hl => match us, hl with | [_, _, _, _, _], _ => rfl),
    is_mk X G a14 l14 c14 k14 (fun _ _ _ _ _ _ us hl => match us, hl with | [_, _, _, _, _], _ => rfl),
    is_mk X G a15 l15 c15 k15 (fun _ _ _ _ _ _ us hl => match us, hl with | [_, _], _ => rfl),
    is_mk X G a16 l16 c16 k16 (fun _ _ _ _ _ _ us hl => match us, hl with | [_], _ => rfl),
    PySem.W.mg_none_of X G z0,
    PySem.W.mg_none_of X G z1,
    PySem.W.mg_none_of X G z2,
    PySem.W.mg_none_of X G z3,
    PySem.W.mg_none_of X G z4,
    PySem.W.mg_none_of X G z5,
    PySem.W.mg_none_of X G z6,
    PySem.W.mg_none_of X G z7,
    PySem.W.mg_none_of X G z8,
    PySem.W.mg_none_of X G z9,
    PySem.W.mg_none_of X G z10,
    PySem.W.mg_none_of X G z11,
    PySem.W.mg_none_of X G z12,
    PySem.W.mg_none_of X G z13,
    PySem.W.mg_none_of X G z14,
    PySem.W.mg_none_of X G z15,
    PySem.W.mg_none_of X G z16,
    glob_int X G cn0,
    xtab_mk X G xk,
    xcls_mk X G xcNoSuch⟩
  have D_is_number := w_is_number (P := P) (w := w) (base := base) T (fun cs post _ => p_is_number cs post)
  have D_is_bit := w_is_bit (P := P) (w := w) (base := base) T D_is_number (fun cs post _ => p_is_bit cs post)
  have D_is_row := w_is_row (P := P) (w := w) (base := base) T D_is_bit (fun cs post _ => p_is_row cs post)
  have D_ones := w_ones (P := P) (w := w) (base := base) T (fun cs post _ => p_ones cs post)
  have D_of_one_length := w_of_one_length (P := P) (w := w) (base := base) T (fun cs post _ => p_of_one_length cs post)
  have D_overlap := w_overlap (P := P) (w := w) (base := base) T D_of_one_length (fun cs post _ => p_overlap cs post)
  have D_met_ends := w_met_ends (P := P) (w := w) (base := base) T (fun cs post _ => p_met_ends cs post)
  have D_leaning_rows := w_leaning_rows (P := P) (w := w) (base := base) T D_met_ends (fun cs post xp _ => p_leaning_rows cs post xp)
  have D_shows_rows := w_shows_rows (P := P) (w := w) (base := base) T D_is_row D_ones D_overlap (fun cs post _ => p_shows_rows cs post)
  have D_law_box := w_law_box (P := P) (w := w) (base := base) T (fun cs post _ => p_box cs post)
  have D_law_take := w_law_take (P := P) (w := w) (base := base) T (fun cs post _ => p_take cs post)
  have D_law_folded := w_law_folded (P := P) (w := w) (base := base) T (fun cs post _ => p_fold cs post)
  have D_law_told := w_law_told (P := P) (w := w) (base := base) T D_leaning_rows (fun cs post _ => p_law_told cs post)
  have D_law_due := w_law_due (P := P) (w := w) (base := base) T (fun cs post _ => p_law_due cs post)
  have D_law_made := w_law_made (P := P) (w := w) (base := base) T D_law_take (fun cs post _ => p_law_made cs post)
  have D_law_otherwise := w_law_otherwise (P := P) (w := w) (base := base) T D_law_take (fun cs post _ => p_law_otherwise cs post)
  have D_law := w_law (P := P) (w := w) (base := base) T D_law_box D_law_due D_law_folded D_law_made D_law_otherwise D_law_take D_law_told D_shows_rows (fun cs post _ => p_law cs post)
  exact D_law
end K08
set_option maxHeartbeats 0 in
theorem PySem.Challenge.cw_shareones_k08_rows_that_meet_so_often_holds : PySem.Challenge.rw_shareones_k08_rows_that_meet_so_often.Holds := by
  w_on; o_law; k_head; (case hw => w_witness2)
  k_fill
  refine DL.law_end (l := PySem.Challenge.rw_shareones_k08_rows_that_meet_so_often) (k := 5) rfl rfl ⟨rfl, by decide, by decide⟩ rfl (fun w h Y => PySem.W.kIn_of Y) ?F
  case F =>
    intro w mg h KX G base _ _
    refine' K08.all_mk KX G ?a0 ?l0 ?c0 ?k0 ?a1 ?l1 ?c1 ?k1 ?a2 ?l2 ?c2 ?k2 ?a3 ?l3 ?c3 ?k3 ?a4 ?l4 ?c4 ?k4 ?a5 ?l5 ?c5 ?k5 ?a6 ?l6 ?c6 ?k6 ?a7 ?l7 ?c7 ?k7 ?a8 ?l8 ?c8 ?k8 ?a9 ?l9 ?c9 ?k9 ?a10 ?l10 ?c10 ?k10 ?a11 ?l11 ?c11 ?k11 ?a12 ?l12 ?c12 ?k12 ?a13 ?l13 ?c13 ?k13 ?a14 ?l14 ?c14 ?k14 ?a15 ?l15 ?c15 ?k15 ?a16 ?l16 ?c16 ?k16 ?z0 ?z1 ?z2 ?z3 ?z4 ?z5 ?z6 ?z7 ?z8 ?z9 ?z10 ?z11 ?z12 ?z13 ?z14 ?z15 ?z16 ?cn0 ?xk ?xcNoSuch
    (case a0 => k_is); (case l0 => k_is); (case c0 => k_is); (case k0 => k_is)
    (case a1 => k_is); (case l1 => k_is); (case c1 => k_is); (case k1 => k_is)
    (case a2 => k_is); (case l2 => k_is); (case c2 => k_is); (case k2 => k_is)
    (case a3 => k_is); (case l3 => k_is); (case c3 => k_is); (case k3 => k_is)
    (case a4 => k_is); (case l4 => k_is); (case c4 => k_is); (case k4 => k_is)
    (case a5 => k_is); (case l5 => k_is); (case c5 => k_is); (case k5 => k_is)
    (case a6 => k_is); (case l6 => k_is); (case c6 => k_is); (case k6 => k_is)
    (case a7 => k_is); (case l7 => k_is); (case c7 => k_is); (case k7 => k_is)
    (case a8 => k_is); (case l8 => k_is); (case c8 => k_is); (case k8 => k_is)
    (case a9 => k_is); (case l9 => k_is); (case c9 => k_is); (case k9 => k_is)
    (case a10 => k_is); (case l10 => k_is); (case c10 => k_is); (case k10 => k_is)
    (case a11 => k_is); (case l11 => k_is); (case c11 => k_is); (case k11 => k_is)
    (case a12 => k_is); (case l12 => k_is); (case c12 => k_is); (case k12 => k_is)
    (case a13 => k_is); (case l13 => k_is); (case c13 => k_is); (case k13 => k_is)
    (case a14 => k_is); (case l14 => k_is); (case c14 => k_is); (case k14 => k_is)
    (case a15 => k_is); (case l15 => k_is); (case c15 => k_is); (case k15 => k_is)
    (case a16 => k_is); (case l16 => k_is); (case c16 => k_is); (case k16 => k_is)
    (case z0 => k_is)
    (case z1 => k_is)
    (case z2 => k_is)
    (case z3 => k_is)
    (case z4 => k_is)
    (case z5 => k_is)
    (case z6 => k_is)
    (case z7 => k_is)
    (case z8 => k_is)
    (case z9 => k_is)
    (case z10 => k_is)
    (case z11 => k_is)
    (case z12 => k_is)
    (case z13 => k_is)
    (case z14 => k_is)
    (case z15 => k_is)
    (case z16 => k_is)
    (case cn0 => k_is)
    (case xk => kernel_rfl)
    (case xcNoSuch => kernel_rfl)
end
#print axioms PySem.Challenge.cw_shareones_k08_rows_that_meet_so_often_holds
