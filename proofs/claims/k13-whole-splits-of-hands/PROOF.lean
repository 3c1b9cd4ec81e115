import PyProof.Rows.All
import Wide.All
import OpenK.AllK
import Wide.FinOn
import HandS.ForMost
import HandS.ForExc
import HandS.Deep
import HandS.Conv
import HandS.Style
import HandS.TupAny
import HandS.TupMul
import HandS.IsInst
import HandS.Zip
import KE.GoesEnum
import KE.KDictZip
import HandS.Strs
import HandS.SetFor
import HandS.TupSets
import KE.DataMinMax
import HandS.SortRule
import HandS.SortInts
import HandS.ExcOwn
import HandS.ExcValue
import HandS.Exc
import HandS.More
import HandS.Small
import HandS.Words
import HandS.WordsExc
import HandS.EndBits
import PySem.Challenge.RW_pedalholds_k13_whole_splits_of_hands
set_option Elab.async false
section
set_option Elab.async false
set_option linter.all false
set_option maxRecDepth 100000
set_option maxHeartbeats 1000000
/-! zip and enumerate over lists and tuples in any mix -/
namespace Co
open PySem L2 PyProof.Rows

/-- a list or a tuple, as it is walked -/
structure Kin where
  Sq : PySem.W.Frag → Hp → Addr → List V → Prop
  Sit : Heap → Addr → Addr → Nat → Prop
  Is : Heap → Addr → Array Value → Prop
  ob : Addr → Obj
  inv : ∀ {X : Cx} {pins : List (Addr × Obj)} {σ : L2.St} {H : Hp} {s : Shared} {a : Addr} {xs : List V}, Inv X pins σ H s → Sq X.K H a xs → ∃ its : List Value, L2.Vals xs its ∧ Is s.heap a its.toArray ∧ a < s.heap.objs.size
  inj : ∀ {X : Cx} {pins : List (Addr × Obj)} {σ : L2.St} {H : Hp} {s : Shared} {a : Addr} {xs ys : List V}, Inv X pins σ H s → Sq X.K H a xs → Sq X.K H a ys → xs = ys
  draws : ∀ {prog : Program} {w : World} {A : Around}, A.handled = none → ∀ (it l : Addr), l ≠ it → ∀ items : Array Value, Draws prog w A it [it, l] items.size (fun i v => items[i]? = some v) (fun i h => Sit h it l i ∧ Is h l items)
  beg : ∀ (l : Addr) (items : Array Value), Begins (.ref l) (ob l) (fun h => Is h l items)
  start : ∀ {h : Heap} {it l : Addr}, h.get? it = some (ob l) → Sit h it l 0
  obj : ∀ {h : Heap} {it l : Addr} {i : Nat}, Sit h it l i → ∃ o, h.get? it = some o ∧ ∀ v, o.data ≠ .cell v
  at_ : ∀ {h h' : Heap} {it l : Addr} {i : Nat}, Sit h it l i → (∀ o, h.get? it = some o → h'.get? it = some o) → Sit h' it l i
def kinL : Kin where
  Sq := SqL
  Sit := fun h it l i => h.IsListIter it l i
  Is := fun h l items => h.IsList l items
  ob := fun l => { cls := .type "list_iterator", data := .fields #[.ref l, .int 0 0] }
  inv := fun I q => let ⟨its, r, p, _⟩ := I.list q; ⟨its, r, p.isList, p.lt⟩
  inj := fun I q q' => I.list_inj q q'
  draws := fun hh it l hne items => Draws.list hh it l hne items
  beg := begins_list
  start := fun e => ⟨_, e, rfl, rfl⟩
  obj := fun ⟨o, e, _, d⟩ => ⟨o, e, fun v q => by rw [d] at q; cases q⟩
  at_ := fun st k => st.at k
def kinT : Kin where
  Sq := SqT
  Sit := fun h it l i => h.IsTupleIter it l i
  Is := fun h l items => h.IsTuple l items
  ob := fun l => { cls := .type "tuple_iterator", data := .fields #[.ref l, .int 0 0] }
  inv := fun I q => let ⟨its, r, p, _⟩ := I.tuple q; ⟨its, r, p, p.lt⟩
  inj := fun I q q' => I.tuple_inj q q'
  draws := fun hh it l hne items => Draws.tuple hh it l hne items
  beg := begins_tuple
  start := fun e => ⟨_, e, rfl, rfl⟩
  obj := fun ⟨o, e, _, d⟩ => ⟨o, e, fun v q => by rw [d] at q; cases q⟩
  at_ := fun st k => st.at k
/-- pairs of the items of two -/
def ItzK (k1 k2 : Kin) (K : PySem.W.Frag) (a b : Addr) : L2.It :=
  ⟨fun i H => ∃ (xs ys : List V) (x y : V), k1.Sq K H a xs ∧ k2.Sq K H b ys ∧ xs[i]? = some x ∧ ys[i]? = some y,
    fun i H v H' => ∃ T x y, v = .ref T ∧ H T = none ∧ H' = upd H T (.tup [x, y]) ∧ (∀ xs, k1.Sq K H a xs → xs[i]? = some x) ∧ ∀ ys, k2.Sq K H b ys → ys[i]? = some y,
    fun i H => ∃ xs ys : List V, k1.Sq K H a xs ∧ k2.Sq K H b ys ∧ i = min xs.length ys.length⟩
abbrev ZSt (k1 k2 : Kin) (a b z TI TO i1 i2 : Addr) (i : Nat) (h : Heap) : Prop := IsZip h z TI TO .none ∧ IsTupOf2 h TI (.ref i1) (.ref i2) ∧ (∃ x y, IsTupOf2 h TO x y) ∧ k1.Sit h i1 a i ∧ k2.Sit h i2 b i
theorem mem5 {c z TI TO i1 i2 : Addr} (h : c ∈ [z, TI, TO, i1, i2]) : c = z ∨ c = TI ∨ c = TO ∨ c = i1 ∨ c = i2 := by simpa using h
theorem zst_obj {k1 k2 : Kin} {a b z TI TO i1 i2 : Addr} {i : Nat} {h : Heap} (st : ZSt k1 k2 a b z TI TO i1 i2 i h) : ∀ c ∈ [z, TI, TO, i1, i2], ∃ o, h.get? c = some o ∧ ∀ v, o.data ≠ .cell v := fun c hc => by
  obtain ⟨hz, ht, ⟨x, y, hto⟩, h1, h2⟩ := st
  rcases mem5 hc with q | q | q | q | q <;> rw [q]
  · exact ⟨_, hz, nofun⟩
  · exact ⟨_, ht, nofun⟩
  · exact ⟨_, hto, nofun⟩
  · exact k1.obj h1
  · exact k2.obj h2
theorem turn_zipK {P : Program} {w : World} {K : PySem.W.Frag} {elts : List Expr} {kk : Nat} {tpos : Pos} (k1 k2 : Kin) {a b z TI TO i1 i2 : Addr} (S : ZipSep2 z TI TO i1 i2 [i1, a] [i2, b]) (n1 : a ≠ i1) (n2 : b ≠ i2) :
    Turn P w K (.Tuple elts kk tpos) (ItzK k1 k2 K a b) [z, TI, TO, i1, i2] z (ZSt k1 k2 a b z TI TO i1 i2) where
  mem := by simp
  obj := fun i h st => zst_obj st
  keep := fun i h h' st k => by
    obtain ⟨hz, ht, ⟨x, y, hto⟩, h1, h2⟩ := st
    exact ⟨k z (by simp) _ hz, k TI (by simp) _ ht, ⟨x, y, k TO (by simp) _ hto⟩, k1.at_ h1 fun o q => k i1 (by simp) o q, k2.at_ h2 fun o q => k i2 (by simp) o q⟩
  item := by
    intro X hP hw hK hc i pins s σ H E I hf st hg
    subst hP hw hK
    have sto := zst_obj st
    obtain ⟨hz, ht, hto, h1, h2⟩ := st
    obtain ⟨xs, ys, x, y, qx, qy, hx, hy⟩ := hg
    obtain ⟨its, rv, p, la⟩ := k1.inv I qx
    obtain ⟨its2, rv2, p2, lb⟩ := k2.inv I qy
    obtain ⟨u, hu, ru⟩ := rv.get hx
    obtain ⟨u2, hu2, ru2⟩ := rv2.get hy
    have hh : X.A.in1.handled = none := I.ok.hd hc
    have W := WalksT.zipD2 (prog := X.prog) (w := X.w) (A := X.A) S (k1.draws hh i1 a n1 its.toArray) (k2.draws hh i2 b n2 its2.toArray)
    have li : i < min its.toArray.size its2.toArray.size := by
      have := (List.getElem?_eq_some_iff.mp hu).1
      have := (List.getElem?_eq_some_iff.mp hu2).1
      simp; omega
    refine W.item i s _ _ li ⟨hz, ht, hto, ⟨h1, p⟩, h2, p2⟩ fun T vals h' tk hp hle hT hm hk => ?_
    obtain ⟨v1, v2, e1, e2, rfl⟩ := hp
    have : its[i]? = some v1 := by simpa using e1
    rw [hu] at this; cases this
    have : its2[i]? = some v2 := by simpa using e2
    rw [hu2] at this; cases this
    refine ⟨_, rfl, W.go elts kk tpos i T { s with heap := h', toks := tk } _ _ hm fun h'' st'' hk2 => ?_⟩
    obtain ⟨oT, gT, cT, nT, dT⟩ := hT
    have gT2 : h''.get? T = some oT := hk2 T oT (W.apart i T h' hm) gT
    obtain ⟨z2, t2, to2, ⟨s1, _⟩, s2, _⟩ := st''
    have sub : ∀ c, c ∉ [z, TI, TO, i1, i2] → c ∉ [z, TO, i1, i2] := fun c hc q => hc (by
      have : c = z ∨ c = TO ∨ c = i1 ∨ c = i2 := by simpa using q
      rcases this with q | q | q | q <;> simp [q])
    have new : ObjOk X.prog X.w (upd H T (.tup [x, y])) h'' T (.tup [x, y]) := ⟨by show 2 ≤ sizeLine; decide, [u, u2], .cons ru (.cons ru2 .nil), oT, gT2, cT, nT, dT⟩
    have J : Inv X pins σ (upd H T (.tup [x, y])) { s with heap := h'', toks := tk } := I.turnedNew (ch := [z, TI, TO, i1, i2]) (fun c o hb q => hk2 c o (sub c hb) (hk c o (sub c hb) q)) hf hle new
    refine ⟨.ref T, _, J, rfl, ⟨T, x, y, rfl, I.hok.fresh hle, rfl, fun l hl => by rw [k1.inj I hl qx]; exact hx, fun l hl => by rw [k2.inj I hl qy]; exact hy⟩, ⟨z2, t2, to2, s1, s2⟩, fun c hc => ?_⟩
    obtain ⟨o, ho, _⟩ := sto c hc
    rw [upd_ne (Nat.ne_of_lt (Nat.lt_of_lt_of_le (Heap.lt_size ho) hle))]
    exact (hf c hc).1
  done := by
    intro X hP hw hK hc i pins s σ H E I hf st hg
    subst hP hw hK
    obtain ⟨hz, ht, hto, h1, h2⟩ := st
    obtain ⟨xs, ys, qx, qy, hi⟩ := hg
    obtain ⟨its, rv, p, la⟩ := k1.inv I qx
    obtain ⟨its2, rv2, p2, lb⟩ := k2.inv I qy
    have l1 := rv.length
    have l2 := rv2.length
    have hh : X.A.in1.handled = none := I.ok.hd hc
    have W := WalksT.zipD2 (prog := X.prog) (w := X.w) (A := X.A) S (k1.draws hh i1 a n1 its.toArray) (k2.draws hh i2 b n2 its2.toArray)
    have e : i = min its.toArray.size its2.toArray.size := by simp; omega
    refine W.done s _ _ (e ▸ ⟨hz, ht, hto, ⟨h1, p⟩, h2, p2⟩) fun h' tk hk => ⟨rfl, I.turnedL (ch := [z, TI, TO, i1, i2]) (fun c o hb q => hk c o (fun q => hb ?_) q) hf⟩
    have : c = z ∨ c = TO ∨ c = i1 ∨ c = i2 := by simpa using q
    rcases this with q | q | q | q <;> simp [q]
  self := fun A i s Q E st h => wpAny_pyIter_zip st.1 h
/-- new cells -/
theorem fresh_cells {X : Cx} {pins : List (Addr × Obj)} {σ : L2.St} {H : Hp} {s : Shared} (I : Inv X pins σ H s) {l : List Addr} (h : ∀ c ∈ l, s.heap.objs.size ≤ c) : ∀ c ∈ l, FpOk X pins H c := fun c hc =>
  I.fpOk (h c hc) (I.hok.fresh (h c hc))
theorem five_le (N : Addr) : ∀ c ∈ [N + 4, N + 2, N + 3, N, N + 1], N ≤ c := fun c hc => by
  rcases mem5 hc with q | q | q | q | q <;> rw [q]
  · exact Nat.le_add_right _ _
  · exact Nat.le_add_right _ _
  · exact Nat.le_add_right _ _
  · exact Nat.le_refl _
  · exact Nat.le_add_right _ _
theorem two_le (N : Addr) : ∀ c ∈ [N + 1, N], N ≤ c := fun c hc => by
  have : c = N + 1 ∨ c = N := by simpa using hc
  rcases this with q | q <;> rw [q]
  · exact Nat.le_add_right _ _
  · exact Nat.le_refl _
theorem vals_r2 {a b : Addr} {us : List Value} (h : L2.Vals [V.ref a, V.ref b] us) : us = [Value.ref a, Value.ref b] := by
  cases h with
  | cons r t =>
    cases t with
    | cons r' t => cases t; cases r; cases r'; rfl
theorem vals_r1 {a : Addr} {us : List Value} (h : L2.Vals [V.ref a] us) : us = [Value.ref a] := by
  cases h with
  | cons r t => cases t; cases r; rfl
def iZipK (K : PySem.W.Frag) (ta : TA) : TI := fun σ H R => ta σ H fun vs H1 => ∃ (k1 k2 : Kin) (a b : Addr) (xs ys : List V), vs = [.ref a, .ref b] ∧ k1.Sq K H1 a xs ∧ k2.Sq K H1 b ys ∧ R (ItzK k1 k2 K a b) H1
theorem sep_at {N : Nat} {a b : Addr} (la : a < N) (lb : b < N) : ZipSep2 (N + 4) (N + 2) (N + 3) N (N + 1) [N, a] [N + 1, b] :=
  zip_sep2 (fp1 := [a]) (fp2 := [b]) (fun c hc => by rw [List.mem_singleton.mp hc]; exact la) (fun c hc => by rw [List.mem_singleton.mp hc]; exact lb)
theorem pi_zipK {X : Cx} {e e2 : Expr} {ta : TA} {p pos tpos : Pos} {elts : List Expr} {kk : Nat} (hg : Gl X "zip") (hm : X.mg "zip" = none) (ha : PA X [e, e2] ta)
    (hs : starEach [e, e2] X.env = (false, eval e X.env) :: starEach [e2] X.env) (hpl : (backTo pos (starEach [e2] X.env)).any (·.1) = false) :
    PI X (.Tuple elts kk tpos) (.Call (.Name "zip" p) [e, e2] [] pos) (iZipK X.K ta) := by
  refine ⟨fun pins s σ H R I h => ?_⟩
  refine Call_ (ld_blt I hg hm PyProof.Rows.boot_zip (PyProof.Rows.callWith_type1 (thn (ha.run pos pins s σ H _ I h) fun us s1 ⟨vs, H1, J, r1, k1, k2, a, b, xs, ys, ex, qx, qy, q⟩ => ?_) hs hpl))
  subst ex
  rw [vals_r2 r1]
  obtain ⟨its, rv, p1, la⟩ := k1.inv J qx
  obtain ⟨its2, rv2, p2, lb⟩ := k2.inv J qy
  refine zip_begins2 (k1.beg a its.toArray) (k2.beg b its2.toArray) p1 p2 fun h' z1 t1 o1 g1 g2 _ hk => wpAny_pyIter_zip z1 ?_
  have fr := fresh_cells J (five_le s1.heap.objs.size)
  have tz := turn_zipK (P := X.prog) (w := X.w) (K := X.K) (elts := elts) (kk := kk) (tpos := tpos) k1 k2 (sep_at la lb) (Nat.ne_of_lt la) (Nat.ne_of_lt (Nat.lt_succ_of_lt lb))
  have J2 : Inv X pins σ H1 { s1 with heap := h' } := J.kept (t' := s1.toks) hk
  have st : ZSt k1 k2 a b (s1.heap.objs.size + 4) (s1.heap.objs.size + 2) (s1.heap.objs.size + 3) s1.heap.objs.size (s1.heap.objs.size + 1) 0 h' := ⟨z1, t1, ⟨_, _, o1⟩, k1.start g1, k2.start g2⟩
  exact ⟨s1.heap.objs.size + 4, _, _, _, H1, rfl, J2, tz, st, fr, q⟩
/-! enumerate -/
def IteK (k : Kin) (K : PySem.W.Frag) (a : Addr) : L2.It :=
  ⟨fun i H => ∃ (xs : List V) (x : V), k.Sq K H a xs ∧ xs[i]? = some x,
    fun i H v H' => ∃ T x, v = .ref T ∧ H T = none ∧ H' = upd H T (.tup [.int (i : Nat), x]) ∧ ∀ xs, k.Sq K H a xs → xs[i]? = some x,
    fun i H => ∃ xs : List V, k.Sq K H a xs ∧ i = xs.length⟩
abbrev EnSt (k : Kin) (a e it : Addr) (i : Nat) (h : Heap) : Prop := (∃ old, IsEnum h e it (0 + (i : Int)) old) ∧ k.Sit h it a i
theorem turn_enumK {P : Program} {w : World} {K : PySem.W.Frag} {elts : List Expr} {kk : Nat} {tpos : Pos} (k : Kin) {a e it : Addr} (n1 : e ≠ it) (n2 : e ≠ a) (n3 : a ≠ it) : Turn P w K (.Tuple elts kk tpos) (IteK k K a) [e, it] e (EnSt k a e it) where
  mem := by simp
  obj := fun i h st b hb => by
    obtain ⟨⟨old, he⟩, hi⟩ := st
    have : b = e ∨ b = it := by simpa using hb
    rcases this with q | q <;> rw [q]
    · exact ⟨_, he, nofun⟩
    · exact k.obj hi
  keep := fun i h h' st kp => ⟨let ⟨old, he⟩ := st.1; ⟨old, kp e (by simp) _ he⟩, k.at_ st.2 fun o q => kp it (by simp) o q⟩
  item := by
    intro X hP hw hK hc i pins s σ H E I hf st hg
    subst hP hw hK
    obtain ⟨xs, x, qx, hx⟩ := hg
    obtain ⟨its, rv, p, la⟩ := k.inv I qx
    obtain ⟨u, hu, ru⟩ := rv.get hx
    have hh : X.A.in1.handled = none := I.ok.hd hc
    have W := WalksT.enumFrom (prog := X.prog) (w := X.w) (A := X.A) 0 (k.draws hh it a n3 its.toArray) e n1 (by simp [n1, n2]) (by simp)
    have li : i < its.toArray.size := by
      have := (List.getElem?_eq_some_iff.mp hu).1
      simpa using this
    have lts : ∀ c ∈ [e, it], c < s.heap.objs.size := fun c hc => by
      have : c = e ∨ c = it := by simpa using hc
      rcases this with q | q <;> rw [q]
      · obtain ⟨_, he⟩ := st.1; exact Heap.lt_size he
      · obtain ⟨_, he, _⟩ := k.obj st.2; exact Heap.lt_size he
    refine W.item i s _ _ li ⟨st.1, st.2, p⟩ fun T vals h' tk hp hle hT hm hk => ?_
    obtain ⟨t, v1, e1, rfl⟩ := hp
    have : its[i]? = some v1 := by simpa using e1
    rw [hu] at this; cases this
    refine ⟨_, rfl, W.go elts kk tpos i T { s with heap := h', toks := tk } _ _ hm fun h'' st'' hk2 => ?_⟩
    obtain ⟨oT, gT, cT, nT, dT⟩ := hT
    have gT2 : h''.get? T = some oT := hk2 T oT (W.apart i T h' hm) gT
    have e0 : (0 : Int) + (i : Int) = ((i : Nat) : Int) := by omega
    have new : ObjOk X.prog X.w (upd H T (.tup [.int (i : Nat), x])) h'' T (.tup [.int (i : Nat), x]) := ⟨by show 2 ≤ sizeLine; decide, [.int (0 + (i : Int)) t, u], .cons (by rw [e0]; exact ⟨_, rfl⟩) (.cons ru .nil), oT, gT2, cT, nT, dT⟩
    have J : Inv X pins σ (upd H T (.tup [.int (i : Nat), x])) { s with heap := h'', toks := tk } := I.turnedNew (ch := [e, it]) (fun c o hb q => hk2 c o hb (hk c o hb q)) hf hle new
    refine ⟨.ref T, _, J, rfl, ⟨T, x, rfl, I.hok.fresh hle, rfl, fun l hl => by rw [k.inj I hl qx]; exact hx⟩, ⟨st''.1, st''.2.1⟩, fun c hc => ?_⟩
    rw [upd_ne (Nat.ne_of_lt (Nat.lt_of_lt_of_le (lts c hc) hle))]
    exact (hf c hc).1
  done := by
    intro X hP hw hK hc i pins s σ H E I hf st hg
    subst hP hw hK
    obtain ⟨xs, qx, hi⟩ := hg
    obtain ⟨its, rv, p, la⟩ := k.inv I qx
    have hh : X.A.in1.handled = none := I.ok.hd hc
    have W := WalksT.enumFrom (prog := X.prog) (w := X.w) (A := X.A) 0 (k.draws hh it a n3 its.toArray) e n1 (by simp [n1, n2]) (by simp)
    have l1 := rv.length
    have ei : i = its.toArray.size := by simp; omega
    exact W.done s _ _ (ei ▸ ⟨st.1, st.2, p⟩) fun h' tk hk => ⟨rfl, I.turnedL (ch := [e, it]) (fun c o hb q => hk c o hb q) hf⟩
  self := fun A i s Q E st h => let ⟨_, he⟩ := st.1; wpAny_pyIter_enum he h
theorem meets_enumK {v : Value} {o : Obj} {Hy : Heap → Prop} (B : Begins v o Hy) :
    Meets (Builtin.«enumerate.__new__» ⟨[.type "enumerate", v], []⟩) (fun _ R s => Hy s.heap ∧ R (.ok (.ret (.ref (s.heap.push o).objs.size))) { s with heap := (s.heap.push o).push { cls := .type "enumerate", data := .fields #[.none, .bool false, .ref s.heap.objs.size, rawInt 0, .none, .none] } }) :=
  .of_wp fun prog w A R s hs => by
    obtain ⟨hp, g, d, tk, os⟩ := s; obtain ⟨h1, hs⟩ := hs
    have hsub := sub_enumerate
    have q1 : ∀ {A' : Around} {E Q : Value → Shared → Prop}, Q (.ref hp.objs.size) ⟨hp.push o, g, d, tk, os⟩ → wpAny (model prog w) A' (pyIter v) Q E ⟨hp, g, d, tk, os⟩ := fun q => B.iter prog w _ _ ⟨hp, g, d, tk, os⟩ _ h1 q
    wp_walk using q1
    refine wpAny_stack_any fun st => wpAny_pure ?_
    split
    · rename_i c _ _ _ _ _
      cases (c == Value.type "enumerate") <;> (wp_walk using q1; exact ⟨_, rfl, hs⟩)
    · wp_walk using q1
      exact ⟨_, rfl, hs⟩
def iEnumK (K : PySem.W.Frag) (ta : TA) : TI := fun σ H R => ta σ H fun vs H1 => ∃ (k : Kin) (a : Addr) (xs : List V), vs = [.ref a] ∧ k.Sq K H1 a xs ∧ R (IteK k K a) H1
theorem pi_enumK {X : Cx} {e : Expr} {ta : TA} {p pos tpos : Pos} {elts : List Expr} {kk : Nat} (hg : Gl X "enumerate") (hm : X.mg "enumerate" = none) (ha : PA X [e] ta) (hs : starEach [e] X.env = [(false, eval e X.env)]) :
    PI X (.Tuple elts kk tpos) (.Call (.Name "enumerate" p) [e] [] pos) (iEnumK X.K ta) := by
  refine ⟨fun pins s σ H R I h => ?_⟩
  refine Call_ (ld_blt I hg hm boot_enumerate (PyProof.Rows.callWith_type1 (thn (ha.run pos pins s σ H _ I h) fun us s1 ⟨vs, H1, J, r1, k, a, xs, ex, qx, q⟩ => ?_) hs rfl))
  subst ex
  rw [vals_r1 r1]
  obtain ⟨its, rv, p1, la⟩ := k.inv J qx
  refine callType_new F.called_enumerate (by decide) (F.typeCall_enumerate_1 _) (F.newCall_enumerate_1 _) (fun obj => F.args_object_init_2 obj _) F.entry_enumerate_new (meets_enumK (k.beg a its.toArray)) ⟨p1, ?_⟩
  have zs : (s1.heap.push (k.ob a)).objs.size = s1.heap.objs.size + 1 := Heap.size_push ..
  have he : IsEnum ((s1.heap.push (k.ob a)).push { cls := .type "enumerate", data := .fields #[.none, .bool false, .ref s1.heap.objs.size, rawInt 0, .none, .none] }) (s1.heap.objs.size + 1) s1.heap.objs.size 0 .none := zs ▸ Heap.get?_push_size (s1.heap.push (k.ob a)) rfl
  have hi : ((s1.heap.push (k.ob a)).push { cls := .type "enumerate", data := .fields #[.none, .bool false, .ref s1.heap.objs.size, rawInt 0, .none, .none] }).get? s1.heap.objs.size = some (k.ob a) := Heap.get?_push_of_some _ (Heap.get?_push_size _ (k.beg a its.toArray).free)
  show _ ∧ _
  rw [zs]
  refine ⟨⟨_, he, rfl⟩, wpAny_pyIter_enum he ?_⟩
  have fr := fresh_cells J (two_le s1.heap.objs.size)
  have te := turn_enumK (P := X.prog) (w := X.w) (K := X.K) (elts := elts) (kk := kk) (tpos := tpos) k (a := a) (Nat.succ_ne_self s1.heap.objs.size) (Nat.ne_of_gt (Nat.lt_succ_of_lt la)) (Nat.ne_of_lt la)
  have kp : ∀ c o, s1.heap.get? c = some o → ((s1.heap.push (k.ob a)).push { cls := .type "enumerate", data := .fields #[.none, .bool false, .ref s1.heap.objs.size, rawInt 0, .none, .none] }).get? c = some o := fun c o x => Heap.get?_push_of_some _ (Heap.get?_push_of_some _ x)
  exact ⟨s1.heap.objs.size + 1, _, _, _, H1, rfl, J.kept (t' := s1.toks) kp, te, ⟨⟨.none, he⟩, k.start hi⟩, fr, q⟩
end Co
end

section
set_option Elab.async false
set_option linter.all false
set_option maxRecDepth 100000
set_option maxHeartbeats 1000000
/-! list(zip(a, b)) -/
namespace Co
open PySem L2 PyProof.Rows
section
variable {prog : Program} {w : World} {A : Around} {E : Value → Shared → Prop} {s : Shared} {z TI TO T i1 i2 : Addr} {fp1 fp2 : List Addr} {f : Bool} {oT : Obj} {n1 n2 i : Nat} {P1 P2 : Nat → Value → Prop} {St1 St2 : Nat → Heap → Prop}
theorem zh_item {Q : Value → Shared → Prop} (S : ZipSep2 z TI TO i1 i2 fp1 fp2) (D1 : Draws prog w A i1 fp1 n1 P1 St1) (D2 : Draws prog w A i2 fp2 n2 P2 St2) (Z : IsZipHeld s.heap z TI TO T f) (hT : s.heap.get? T = some oT) (ht : IsTupOf2 s.heap TI (.ref i1) (.ref i2)) (st1 : St1 i s.heap) (st2 : St2 i s.heap) (l1 : i < n1) (l2 : i < n2)
    (hQ : ∀ x1 x2 h' tk, P1 i x1 → P2 i x2 → IsZipHeld h' z TI TO T true → St1 (i + 1) h' → St2 (i + 1) h' → IsTupOf2 h' s.heap.objs.size x1 x2 → h'.objs.size = s.heap.objs.size + 1 →
      (∀ c o, c ≠ z → c ≠ i1 → c ≠ i2 → s.heap.get? c = some o → h'.get? c = some o) → Q (.ref s.heap.objs.size) { s with heap := h', toks := tk }) :
    wpAny (model prog w) A (Builtin.«zip.__next__» ⟨[.ref z], []⟩) (fun fin s' => ∃ v, fin = .done (.ret v) ∧ Q v s') E s := by
  obtain ⟨hp, g, d, tk0, os⟩ := s
  show wpAny _ _ (field (.ref z) 2 >>= _) _ _ _
  refine wpAny_bind (wpAny_field Z rfl (x := .bool false) rfl ?_)
  show wpAny _ _ (field (.ref z) 3 >>= _) _ _ _
  refine wpAny_bind (wpAny_field Z rfl (x := .ref TI) rfl (wpAny_bind (wpAny_seqItems ht rfl ?_)))
  show wpAny _ _ (Builtin.SmallTypes.ownedTupleIsFree (.ref z) >>= _) _ _ _
  refine wpAny_bind (wpAny_tupleHeld_zip Z hT fun g0 Z0 b0 => ?_)
  replace b0 : Heap.SameBut z hp g0 := b0
  simp only [Bool.false_eq_true, if_false]
  refine wpAny_bind ?_
  rw [← Array.forIn_toList]
  simp only [List.forIn_cons, List.forIn_nil]
  refine wpAny_bind (wpAny_bind (wpAny_holding ?_))
  show wpAny _ _ (Builtin.SmallTypes.nextOf (.ref i1) >>= _) _ _ ⟨g0, g, d, tk0, os⟩
  refine wpAny_bind (D1.item i ⟨g0, g, d, tk0, os⟩ _ _ l1 (D1.over st1 b0 S.zf1) fun x1 p1 tk1 y1 d1 e1 => wpAny_pure (wpAny_pure ?_))
  replace e1 : Heap.SameBut i1 g0 p1 := e1
  refine wpAny_bind (wpAny_bind (wpAny_holding ?_))
  show wpAny _ _ (Builtin.SmallTypes.nextOf (.ref i2) >>= _) _ _ ⟨p1, g, d, tk1, os⟩
  refine wpAny_bind (D2.item i ⟨p1, g, d, tk1, os⟩ _ _ l2 (D2.over (D2.over st2 b0 S.zf2) e1 S.sep1_2) fun x2 p2 tk2 y2 d2 e2 => wpAny_pure (wpAny_pure (wpAny_pure ?_)))
  replace e2 : Heap.SameBut i2 p1 p2 := e2
  show wpAny _ _ (newTuple [x1, x2] >>= _) _ _ ⟨p2, g, d, tk2, os⟩
  refine wpAny_bind (wpAny_newTuple (wpAny_pure ⟨_, rfl, ?_⟩))
  show Q (.ref p2.objs.size) _
  have zs : p2.objs.size = hp.objs.size := by rw [e2.1, e1.1, b0.1]
  have Z2 : IsZipHeld p2 z TI TO T true := e2.extBut _ _ S.zi2 (e1.extBut _ _ S.zi1 Z0)
  have np : IsTupOf2 (p2.push { cls := .type "tuple", data := .seq #[x1, x2] }) p2.objs.size x1 x2 := Heap.get?_push_size _ rfl
  have nz : (p2.push { cls := .type "tuple", data := .seq #[x1, x2] }).objs.size = p2.objs.size + 1 := Heap.size_push ..
  rw [zs] at np nz ⊢
  refine hQ x1 x2 _ tk2 y1 y2 (Heap.get?_push_of_some _ Z2) (D1.frame _ _ _ (D1.over d1 e2 S.sep2_1) fun b _ o e => Heap.get?_push_of_some _ e) (D2.frame _ _ _ d2 fun b _ o e => Heap.get?_push_of_some _ e) np nz fun c o c0 c1 c2 e => ?_
  exact Heap.get?_push_of_some _ (e2.extBut _ _ c2 (e1.extBut _ _ c1 (b0.extBut _ _ c0 e)))
theorem zh_end {Q : Fin → Shared → Prop} (S : ZipSep2 z TI TO i1 i2 fp1 fp2) (D1 : Draws prog w A i1 fp1 n1 P1 St1) (D2 : Draws prog w A i2 fp2 n2 P2 St2) (Z : IsZipHeld s.heap z TI TO T f) (hT : s.heap.get? T = some oT) (ht : IsTupOf2 s.heap TI (.ref i1) (.ref i2)) (st1 : St1 i s.heap) (st2 : St2 i s.heap) (l1 : i ≤ n1) (l2 : i ≤ n2) (le : i = n1 ∨ i = n2)
    (hE : ∀ h' tk e, (∀ c o, c ≠ z → c ≠ i1 → c ≠ i2 → s.heap.get? c = some o → h'.get? c = some o) → (∃ o, h'.get? e = some o ∧ o.cls = .type "StopIteration") → E (.ref e) { s with heap := h', toks := tk }) :
    wpAny (model prog w) A (Builtin.«zip.__next__» ⟨[.ref z], []⟩) Q E s := by
  obtain ⟨hp, g, d, tk0, os⟩ := s
  show wpAny _ _ (field (.ref z) 2 >>= _) _ _ _
  refine wpAny_bind (wpAny_field Z rfl (x := .bool false) rfl ?_)
  show wpAny _ _ (field (.ref z) 3 >>= _) _ _ _
  refine wpAny_bind (wpAny_field Z rfl (x := .ref TI) rfl (wpAny_bind (wpAny_seqItems ht rfl ?_)))
  show wpAny _ _ (Builtin.SmallTypes.ownedTupleIsFree (.ref z) >>= _) _ _ _
  refine wpAny_bind (wpAny_tupleHeld_zip Z hT fun g0 Z0 b0 => ?_)
  replace b0 : Heap.SameBut z hp g0 := b0
  simp only [Bool.false_eq_true, if_false]
  refine wpAny_bind ?_
  rw [← Array.forIn_toList]
  simp only [List.forIn_cons, List.forIn_nil]
  refine wpAny_bind (wpAny_bind (wpAny_holding ?_))
  show wpAny _ _ (Builtin.SmallTypes.nextOf (.ref i1) >>= _) _ _ ⟨g0, g, d, tk0, os⟩
  by_cases h1 : i = n1
  · subst h1
    refine wpAny_bind (D1.done ⟨g0, g, d, tk0, os⟩ _ _ (D1.over st1 b0 S.zf1) fun q e hq he => ?_)
    replace hq : Heap.ExtBut i1 g0 q := hq
    exact hE q tk0 e (fun c o c0 c1 c2 x => hq _ _ c1 (b0.extBut _ _ c0 x)) he
  · have h2 : i = n2 := le.resolve_left h1
    subst h2
    refine wpAny_bind (D1.item i ⟨g0, g, d, tk0, os⟩ _ _ (by omega) (D1.over st1 b0 S.zf1) fun x1 p1 tk1 y1 d1 e1 => wpAny_pure (wpAny_pure ?_))
    replace e1 : Heap.SameBut i1 g0 p1 := e1
    refine wpAny_bind (wpAny_bind (wpAny_holding ?_))
    show wpAny _ _ (Builtin.SmallTypes.nextOf (.ref i2) >>= _) _ _ ⟨p1, g, d, tk1, os⟩
    refine wpAny_bind (D2.done ⟨p1, g, d, tk1, os⟩ _ _ (D2.over (D2.over st2 b0 S.zf2) e1 S.sep1_2) fun q e hq he => ?_)
    replace hq : Heap.ExtBut i2 p1 q := hq
    exact hE q tk1 e (fun c o c0 c1 c2 x => hq _ _ c2 (e1.extBut _ _ c1 (b0.extBut _ _ c0 x))) he
theorem zh_nextItem {Q : Option Value → Shared → Prop} (S : ZipSep2 z TI TO i1 i2 fp1 fp2) (D1 : Draws prog w A.in1 i1 fp1 n1 P1 St1) (D2 : Draws prog w A.in1 i2 fp2 n2 P2 St2) (Z : IsZipHeld s.heap z TI TO T f) (hT : s.heap.get? T = some oT) (ht : IsTupOf2 s.heap TI (.ref i1) (.ref i2)) (st1 : St1 i s.heap) (st2 : St2 i s.heap) (l1 : i < n1) (l2 : i < n2)
    (hQ : ∀ x1 x2 h' tk, P1 i x1 → P2 i x2 → IsZipHeld h' z TI TO T true → St1 (i + 1) h' → St2 (i + 1) h' → IsTupOf2 h' s.heap.objs.size x1 x2 → h'.objs.size = s.heap.objs.size + 1 →
      (∀ c o, c ≠ z → c ≠ i1 → c ≠ i2 → s.heap.get? c = some o → h'.get? c = some o) → Q (some (.ref s.heap.objs.size)) { s with heap := h', toks := tk }) :
    wpAny (model prog w) A (pyNext (.ref z)) Q E s := by
  have Ty : s.TypeIs (.ref z) "zip" := ⟨_, Z, rfl⟩
  unfold pyNext
  refine wpAny_bind (wpAny_attempt (wpAny_callSpecial?_slot (name := Str.ofString "__next__") Ty F.slot_zip_next (wpAny_call_entry F.slot_zip_next Ty F.entry_zip_next ?_ (F.args_zip_next_1 _))))
  exact zh_item S D1 D2 Z hT ht st1 st2 l1 l2 fun x1 x2 h' tk a b c d e f g k => wpAny_pure (hQ x1 x2 h' tk a b c d e f g k)
theorem zh_nextEnd {Q : Option Value → Shared → Prop} (S : ZipSep2 z TI TO i1 i2 fp1 fp2) (D1 : Draws prog w A.in1 i1 fp1 n1 P1 St1) (D2 : Draws prog w A.in1 i2 fp2 n2 P2 St2) (Z : IsZipHeld s.heap z TI TO T f) (hT : s.heap.get? T = some oT) (ht : IsTupOf2 s.heap TI (.ref i1) (.ref i2)) (st1 : St1 i s.heap) (st2 : St2 i s.heap) (l1 : i ≤ n1) (l2 : i ≤ n2) (le : i = n1 ∨ i = n2)
    (hQ : ∀ h' tk, (∀ c o, c ≠ z → c ≠ i1 → c ≠ i2 → s.heap.get? c = some o → h'.get? c = some o) → Q none { s with heap := h', toks := tk }) : wpAny (model prog w) A (pyNext (.ref z)) Q E s := by
  have Ty : s.TypeIs (.ref z) "zip" := ⟨_, Z, rfl⟩
  unfold pyNext
  refine wpAny_bind (wpAny_attempt (wpAny_callSpecial?_slot (name := Str.ofString "__next__") Ty F.slot_zip_next (wpAny_call_entry F.slot_zip_next Ty F.entry_zip_next ?_ (F.args_zip_next_1 _))))
  refine zh_end S D1 D2 Z hT ht st1 st2 l1 l2 le fun h' tk e hk ⟨o, ho, hc⟩ => ?_
  exact wpAny_bind (wpAny_isInstance (T := "StopIteration") (b := true) ⟨o, ho, hc⟩ isSubtype_stop (wpAny_pure (hQ _ _ hk)))
end
theorem zip_noLen : typeLookup (.type "zip") "__len__" = pure none := am_miss_of_fast (by decide +kernel)
theorem zip_noHint : typeLookup (.type "zip") "__length_hint__" = pure none := am_miss_of_fast (by decide +kernel)
end Co
end

section
set_option Elab.async false
set_option linter.all false
set_option maxRecDepth 100000
set_option maxHeartbeats 1000000
/-! list(zip(a, b)): the list that is made -/
namespace Co
open PySem L2 PyProof.Rows
/-- the places of a zip, the list that takes its pairs -/
structure ZP where
  k1 : Kin
  k2 : Kin
  a : Addr
  b : Addr
  z : Addr
  TI : Addr
  TO : Addr
  i1 : Addr
  i2 : Addr
  S : Addr
  xs : Array Value
  ys : Array Value
  sep : ZipSep2 z TI TO i1 i2 [i1, a] [i2, b]
  ai : a ≠ i1
  bi : b ≠ i2
  low : ∀ c ∈ [z, TI, TO, i1, i2, a, b], c < S
namespace ZP
def n (p : ZP) : Nat := min p.xs.size p.ys.size
def St (p : ZP) (i : Nat) (h : Heap) : Prop := IsTupOf2 h p.TI (.ref p.i1) (.ref p.i2) ∧ (p.k1.Sit h p.i1 p.a i ∧ p.k1.Is h p.a p.xs) ∧ (p.k2.Sit h p.i2 p.b i ∧ p.k2.Is h p.b p.ys) ∧
  ((IsZip h p.z p.TI p.TO .none ∧ ∃ x y, IsTupOf2 h p.TO x y) ∨ ∃ T f oT, IsZipHeld h p.z p.TI p.TO T f ∧ h.get? T = some oT ∧ p.S < T)
theorem lt (p : ZP) {c : Addr} (h : c ∈ [p.z, p.TI, p.TO, p.i1, p.i2, p.a, p.b]) : c ≠ p.S := Nat.ne_of_lt (p.low c h)
variable {prog : Program} {w : World} {A : Around} {E : Value → Shared → Prop} {s : Shared} {p : ZP} {i : Nat}
theorem up (prog : Program) (w : World) {h h' : Heap} (hh : A.handled = none) (st : p.St i h) (k : ∀ c o, c ≠ p.S → h.get? c = some o → h'.get? c = some o) : p.St i h' := by
  obtain ⟨ht, s1, s2, q⟩ := st
  refine ⟨k _ _ (p.lt (by simp)) ht, ?_, ?_, ?_⟩
  · refine (p.k1.draws (prog := prog) (w := w) hh p.i1 p.a p.ai p.xs).frame i h h' s1 fun c hc o e => k c o (p.lt ?_) e
    have : c = p.i1 ∨ c = p.a := by simpa using hc
    rcases this with q | q <;> simp [q]
  · refine (p.k2.draws (prog := prog) (w := w) hh p.i2 p.b p.bi p.ys).frame i h h' s2 fun c hc o e => k c o (p.lt ?_) e
    have : c = p.i2 ∨ c = p.b := by simpa using hc
    rcases this with q | q <;> simp [q]
  · rcases q with ⟨h1, x, y, h2⟩ | ⟨T, f, oT, h1, h2, h3⟩
    · exact .inl ⟨k _ _ (p.lt (by simp)) h1, x, y, k _ _ (p.lt (by simp)) h2⟩
    · exact .inr ⟨T, f, oT, k _ _ (p.lt (by simp)) h1, k _ _ (Nat.ne_of_gt h3) h2, h3⟩
theorem item {Q : Option Value → Shared → Prop} (hh : A.handled = none) (st : p.St i s.heap) (hS : p.S < s.heap.objs.size) (hi : i < p.n)
    (hQ : ∀ x y h' tk, p.xs[i]? = some x → p.ys[i]? = some y → p.St (i + 1) h' → IsTupOf2 h' s.heap.objs.size x y → h'.objs.size = s.heap.objs.size + 1 → (∀ c o, c ∉ [p.z, p.TO, p.i1, p.i2] → s.heap.get? c = some o → h'.get? c = some o) → Q (some (.ref s.heap.objs.size)) { s with heap := h', toks := tk }) :
    wpAny (model prog w) A (pyNext (.ref p.z)) Q E s := by
  obtain ⟨ht, s1, s2, q⟩ := st
  have hh1 : A.in1.handled = none := hh
  have D1 := p.k1.draws (prog := prog) (w := w) hh1 p.i1 p.a p.ai p.xs
  have D2 := p.k2.draws (prog := prog) (w := w) hh1 p.i2 p.b p.bi p.ys
  have l1 : i < p.xs.size := by unfold n at hi; omega
  have l2 : i < p.ys.size := by unfold n at hi; omega
  have t1 : p.TI ≠ p.i1 := p.sep.TIi1
  have t2 : p.TI ≠ p.i2 := p.sep.TIi2
  rcases q with ⟨h1, x0, y0, h2⟩ | ⟨T, f, oT, h1, h2, h3⟩
  · refine wpAny_pyNext_zipD2_item p.sep D1 D2 h1 ht h2 s1 s2 l1 l2 fun x y h' tk px py z' _ d1 d2 np nz k => ?_
    refine hQ x y h' tk px py ⟨k _ _ p.sep.TIz p.sep.TITO t1 t2 ht, d1, d2, .inr ⟨_, false, _, z', np, hS⟩⟩ np nz fun c o hc e => k c o (fun q => hc (by simp [q])) (fun q => hc (by simp [q])) (fun q => hc (by simp [q])) (fun q => hc (by simp [q])) e
  · refine zh_nextItem p.sep D1 D2 h1 h2 ht s1 s2 l1 l2 fun x y h' tk px py z' d1 d2 np nz k => ?_
    have big : ∀ c ∈ [p.z, p.TI, p.TO, p.i1, p.i2, p.a, p.b], T ≠ c := fun c hc => Nat.ne_of_gt (Nat.lt_trans (p.low c hc) h3)
    refine hQ x y h' tk px py ⟨k _ _ p.sep.TIz t1 t2 ht, d1, d2, .inr ⟨T, true, oT, z', k T oT (big _ (by simp)) (big _ (by simp)) (big _ (by simp)) h2, h3⟩⟩ np nz fun c o hc e => k c o (fun q => hc (by simp [q])) (fun q => hc (by simp [q])) (fun q => hc (by simp [q])) e
theorem done {Q : Option Value → Shared → Prop} (hh : A.handled = none) (st : p.St p.n s.heap)
    (hQ : ∀ h' tk, (∀ c o, c ∉ [p.z, p.TO, p.i1, p.i2] → s.heap.get? c = some o → h'.get? c = some o) → Q none { s with heap := h', toks := tk }) :
    wpAny (model prog w) A (pyNext (.ref p.z)) Q E s := by
  obtain ⟨ht, s1, s2, q⟩ := st
  have hh1 : A.in1.handled = none := hh
  have D1 := p.k1.draws (prog := prog) (w := w) hh1 p.i1 p.a p.ai p.xs
  have D2 := p.k2.draws (prog := prog) (w := w) hh1 p.i2 p.b p.bi p.ys
  have l1 : p.n ≤ p.xs.size := Nat.min_le_left _ _
  have l2 : p.n ≤ p.ys.size := Nat.min_le_right _ _
  have l3 : p.n = p.xs.size ∨ p.n = p.ys.size := by unfold n; omega
  rcases q with ⟨h1, x0, y0, h2⟩ | ⟨T, f, oT, h1, h2, h3⟩
  · exact wpAny_pyNext_zipD2_end p.sep D1 D2 h1 ht h2 s1 s2 l1 l2 l3 fun h' tk k => hQ h' tk fun c o hc e => k c o (fun q => hc (by simp [q])) (fun q => hc (by simp [q])) (fun q => hc (by simp [q])) (fun q => hc (by simp [q])) e
  · exact zh_nextEnd p.sep D1 D2 h1 h2 ht s1 s2 l1 l2 l3 fun h' tk k => hQ h' tk fun c o hc e => k c o (fun q => hc (by simp [q])) (fun q => hc (by simp [q])) (fun q => hc (by simp [q])) e
/-- the pairs so far -/
structure G (p : ZP) (h : Heap) (as : List Addr) : Prop where
  rise : as.Pairwise (· < ·)
  above : ∀ t ∈ as, p.S < t
  pairs : ∀ (j : Nat) (t : Addr), as[j]? = some t → ∃ x y, p.xs[j]? = some x ∧ p.ys[j]? = some y ∧ IsTupOf2 h t x y
theorem G.keep {h h' : Heap} {as : List Addr} (g : p.G h as) (k : ∀ c o, p.S < c → h.get? c = some o → h'.get? c = some o) : p.G h' as :=
  ⟨g.rise, g.above, fun j t e => let ⟨x, y, e1, e2, e3⟩ := g.pairs j t e; ⟨x, y, e1, e2, k t _ (g.above t (List.mem_of_getElem? e)) e3⟩⟩
theorem high (p : ZP) {c : Addr} (h : p.S < c) : c ∉ [p.z, p.TO, p.i1, p.i2] := fun q => by
  have : c ∈ [p.z, p.TI, p.TO, p.i1, p.i2, p.a, p.b] := by
    have : c = p.z ∨ c = p.TO ∨ c = p.i1 ∨ c = p.i2 := by simpa using q
    rcases this with q | q | q | q <;> simp [q]
  exact absurd (p.low c this) (Nat.not_lt.mpr (Nat.le_of_lt h))
abbrev lstO (acc : Array Value) (c : Nat) : Obj := { cls := .type "list", dict := none, data := .seq acc c, slots := #[] }
theorem loop {R : Result → Shared → Prop} (hh : A.handled = none) (hn : p.n ≤ sizeLine) (res : Value) {h0 : Heap}
    (hR : ∀ h' tk acc c as, (∀ b o, b ∉ [p.S, p.z, p.TO, p.i1, p.i2] → h0.get? b = some o → h'.get? b = some o) → h'.get? p.S = some (lstO acc c) → as.length = p.n → p.G h' as → acc.toList = as.map Value.ref → R (.ok (.ret res)) { s with heap := h', toks := tk }) :
    ∀ (k i : Nat) (h : Heap) (tk c : Nat) (acc : Array Value) (as : List Addr), p.n - i = k → i ≤ p.n → p.St i h → (∀ b o, b ∉ [p.S, p.z, p.TO, p.i1, p.i2] → h0.get? b = some o → h.get? b = some o) →
      h.get? p.S = some (lstO acc c) → acc.toList = as.map Value.ref → as.length = i → p.G h as →
      codeAny (model prog w) A (.builtin "list.extend.loop" ⟨[.ref p.S, .ref p.z, res], []⟩) R { s with heap := h, toks := tk } := by
  intro k
  induction k with
  | zero =>
    intro i h tk c acc as hk hi st kp hS ha hl g
    have e : i = p.n := by omega
    subst e
    refine codeAny_builtin PySem.F.entry_extend_loop ?_
    rw [Around.under_plainId PySem.F.plain_extend_loop _]
    show wpAny _ A.in1 (pyNext (.ref p.z) >>= _) _ _ _
    refine wpAny_bind (done (s := { s with heap := h, toks := tk }) (A := A.in1) hh st fun h' tk' k' => wpAny_pure ?_)
    refine hR h' tk' acc c as (fun b o hb e => k' b o (fun q => hb (List.mem_cons_of_mem _ q)) (kp b o hb e)) (k' _ _ (fun q => ?_) hS) hl (g.keep fun c o hc e => k' c o (p.high hc) e) ha
    have : p.S = p.z ∨ p.S = p.TO ∨ p.S = p.i1 ∨ p.S = p.i2 := by simpa using q
    rcases this with q | q | q | q <;> exact p.lt (by simp) q.symm
  | succ k ih =>
    intro i h tk c acc as hk hi st kp hS ha hl g
    have hz : acc.size = i := by rw [← Array.length_toList, ha, List.length_map, hl]
    have hSl : p.S < h.objs.size := Heap.lt_size hS
    refine codeAny_builtin PySem.F.entry_extend_loop ?_
    rw [Around.under_plainId PySem.F.plain_extend_loop _]
    show wpAny _ A.in1 (pyNext (.ref p.z) >>= _) _ _ _
    refine wpAny_bind (item (s := { s with heap := h, toks := tk }) (A := A.in1) hh st hSl (by omega) fun x y h' tk' hx hy st' np nz k' => ?_)
    dsimp only at np nz k' ⊢
    have hS' := k' _ _ (fun q => by
      have : p.S = p.z ∨ p.S = p.TO ∨ p.S = p.i1 ∨ p.S = p.i2 := by simpa using q
      rcases this with q | q | q | q <;> exact p.lt (by simp) q.symm) hS
    have ku : ∀ b o, b ≠ p.S → h'.get? b = some o → (h'.update p.S (Obj.mapSeq (·.push (Value.ref h.objs.size)))).get? b = some o := fun b o hb e => (Heap.get?_update_other _ _ (Ne.symm hb)).trans e
    show wpAny _ A.in1 (updateSeq p.S (·.push (Value.ref h.objs.size)) >>= _) _ _ _
    refine wpAny_bind (wpAny_updateSeq hS' rfl (wpAny_pure ⟨plainId_quiet PySem.F.plain_extend_loop _, ih (i + 1) _ tk' _ (acc.push (Value.ref h.objs.size)) (as ++ [h.objs.size]) (by omega) (by omega) (up prog w hh st' ku) (fun b o hb e => ?_) (Heap.get?_update_self _ hS' rfl) (by rw [Array.toList_push, ha, List.map_append]; rfl) (by rw [List.length_append, hl]; rfl) ⟨?_, ?_, ?_⟩⟩) (by rw [hz]; omega) (by show (acc.push (Value.ref h.objs.size)).size ≤ sizeLine + 1; rw [Array.size_push, hz]; omega))
    · exact ku b o (fun q => hb (by simp [q])) (k' b o (fun q => hb (List.mem_cons_of_mem _ q)) (kp b o hb e))
    · refine List.pairwise_append.mpr ⟨g.rise, List.pairwise_singleton _ _, fun t ht u hu => ?_⟩
      rw [List.mem_singleton.mp hu]
      obtain ⟨j, hj⟩ := List.mem_iff_getElem?.mp ht
      obtain ⟨_, _, _, _, e⟩ := g.pairs j t hj
      exact Heap.lt_size e
    · intro t ht
      rcases List.mem_append.mp ht with ht | ht
      · exact g.above t ht
      · rw [List.mem_singleton.mp ht]; exact hSl
    · intro j t hj
      by_cases hjl : j < as.length
      · rw [List.getElem?_append_left hjl] at hj
        obtain ⟨x', y', e1, e2, e3⟩ := g.pairs j t hj
        have ha := g.above t (List.mem_of_getElem? hj)
        exact ⟨x', y', e1, e2, ku t _ (Nat.ne_of_gt ha) (k' t _ (p.high ha) e3)⟩
      · rw [List.getElem?_append_right (by omega)] at hj
        have hj0 : j - as.length = 0 := by
          have := (List.getElem?_eq_some_iff.mp hj).1
          simp at this; omega
        rw [hj0] at hj
        have ht : h.objs.size = t := by simpa using hj
        subst ht
        have ej : j = i := by omega
        subst ej
        exact ⟨x, y, hx, hy, ku _ _ (Nat.ne_of_gt hSl) np⟩
theorem extend {R : Result → Shared → Prop} (hh : A.handled = none) (hn : p.n ≤ sizeLine) (res : Value) (c0 : Nat) (st : p.St 0 s.heap) (hz : ∃ TI TO f, IsZip s.heap p.z TI TO f) (hS : s.heap.get? p.S = some (lstO #[] c0))
    (hR : ∀ h' tk acc c as, (∀ b o, b ∉ [p.S, p.z, p.TO, p.i1, p.i2] → s.heap.get? b = some o → h'.get? b = some o) → h'.get? p.S = some (lstO acc c) → as.length = p.n → p.G h' as → acc.toList = as.map Value.ref → R (.ok (.ret res)) { s with heap := h', toks := tk }) :
    wpAny (model prog w) A.in1 (Builtin.List.listExtendWith (.ref p.S) (.ref p.z) res)
      (fun fin s' => match fin with | .done f => R (.ok f) s' | .again c' => c'.quiet = true ∧ codeAny (model prog w) A c' R s') (fun e s' => R (.error e) s') s := by
  obtain ⟨TI', TO', f', hz⟩ := hz
  have Ty : s.TypeIs (.ref p.z) "zip" := ⟨_, hz, rfl⟩
  have hSz : p.S ≠ p.z := (p.lt (by simp)).symm
  unfold Builtin.List.listExtendWith
  refine wpAny_bind (wpAny_typeOf Ty ?_)
  have c1 : Builtin.List.listSameRef (.ref p.S) (.ref p.z) = false := by simp [Builtin.List.listSameRef, hSz]
  have c2 : (Value.type "zip" == Value.type "list") = false := by decide
  have c3 : (Value.type "zip" == Value.type "tuple") = false := by decide
  simp only [c1, c2, c3, Bool.or_false, Bool.false_eq_true, if_false]
  refine wpAny_bind (wpAny_pyIter_zip hz (wpAny_bind (wpAny_holding ?_)))
  unfold Builtin.List.listLengthHint
  refine wpAny_bind (wpAny_specialOf Ty zip_noLen ?_)
  show wpAny _ A.in1 (specialOf (Value.ref p.z) (Str.ofString "__length_hint__") >>= _) _ _ _
  refine wpAny_bind (wpAny_specialOf Ty zip_noHint (wpAny_pure ?_))
  show wpAny _ A.in1 (rule "list.extend.makes-room" >>= fun _ => Builtin.List.listTouch (.ref p.S) >>= fun _ => again (.builtin "list.extend.loop" ⟨[.ref p.S, .ref p.z, res], []⟩)) _ _ _
  refine wpAny_bind (wpAny_rule (wpAny_bind ?_))
  show wpAny _ A.in1 (updateSeq p.S (·.push .none) >>= fun _ => updateSeq p.S (·.pop)) _ _ _
  refine wpAny_bind (wpAny_updateSeq hS rfl ?_)
  have hS2 := Heap.get?_update_self (Obj.mapSeq (·.push Value.none)) hS rfl
  refine wpAny_updateSeq (hz := by seq_fits) hS2 rfl ?_
  have hS3 := Heap.get?_update_self (Obj.mapSeq (·.pop)) hS2 rfl
  have oth : ∀ b o, b ≠ p.S → s.heap.get? b = some o → ((s.heap.update p.S (Obj.mapSeq (·.push Value.none))).update p.S (Obj.mapSeq (·.pop))).get? b = some o :=
    fun b o hb e => (Heap.get?_update_other _ _ (Ne.symm hb)).trans ((Heap.get?_update_other _ _ (Ne.symm hb)).trans e)
  refine wpAny_pure ⟨plainId_quiet PySem.F.plain_extend_loop _, ?_⟩
  exact loop (s := s) (h0 := s.heap) hh hn res hR p.n 0 _ s.toks _ #[] [] (Nat.sub_zero _) (Nat.zero_le _) (up prog w hh st oth) (fun b o hb e => oth b o (fun q => hb (by simp [q])) e) hS3 rfl rfl ⟨.nil, nofun, fun j t e => by simp at e⟩
theorem init {R : Result → Shared → Prop} (hh : A.handled = none) (hn : p.n ≤ sizeLine) (c0 : Nat) (st : p.St 0 s.heap) (hz : ∃ TI TO f, IsZip s.heap p.z TI TO f) (hS : s.heap.get? p.S = some (lstO #[] c0))
    (hR : ∀ h' tk acc c as, (∀ b o, b ∉ [p.S, p.z, p.TO, p.i1, p.i2] → s.heap.get? b = some o → h'.get? b = some o) → h'.get? p.S = some (lstO acc c) → as.length = p.n → p.G h' as → acc.toList = as.map Value.ref → R (.ok (.ret .none)) { s with heap := h', toks := tk }) :
    wpAny (model prog w) A.in1 (Builtin.«list.__init__» ⟨[.ref p.S, .ref p.z], []⟩)
      (fun fin s' => match fin with | .done f => R (.ok f) s' | .again c' => c'.quiet = true ∧ codeAny (model prog w) A c' R s') (fun e s' => R (.error e) s') s := by
  show wpAny _ A.in1 (do let old ← Builtin.List.listItems (.ref p.S); Builtin.List.listUpdate (.ref p.S) (fun _ => #[]); letGo old.toList.reverse; Builtin.List.listExtendWith (.ref p.S) (.ref p.z) .none) _ _ s
  refine wpAny_bind ?_
  unfold Builtin.List.listItems
  refine wpAny_bind (wpAny_seqItems hS rfl (wpAny_pure ?_))
  show wpAny _ A.in1 (updateSeq p.S (fun _ => #[]) >>= fun _ => letGo (#[] : Array Value).toList.reverse >>= fun _ => Builtin.List.listExtendWith (.ref p.S) (.ref p.z) .none) _ _ s
  refine wpAny_bind (wpAny_updateSeq hS rfl ?_)
  have hS2 := Heap.get?_update_self (Obj.mapSeq (fun _ => (#[] : Array Value))) hS rfl
  have oth : ∀ b o, b ≠ p.S → s.heap.get? b = some o → (s.heap.update p.S (Obj.mapSeq (fun _ => (#[] : Array Value)))).get? b = some o := fun b o hb e => (Heap.get?_update_other _ _ (Ne.symm hb)).trans e
  refine wpAny_bind (wpAny_letGo ?_)
  obtain ⟨TI', TO', f', hz⟩ := hz
  refine extend hh hn .none _ (up prog w hh st oth) ⟨_, _, _, oth _ _ (p.lt (by simp)) hz⟩ hS2 fun h' tk acc c as hk hS' hl g ha => ?_
  exact hR h' tk acc c as (fun b o hb e => hk b o hb (oth b o (fun q => hb (by simp [q])) e)) hS' hl g ha
end ZP
end Co
end

section
set_option Elab.async false
set_option linter.all false
set_option maxRecDepth 100000
set_option maxHeartbeats 1000000
/-! list(zip(a, b)): the rule -/
namespace Co
open PySem L2 PyProof.Rows
/-- new objects laid and tracked, any number -/
theorem inv_more {X : Cx} {pins : List (Addr × Obj)} {σ : L2.St} {H H' : Hp} {s : Shared} {h' : Heap} {tk : Nat} (I : Inv X pins σ H s) (hk : ∀ b o, s.heap.get? b = some o → h'.get? b = some o) (mono : ∀ b o, H b = some o → H' b = some o) (old : ∀ b, b < s.heap.objs.size → H b = none → H' b = none)
    (new : ∀ b u, H b = none → H' b = some u → ObjOk X.prog X.w H' h' b u) : Inv X pins σ H' { s with heap := h', toks := tk } := by
  refine I.un ⟨fun b o q _ _ _ => hk b o q, fun b o q _ _ _ => ⟨o.slots, hk b o q⟩, fun b o q n _ => old b (Heap.lt_size q) n, fun b o q _ => ⟨o, hk b o q⟩, fun b xs q => mono b _ q, fun b o u q => mono b _ q, fun b ps q => ⟨#[], by rw [mono b _ q]; simp⟩⟩ fun b u q => ?_
  cases e : H b with
  | none => exact new b u e q
  | some o =>
    have := mono b o e
    rw [q] at this
    cases this
    exact (I.hok b u e).stay (fun d v _ y => hk d v y) (fun d y => mono d _ y) fun d xs y => mono d _ y
theorem vals_rf : ∀ as : List Addr, L2.Vals (as.map V.ref) (as.map Value.ref)
  | [] => .nil
  | _ :: as => .cons rfl (vals_rf as)
/-- pairs tracked at their places -/
def putP (H : Hp) (S : Addr) (as : List Addr) (ps : List (List V)) : Hp := fun b => if b = S then some (.lst (as.map V.ref)) else match (as.zip ps).lookup b with
  | some q => some (.tup q)
  | none => H b
theorem zlook : ∀ {as : List Addr} {ps : List (List V)} {j : Nat} {t : Addr} {q : List V}, as.Pairwise (· < ·) → as[j]? = some t → ps[j]? = some q → (as.zip ps).lookup t = some q
  | a :: as, p :: ps, 0, t, q, _, h1, h2 => by
    simp at h1 h2
    subst h1 h2
    simp [List.lookup_cons]
  | a :: as, p :: ps, j + 1, t, q, hp, h1, h2 => by
    have h1 : as[j]? = some t := by simpa using h1
    have h2 : ps[j]? = some q := by simpa using h2
    have ne : (t == a) = false := by
      have := (List.pairwise_cons.mp hp).1 t (List.mem_of_getElem? h1)
      exact beq_eq_false_iff_ne.mpr (Nat.ne_of_gt this)
    rw [List.zip_cons_cons, List.lookup_cons, ne]
    exact zlook (List.pairwise_cons.mp hp).2 h1 h2
  | [], _, j, t, q, _, h1, _ => by simp at h1
  | _ :: _, [], j, t, q, _, _, h2 => by simp at h2
theorem zlook_mem : ∀ {as : List Addr} {ps : List (List V)} {t : Addr} {q : List V}, (as.zip ps).lookup t = some q → ∃ j : Nat, as[j]? = some t ∧ ps[j]? = some q
  | a :: as, p :: ps, t, q, h => by
    rw [List.zip_cons_cons, List.lookup_cons] at h
    split at h
    · rename_i e
      cases h
      exact ⟨0, by rw [eq_of_beq e]; rfl, rfl⟩
    · obtain ⟨j, h1, h2⟩ := zlook_mem h
      exact ⟨j + 1, by simpa using h1, by simpa using h2⟩
  | [], _, _, _, h => by simp at h
  | _ :: _, [], _, _, h => by simp at h
def tLZip (K : PySem.W.Frag) (ta : TA) : TE := fun σ H Q => ta σ H fun vs H1 => ∃ (k1 k2 : Kin) (a b : Addr) (xs ys : List V), vs = [.ref a, .ref b] ∧ k1.Sq K H1 a xs ∧ k2.Sq K H1 b ys ∧ xs.length ≤ sizeLine ∧
  ∀ (H' : Hp) (p : Addr) (ts : List Addr), (∀ c o, H1 c = some o → H' c = some o) → H1 p = none → (∀ t ∈ ts, H1 t = none) → p ∉ ts → H' p = some (.lst (ts.map V.ref)) → ts.length = min xs.length ys.length →
    (∀ (j : Nat) (t : Addr), ts[j]? = some t → ∃ x y, xs[j]? = some x ∧ ys[j]? = some y ∧ H' t = some (.tup [x, y])) → Q (.ref p) H'
theorem pe_lzip {X : Cx} {e e2 : Expr} {ta : TA} {p p2 q0 pos : Pos} (hc : X.calm = true) (hg : Gl X "list") (hm : X.mg "list" = none) (hg2 : Gl X "zip") (hm2 : X.mg "zip" = none) (ha : PA X [e, e2] ta)
    (hs : starEach [e, e2] X.env = (false, eval e X.env) :: starEach [e2] X.env) (hpl : (backTo q0 (starEach [e2] X.env)).any (·.1) = false) :
    PE X (.Call (.Name "list" p) [.Call (.Name "zip" p2) [e, e2] [] q0] [] pos) (tLZip X.K ta) := by
  have na : starEach [Expr.Call (.Name "zip" p2) [e, e2] [] q0] X.env = (false, eval (Expr.Call (.Name "zip" p2) [e, e2] [] q0) X.env) :: starEach [] X.env := rfl
  refine ⟨fun pins s σ H Q I h => ?_⟩
  refine Call_ (ld_blt I hg hm boot_list (PyProof.Rows.callWith_type1 (args_cons ?_ na) na))
  refine Call_ (ld_blt I hg2 hm2 PyProof.Rows.boot_zip (PyProof.Rows.callWith_type1 (thn (ha.run q0 pins s σ H _ I h) fun us s1 ⟨vs, H1, J, r1, k1, k2, a, b, xs, ys, ex, qx, qy, hsz, q⟩ => ?_) hs hpl))
  subst ex
  rw [vals_r2 r1]
  obtain ⟨its, rv, p1, la⟩ := k1.inv J qx
  obtain ⟨its2, rv2, p2, lb⟩ := k2.inv J qy
  refine zip_begins2 (k1.beg a its.toArray) (k2.beg b its2.toArray) p1 p2 fun h' z1 t1 o1 g1 g2 hsz' hk => args_nil ?_
  generalize hN : s1.heap.objs.size = N at *
  have hh : X.A.handled = none := J.ok.hd hc
  refine callType_codes (Q₁ := fun obj s₁ => obj = .ref h'.objs.size ∧ s₁ = { s1 with heap := h'.push { cls := .type "list", data := .seq #[] } }) PySem.F.called_list (PySem.F.typeCall_list_1 _) PySem.F.entry_list_init (code_list_new _ ⟨rfl, rfl⟩) fun obj s₁ h₁ => ?_
  obtain ⟨rfl, rfl⟩ := h₁
  rw [hsz']
  have lowN : ∀ c ∈ [N + 4, N + 2, N + 3, N, N + 1, a, b], c < N + 5 := fun c hc => by
    have : c = N + 4 ∨ c = N + 2 ∨ c = N + 3 ∨ c = N ∨ c = N + 1 ∨ c = a ∨ c = b := by simpa using hc
    have la : (a : Nat) < N := la
    have lb : (b : Nat) < N := lb
    show (c : Nat) < N + 5
    rcases this with q | q | q | q | q | q | q <;> rw [q]
    · exact Nat.lt_succ_self _
    · exact Nat.add_lt_add_left (by decide) _
    · exact Nat.add_lt_add_left (by decide) _
    · exact Nat.lt_add_of_pos_right (by decide)
    · exact Nat.add_lt_add_left (by decide) _
    · exact Nat.lt_add_right _ la
    · exact Nat.lt_add_right _ lb
  let P : ZP := ⟨k1, k2, a, b, N + 4, N + 2, N + 3, N, N + 1, N + 5, its.toArray, its2.toArray, sep_at la lb, Nat.ne_of_lt la, Nat.ne_of_lt (Nat.lt_succ_of_lt lb), lowN⟩
  have push : ∀ c o, h'.get? c = some o → (h'.push { cls := .type "list", data := .seq #[] }).get? c = some o := fun c o e => Heap.get?_push_of_some _ e
  have hS : (h'.push { cls := .type "list", data := .seq #[] }).get? (N + 5) = some (ZP.lstO #[] 0) := by rw [← hsz']; exact Heap.get?_push_size _ rfl
  have st : P.St 0 (h'.push { cls := .type "list", data := .seq #[] }) := by
    refine ⟨push _ _ t1, ⟨k1.start (push _ _ g1), ?_⟩, ⟨k2.start (push _ _ g2), ?_⟩, .inl ⟨push _ _ z1, _, _, push _ _ o1⟩⟩
    · exact (k1.beg a its.toArray).keeps _ _ p1 fun c o e => push c o (hk c o e)
    · exact (k2.beg b its2.toArray).keeps _ _ p2 fun c o e => push c o (hk c o e)
  have l1 := rv.length
  have l2 := rv2.length
  have pn : P.n = min xs.length ys.length := by
    show min its.toArray.size its2.toArray.size = _
    simp; omega
  refine ⟨⟨_, hS, rfl⟩, PySem.F.args_list_init_2 _ _, ?_⟩
  refine ZP.init (p := P) (A := X.A.in1) (s := { s1 with heap := h'.push { cls := .type "list", data := .seq #[] } }) hh (by rw [pn]; omega) 0 st ⟨_, _, _, push _ _ z1⟩ hS fun h2 tk acc c as k2' hS' hl g hacc => ⟨rfl, ?_⟩
  have keep : ∀ c o, s1.heap.get? c = some o → h2.get? c = some o := fun c o e => by
    have lc : (c : Nat) < N := by rw [← hN]; exact Heap.lt_size e
    refine k2' c o (fun q => ?_) (push c o (hk c o e))
    have : c = N + 5 ∨ c = N + 4 ∨ c = N + 3 ∨ c = N ∨ c = N + 1 := by simpa using q
    have : ∀ k : Nat, (c : Nat) ≠ N + k := fun k h => absurd lc (by rw [h]; exact Nat.not_lt.mpr (Nat.le_add_right _ _))
    rename_i hcc
    rcases hcc with q | q | q | q | q
    · exact this 5 q
    · exact this 4 q
    · exact this 3 q
    · exact this 0 q
    · exact this 1 q
  have nS : H1 (N + 5) = none := J.hok.fresh (by rw [hN]; exact Nat.le_add_right _ _)
  have nT : ∀ t ∈ as, H1 t = none := fun t ht => J.hok.fresh (by rw [hN]; exact Nat.le_trans (Nat.le_add_right _ _) (Nat.le_of_lt (g.above t ht)))
  have Sas : N + 5 ∉ as := fun q => Nat.lt_irrefl _ (g.above _ q)
  let ps : List (List V) := (xs.zip ys).map fun q => [q.1, q.2]
  have get : ∀ j t, as[j]? = some t → ∃ x y u v, xs[j]? = some x ∧ ys[j]? = some y ∧ ps[j]? = some [x, y] ∧ RelV x u ∧ RelV y v ∧ IsTupOf2 h2 t u v := fun j t e => by
    obtain ⟨u, v, e1, e2, e3⟩ := g.pairs j t e
    have hj : j < min xs.length ys.length := by rw [← pn, ← hl]; exact (List.getElem?_eq_some_iff.mp e).1
    have hx : xs[j]? = some (xs[j]'(by omega)) := List.getElem?_eq_getElem _
    have hy : ys[j]? = some (ys[j]'(by omega)) := List.getElem?_eq_getElem _
    obtain ⟨u', f1, f2⟩ := rv.get hx
    obtain ⟨v', f3, f4⟩ := rv2.get hy
    have e1 : its[j]? = some u := by simpa using (show its.toArray[j]? = some u from e1)
    have e2 : its2[j]? = some v := by simpa using (show its2.toArray[j]? = some v from e2)
    rw [f1] at e1; cases e1
    rw [f3] at e2; cases e2
    refine ⟨_, _, u, v, hx, hy, ?_, f2, f4, e3⟩
    show ((xs.zip ys).map _)[j]? = _
    rw [List.getElem?_map, List.getElem?_zip_eq_some (z := (xs[j]'(by omega), ys[j]'(by omega))) |>.mpr ⟨hx, hy⟩]
    rfl
  let H' : Hp := putP H1 (N + 5) as ps
  have atS : H' (N + 5) = some (.lst (as.map V.ref)) := if_pos rfl
  have atT : ∀ j t, as[j]? = some t → ∃ x y, xs[j]? = some x ∧ ys[j]? = some y ∧ H' t = some (.tup [x, y]) := fun j t e => by
    obtain ⟨x, y, u, v, hx, hy, hp, _⟩ := get j t e
    refine ⟨x, y, hx, hy, ?_⟩
    have ne : t ≠ N + 5 := fun q => Sas (q ▸ List.mem_of_getElem? e)
    show (if t = N + 5 then _ else _) = _
    rw [if_neg ne, zlook g.rise e hp]
  have off : ∀ c, c ≠ N + 5 → c ∉ as → H' c = H1 c := fun c h1 h2 => by
    show (if c = N + 5 then _ else _) = _
    rw [if_neg h1]
    cases e : (as.zip ps).lookup c with
    | none => rfl
    | some q => obtain ⟨j, e1, _⟩ := zlook_mem e; exact absurd (List.mem_of_getElem? e1) h2
  have mono : ∀ c o, H1 c = some o → H' c = some o := fun c o e => by
    rw [off c (fun q => by rw [q, nS] at e; cases e) (fun q => by rw [nT c q] at e; cases e)]; exact e
  have big : ∀ c, c < s1.heap.objs.size → c ≠ N + 5 ∧ c ∉ as := fun c hc => by
    rw [hN] at hc
    refine ⟨fun q => ?_, fun q => ?_⟩
    · rw [q] at hc; exact absurd hc (Nat.not_lt.mpr (Nat.le_add_right _ _))
    · exact absurd (Nat.lt_trans (g.above c q) hc) (Nat.not_lt.mpr (Nat.le_add_right _ _))
  have fin : Inv X pins σ H' { s1 with heap := h2, toks := tk } := by
    refine inv_more J keep mono (fun c hc hn => by rw [off c (big c hc).1 (big c hc).2]; exact hn) fun c u hn e => ?_
    by_cases h1 : c = N + 5
    · subst h1
      rw [atS] at e
      cases e
      refine ⟨by rw [List.length_map, hl, pn]; omega, acc.toList, c, ?_, ?_⟩
      · rw [hacc]; exact vals_rf as
      · rw [Array.toArray_toList]; exact hS'
    · by_cases h3 : c ∈ as
      · obtain ⟨j, hj⟩ := List.mem_iff_getElem?.mp h3
        obtain ⟨x, y, u', v', hx, hy, hp, r1, r2, ht⟩ := get j c hj
        obtain ⟨x', y', hx', hy', e'⟩ := atT j c hj
        rw [hx] at hx'; cases hx'
        rw [hy] at hy'; cases hy'
        rw [e'] at e
        cases e
        exact ⟨by show 2 ≤ sizeLine; decide, [u', v'], .cons r1 (.cons r2 .nil), ⟨_, ht, rfl, _, rfl⟩⟩
      · rw [off c h1 h3, hn] at e; cases e
  exact ⟨.ref (N + 5), H', fin, rfl, q H' (N + 5) as mono nS nT Sas atS (by rw [hl, pn]) atT⟩
end Co
end

section
set_option Elab.async false
set_option linter.all false
set_option maxRecDepth 100000
set_option maxHeartbeats 3200000
/-! set(xs) of a list of ints; sorted of it -/
namespace Co
open PySem L2 PyProof.Rows PySem.Spec
/-- a new empty set -/
abbrev newSet (w : World) : Obj := { cls := .type "set", dict := none, data := .set #[] 0 (.fresh 0 0 (!w.params.followText "set-order")) }
section
variable {P : Program} {w : World} {A : Around} {E : Value → Shared → Prop} {s : Shared}
theorem set_of_list {l : Addr} {items : Array Value} (ns : List Int) {Q : Value → Shared → Prop} (hh : A.handled = none) (hl : s.heap.IsList l items) (hit : IntsAre items.toList ns) (hb : ns.length + 1 < scanBound)
    (h : ∀ (h' : Heap) (tk c : Nat), SetR w h' s.heap.objs.size (fun j => decide (j ∈ ns)) c → c ≤ ns.length → (∀ b o, s.heap.get? b = some o → h'.get? b = some o) → Q (.ref s.heap.objs.size) { s with heap := h', toks := tk }) :
    wpAny (model P w) A (call (.type "set") [.ref l]) Q E s := by
  have isz : items.size = ns.length := by
    have q := IntsAre.length hit
    rwa [Array.length_toList] at q
  obtain ⟨c, tl, hmro⟩ := F.called_set.mro
  have made := F.called_set.made
  have subs := F.called_set.sub
  refine wpAny_call (codeAny_of_tree ?_)
  show wpAny _ _ (callAny (.type "set") _) _ _ _
  refine wpAny_pure ⟨Code.quiet_builtin _ (by decide +kernel), codeAny_builtin PySem.F.entry_type_call ?_⟩
  rw [Around.under_plain (weight_type_call_type "set" [.ref l] []) rfl]
  have k1 := F.called_set.notType; have k2 := F.called_set.canCreate; have k3 := F.typeCall_set_1 (.ref l)
  repeat (any_goals (first | assumption | wp_step))
  refine codeAny_mono (code_set_led1 (.ref l) (E := E) (Q₁ := fun obj s₁ => obj = .ref s.heap.objs.size ∧ s₁ = { s with heap := s.heap.push (newSet w) }) ⟨rfl, rfl⟩) fun r s₁ hr => ?_
  match r, hr with
  | .error e, hr => exact hr
  | .ok (.ret obj), hr =>
    obtain ⟨rfl, rfl⟩ := hr
    have hS : (s.heap.push (newSet w)).get? s.heap.objs.size = some (newSet w) := Heap.get?_push_size _ rfl
    have hT : Shared.TypeIs { s with heap := s.heap.push (newSet w) } (.ref s.heap.objs.size) "set" := ⟨_, hS, rfl⟩
    have i1 := F.called_set.init.lookup; have i2 := F.called_set.init.bind (.ref s.heap.objs.size)
    repeat (any_goals (first | assumption | wp_step))
    refine codeAny_mono (codeAny_call_builtin (R := wants (fun r s2 => r = .none ∧ ∃ h' tk c, s2 = { s with heap := h', toks := tk } ∧ SetR w h' s.heap.objs.size (fun j => decide (j ∈ ns)) c ∧ c ≤ ns.length ∧ (∀ b o, s.heap.get? b = some o → h'.get? b = some o)) E) F.called_set.init.plain F.entry_set_init (check_set_init_1 hT ?_)) fun r2 s2 hr2 => ?_
    · obtain ⟨⟨ocls, odict, odata, oslots⟩, hol, hcl, nl, hdl⟩ := hl
      simp only at hcl hdl
      subst hcl; subst hdl
      have hol' : (s.heap.push (newSet w)).get? l = some { cls := .type "list", dict := odict, data := .seq items nl, slots := oslots } := Heap.get?_push_of_some _ hol
      have j1 := F.sub_list_set; have j2 := F.sub_list_frozenset
      have j3 : (Value.type "list" == Value.type "dict") = false := by decide
      have hl1 : (s.heap.push (newSet w)).IsList l items := ⟨_, hol', rfl, nl, rfl⟩
      unfold Builtin.«set.__init__» noKeywords Builtin.Frozenset.updateFrom
      generalize hPI : pyIter = PI
      wp_walk
      subst hPI
      refine wpAny_pyIter_list hl1 (wpAny_bind (wpAny_runValue ?_))
      have lS : l < s.heap.objs.size := Heap.lt_size hol
      have h3 : A.in1.in1.in1.handled = none := by simp [hh]
      have zs : (s.heap.push (newSet w)).objs.size = s.heap.objs.size + 1 := Heap.size_push ..
      have nI : l ≠ (s.heap.push (newSet w)).objs.size := by rw [zs]; exact Nat.ne_of_lt (Nat.lt_succ_of_lt lS)
      have nS : s.heap.objs.size ∉ [(s.heap.push (newSet w)).objs.size, l] := by
        rw [zs]
        intro q
        rcases List.mem_cons.mp q with q | q
        · exact absurd q (Nat.ne_of_lt (Nat.lt_succ_self _))
        · exact absurd (List.mem_singleton.mp q) (Nat.ne_of_gt lS)
      have val : ∀ (i : Nat) (v : Value), items[i]? = some v → ∃ k t, ns[i]? = some k ∧ v = .int k t := fun i v hv => by
        have li : i < ns.length := by rw [← isz]; exact (Array.getElem?_eq_some_iff.mp hv).1
        obtain ⟨t, e⟩ := hit.int_at i v (by rw [Array.getElem?_toList]; exact hv)
        exact ⟨ns[i], t, List.getElem?_eq_getElem li, by rw [e, List.getD_eq_getElem?_getD, List.getElem?_eq_getElem li] <;> rfl⟩
      refine set_update_ints ((Walks.list h3 _ l nI items).toS) s.heap.objs.size nS ns isz hb val (items.size - 0) 0 _ (by omega) (Nat.zero_le _) ⟨⟨_, Heap.get?_push_size _ rfl, rfl, rfl⟩, (hl1.push _)⟩ ⟨0, Nat.le_refl 0, setR_new_at (Heap.get?_push_of_some _ hS)⟩ fun s' c' hm hc' hS' => ?_
      obtain ⟨h', g2, d', tk', os'⟩ := s'
      have eg : g2 = s.gens := hm.gens
      have ed : d' = s.drawn := hm.drawn
      have eo : os' = s.os := hm.os
      subst eg; subst ed; subst eo
      show wpAny _ _ _ _ _ _
      refine wpAny_pure ?_
      show wpAny _ _ (ret Value.none) _ _ _
      rw [isz] at hc'
      refine wpAny_pure ⟨rfl, h', tk', c', rfl, hS', hc', fun b o e => ?_⟩
      have lb : b < s.heap.objs.size := Heap.lt_size e
      refine hm.heap b o (fun q => ?_) (Heap.get?_push_of_some _ (Heap.get?_push_of_some _ e))
      rw [zs] at q
      rcases List.mem_cons.mp q with q | q
      · exact absurd q (Nat.ne_of_lt lb)
      · exact absurd (List.mem_singleton.mp q) (Nat.ne_of_lt (Nat.lt_succ_of_lt lb))
    · match r2, hr2 with
      | .error e, hr2 => exact hr2
      | .ok (.ret r), hr2 =>
        obtain ⟨rfl, h', tk, c', rfl, hS', hc', hk'⟩ := hr2
        repeat (any_goals (first | assumption | wp_step))
        exact h _ _ _ hS' hc' hk'
      | .ok .next, hr2 => exact hr2.elim
      | .ok .brk, hr2 => exact hr2.elim
      | .ok .cont, hr2 => exact hr2.elim
  | .ok .next, hr => exact hr.elim
  | .ok .brk, hr => exact hr.elim
  | .ok .cont, hr => exact hr.elim
theorem set_of_tuple {l : Addr} {items : Array Value} (ns : List Int) {Q : Value → Shared → Prop} (hh : A.handled = none) (hl : s.heap.IsTuple l items) (hit : IntsAre items.toList ns) (hb : ns.length + 1 < scanBound)
    (h : ∀ (h' : Heap) (tk c : Nat), SetR w h' s.heap.objs.size (fun j => decide (j ∈ ns)) c → c ≤ ns.length → (∀ b o, s.heap.get? b = some o → h'.get? b = some o) → Q (.ref s.heap.objs.size) { s with heap := h', toks := tk }) :
    wpAny (model P w) A (call (.type "set") [.ref l]) Q E s := by
  have isz : items.size = ns.length := by
    have q := IntsAre.length hit
    rwa [Array.length_toList] at q
  obtain ⟨c, tl, hmro⟩ := F.called_set.mro
  have made := F.called_set.made
  have subs := F.called_set.sub
  refine wpAny_call (codeAny_of_tree ?_)
  show wpAny _ _ (callAny (.type "set") _) _ _ _
  refine wpAny_pure ⟨Code.quiet_builtin _ (by decide +kernel), codeAny_builtin PySem.F.entry_type_call ?_⟩
  rw [Around.under_plain (weight_type_call_type "set" [.ref l] []) rfl]
  have k1 := F.called_set.notType; have k2 := F.called_set.canCreate; have k3 := F.typeCall_set_1 (.ref l)
  repeat (any_goals (first | assumption | wp_step))
  refine codeAny_mono (code_set_led1 (.ref l) (E := E) (Q₁ := fun obj s₁ => obj = .ref s.heap.objs.size ∧ s₁ = { s with heap := s.heap.push (newSet w) }) ⟨rfl, rfl⟩) fun r s₁ hr => ?_
  match r, hr with
  | .error e, hr => exact hr
  | .ok (.ret obj), hr =>
    obtain ⟨rfl, rfl⟩ := hr
    have hS : (s.heap.push (newSet w)).get? s.heap.objs.size = some (newSet w) := Heap.get?_push_size _ rfl
    have hT : Shared.TypeIs { s with heap := s.heap.push (newSet w) } (.ref s.heap.objs.size) "set" := ⟨_, hS, rfl⟩
    have i1 := F.called_set.init.lookup; have i2 := F.called_set.init.bind (.ref s.heap.objs.size)
    repeat (any_goals (first | assumption | wp_step))
    refine codeAny_mono (codeAny_call_builtin (R := wants (fun r s2 => r = .none ∧ ∃ h' tk c, s2 = { s with heap := h', toks := tk } ∧ SetR w h' s.heap.objs.size (fun j => decide (j ∈ ns)) c ∧ c ≤ ns.length ∧ (∀ b o, s.heap.get? b = some o → h'.get? b = some o)) E) F.called_set.init.plain F.entry_set_init (check_set_init_1 hT ?_)) fun r2 s2 hr2 => ?_
    · obtain ⟨⟨ocls, odict, odata, oslots⟩, hol, hcl, nl, hdl⟩ := hl
      simp only at hcl hdl
      subst hcl; subst hdl
      have hol' : (s.heap.push (newSet w)).get? l = some { cls := .type "tuple", dict := odict, data := .seq items nl, slots := oslots } := Heap.get?_push_of_some _ hol
      have j1 := F.sub_tuple_set; have j2 := F.sub_tuple_frozenset
      have j3 : (Value.type "tuple" == Value.type "dict") = false := by decide
      have hl1 : (s.heap.push (newSet w)).IsTuple l items := ⟨_, hol', rfl, nl, rfl⟩
      unfold Builtin.«set.__init__» noKeywords Builtin.Frozenset.updateFrom
      generalize hPI : pyIter = PI
      wp_walk
      subst hPI
      refine wpAny_pyIter_tuple hl1 (wpAny_bind (wpAny_runValue ?_))
      have lS : l < s.heap.objs.size := Heap.lt_size hol
      have h3 : A.in1.in1.in1.handled = none := by simp [hh]
      have zs : (s.heap.push (newSet w)).objs.size = s.heap.objs.size + 1 := Heap.size_push ..
      have nI : l ≠ (s.heap.push (newSet w)).objs.size := by rw [zs]; exact Nat.ne_of_lt (Nat.lt_succ_of_lt lS)
      have nS : s.heap.objs.size ∉ [(s.heap.push (newSet w)).objs.size, l] := by
        rw [zs]
        intro q
        rcases List.mem_cons.mp q with q | q
        · exact absurd q (Nat.ne_of_lt (Nat.lt_succ_self _))
        · exact absurd (List.mem_singleton.mp q) (Nat.ne_of_gt lS)
      have val : ∀ (i : Nat) (v : Value), items[i]? = some v → ∃ k t, ns[i]? = some k ∧ v = .int k t := fun i v hv => by
        have li : i < ns.length := by rw [← isz]; exact (Array.getElem?_eq_some_iff.mp hv).1
        obtain ⟨t, e⟩ := hit.int_at i v (by rw [Array.getElem?_toList]; exact hv)
        exact ⟨ns[i], t, List.getElem?_eq_getElem li, by rw [e, List.getD_eq_getElem?_getD, List.getElem?_eq_getElem li] <;> rfl⟩
      refine set_update_ints ((Walks.tuple h3 _ l nI items).toS) s.heap.objs.size nS ns isz hb val (items.size - 0) 0 _ (by omega) (Nat.zero_le _) ⟨⟨_, Heap.get?_push_size _ rfl, rfl, rfl⟩, (hl1.push _)⟩ ⟨0, Nat.le_refl 0, setR_new_at (Heap.get?_push_of_some _ hS)⟩ fun s' c' hm hc' hS' => ?_
      obtain ⟨h', g2, d', tk', os'⟩ := s'
      have eg : g2 = s.gens := hm.gens
      have ed : d' = s.drawn := hm.drawn
      have eo : os' = s.os := hm.os
      subst eg; subst ed; subst eo
      show wpAny _ _ _ _ _ _
      refine wpAny_pure ?_
      show wpAny _ _ (ret Value.none) _ _ _
      rw [isz] at hc'
      refine wpAny_pure ⟨rfl, h', tk', c', rfl, hS', hc', fun b o e => ?_⟩
      have lb : b < s.heap.objs.size := Heap.lt_size e
      refine hm.heap b o (fun q => ?_) (Heap.get?_push_of_some _ (Heap.get?_push_of_some _ e))
      rw [zs] at q
      rcases List.mem_cons.mp q with q | q
      · exact absurd q (Nat.ne_of_lt lb)
      · exact absurd (List.mem_singleton.mp q) (Nat.ne_of_lt (Nat.lt_succ_of_lt lb))
    · match r2, hr2 with
      | .error e, hr2 => exact hr2
      | .ok (.ret r), hr2 =>
        obtain ⟨rfl, h', tk, c', rfl, hS', hc', hk'⟩ := hr2
        repeat (any_goals (first | assumption | wp_step))
        exact h _ _ _ hS' hc' hk'
      | .ok .next, hr2 => exact hr2.elim
      | .ok .brk, hr2 => exact hr2.elim
      | .ok .cont, hr2 => exact hr2.elim
  | .ok .next, hr => exact hr.elim
  | .ok .brk, hr => exact hr.elim
  | .ok .cont, hr => exact hr.elim
end
section
variable {X : Cx}
theorem set_count {w : World} {h : Heap} {a : Addr} {ns : List Int} {c : Nat} (R : SetR w h a (fun j => decide (j ∈ ns)) c) (ms : List Int) (hn : ms.Nodup) (hm : ∀ k, k ∈ ms ↔ k ∈ ns) : ms.length = c := by
  obtain ⟨o, es, ep, t, _, _, _, _, nd, hk, _, _, hs, _⟩ := R
  have hp : ms.Perm (es.toList.map keyOf) := (List.perm_ext_iff_of_nodup hn nd).mpr fun k => by
    rw [hm k, ← hk k]
    simp
  rw [hp.length_eq, List.length_map, Array.length_toList, hs]
def rSetI (K : PySem.W.Frag) (w : World) : List V → Hp → VK → Prop := fun vs H Q => ∃ (a : Addr) (ns : List Int), vs = [.ref a] ∧ SqL K H a (ns.map V.int) ∧ ns.length < 4000 ∧ ∀ p c, H p = none → (∀ ms : List Int, ms.Nodup → (∀ k, k ∈ ms ↔ k ∈ ns) → ms.length = c) → Q (.ref p) (upd H p (SetO w p (fun j => decide (j ∈ ns)) c))
theorem cr_setI (hc : X.calm = true) : CallR X (.type "set") (rSetI X.K X.w) := by
  intro pins s σ H vs us Q I r h
  obtain ⟨a, ns, rfl, hs, hn, q⟩ := h
  obtain ⟨its, rv, hl, hz⟩ := I.list hs
  rw [Vals.ref1 r]
  refine set_of_list ns (I.ok.hd hc) hl.isList (by simpa using ints_of_vals rv) (by unfold scanBound; omega) fun h' tk c hS hle hk => ?_
  exact ⟨.ref _, upd H s.heap.objs.size (SetO X.w s.heap.objs.size (fun j => decide (j ∈ ns)) c), I.laid hk (Nat.le_refl _) (setO_new hS), rfl, q _ c (I.hok.fresh (Nat.le_refl _)) (set_count hS)⟩
def rSetIT (K : PySem.W.Frag) (w : World) : List V → Hp → VK → Prop := fun vs H Q => ∃ (a : Addr) (ns : List Int), vs = [.ref a] ∧ SqT K H a (ns.map V.int) ∧ ns.length < 4000 ∧ ∀ p c, H p = none → (∀ ms : List Int, ms.Nodup → (∀ k, k ∈ ms ↔ k ∈ ns) → ms.length = c) → Q (.ref p) (upd H p (SetO w p (fun j => decide (j ∈ ns)) c))
theorem cr_setIT (hc : X.calm = true) : CallR X (.type "set") (rSetIT X.K X.w) := by
  intro pins s σ H vs us Q I r h
  obtain ⟨a, ns, rfl, hs, hn, q⟩ := h
  obtain ⟨its, rv, hl, hz⟩ := I.tuple hs
  rw [Vals.ref1 r]
  refine set_of_tuple ns (I.ok.hd hc) hl (by simpa using ints_of_vals rv) (by unfold scanBound; omega) fun h' tk c hS hle hk => ?_
  exact ⟨.ref _, upd H s.heap.objs.size (SetO X.w s.heap.objs.size (fun j => decide (j ∈ ns)) c), I.laid hk (Nat.le_refl _) (setO_new hS), rfl, q _ c (I.hok.fresh (Nat.le_refl _)) (set_count hS)⟩
end
end Co
end

section
set_option Elab.async false
set_option linter.all false
set_option maxRecDepth 100000
set_option maxHeartbeats 1000000
/-! max of a tuple of ints -/
namespace Co
open PySem L2 PyProof.Rows
section
variable {prog : Program} {w : World} {A : Around} {E : Value → Shared → Prop} {s : Shared} {l : Addr}
theorem max_intTup {xs : Array (Int × Tok)} {Q : Value → Shared → Prop} (hh : A.handled = none) (hl : s.heap.IsTuple l (intItems xs)) (hne : 0 < xs.size)
    (h : ∀ v h' tk, (intItems xs)[argBest (fun i j => decide (numAt xs i > numAt xs j)) (xs.size - 1)]? = some v → (∀ b o, s.heap.get? b = some o → h'.get? b = some o) → Q v { s with heap := h', toks := tk }) : wpAny (model prog w) A (call (.builtin "max") [.ref l]) Q E s := by
  refine call_max_walkH (PySem.W.iter_tupleW (A := A.in1) hh hl fun s₂ e W st hfp hw hk => ?_)
  refine ⟨_, _, _, _, _, _, _, s.heap, _, rfl, W, st, hfp, by simpa [intItems] using hne, hw, hk, fun i j vi vj s Q E _ hi hj hq => CmpOf.ints_gt (numAt xs) (fun _ _ => intItems_at) i j vi vj s Q E hi hj hq, fun v s' hP m => ?_⟩
  obtain ⟨h', tk, rfl, hk'⟩ := PySem.W.moved_old e rfl m
  exact h v h' tk (by simpa [intItems] using hP) hk'
theorem max_rawT {its : List Value} {ns : List Int} {Q : Value → Shared → Prop} (hh : A.handled = none) (hl : s.heap.IsTuple l its.toArray) (hi : IntsAre its ns) (hne : 0 < ns.length)
    (h : ∀ h' tk M t', (∀ b o, s.heap.get? b = some o → h'.get? b = some o) → M ∈ ns → (∀ a, a ∈ ns → a ≤ M) → Q (.int M t') { s with heap := h', toks := tk }) : wpAny (model prog w) A (call (.builtin "max") [.ref l]) Q E s := by
  obtain ⟨xs, e⟩ := hi.allInts.items
  have hn : numsOf (intItems xs).toList = ns := by rw [← e]; exact hi.numsOf
  rw [nums_intItems] at hn
  subst hn
  rw [e] at hl
  refine max_intTup hh hl (by simpa using hne) fun v h' tk hv hk => ?_
  obtain ⟨t, rfl⟩ := intItems_at hv
  obtain ⟨h1, h2⟩ := argBest_gt (numAt xs) (xs.size - 1)
  have hsz : 0 < xs.size := by simpa using hne
  refine h h' tk _ t hk ?_ fun a ha => ?_
  · rw [numAt_eq]
    exact getD_mem (by rw [List.length_map, Array.length_toList]; omega)
  · obtain ⟨j, hj, rfl⟩ := mem_getD ha
    rw [List.length_map, Array.length_toList] at hj
    rw [← numAt_eq]
    exact h2 j (by omega)
end
section
variable {X : Cx}
def rMaxT (K : PySem.W.Frag) : List V → Hp → VK → Prop := fun vs H Q => ∃ (a : Addr) (ns : List Int), vs = [V.ref a] ∧ SqT K H a (ns.map V.int) ∧ 0 < ns.length ∧ ∀ m, m ∈ ns → (∀ y, y ∈ ns → y ≤ m) → Q (.int m) H
theorem cr_maxT (hc : X.calm = true) : CallR X (.builtin "max") (rMaxT X.K) := by
  intro pins s σ H vs us Q I r h
  obtain ⟨a, ns, rfl, hs, hne, q⟩ := h
  obtain ⟨its, rv, hl, _⟩ := I.tuple hs
  rw [Vals.ref1 r]
  exact max_rawT (I.ok.hd hc) hl rv.ints hne fun h' tk m t' hk h1 h2 => ⟨.int _, H, I.kept hk, ⟨_, rfl⟩, q m h1 h2⟩
end
end Co
end

section
set_option Elab.async false
set_option linter.all false
set_option maxRecDepth 100000
/-! the small language and what it means -/
namespace Co
open PySem

abbrev Dt := PyData
/-- a value, or what a slot holds -/
inductive Vl where
  | und | dat (d : Dt) | nw (xs : List Dt) | nwd (t : Bool) (kvs : List (Dt × Dt)) | own (xs : List Dt) | odc (t : Bool) (kvs : List (Dt × Dt)) | cell (n : Nat) | scr (ns : List Int)
inductive Cell where
  | lst (xs : List Dt)
abbrev Mem := List Cell
abbrev Rho := List Vl
inductive Res (α : Type) where
  | ok (a : α) (M : Mem) | exc (c : Nat) (M : Mem) | bad
def Res.bind {α β : Type} (r : Res α) (k : α → Mem → Res β) : Res β := match r with
  | .ok a M => k a M
  | .exc c M => .exc c M
  | .bad => .bad
def Res.lift {α : Type} (o : Option α) (M : Mem) : Res α := match o with
  | some a => .ok a M
  | none => .bad
/-- a dict's items as data: a mark ahead tells that its keys are tuples -/
def mkD (t : Bool) (kvs : List (Dt × Dt)) : List (Dt × Dt) := if t then (.none, .none) :: kvs else kvs
def Vl.get : Vl → Option Dt
  | .dat d => some d
  | .nw xs => some (.list xs)
  | .nwd t kvs => some (.dict (mkD t kvs))
  | _ => none
def Vl.nrm : Vl → Vl
  | .nw xs => .dat (.list xs)
  | .nwd t kvs => .dat (.dict (mkD t kvs))
  | v => v
def gets : List Vl → Option (List Dt)
  | [] => some []
  | v :: vs => match v.get, gets vs with
    | some d, some ds => some (d :: ds)
    | _, _ => none

inductive Op where | add | sub | mul | fdiv | mod | pow
inductive Cp where | eq | ne | lt | le | gt | ge | mem | nmem | is_ | isn
inductive Bi where
  | len | max | min | sum | all | any | tuple | list | sorted | int | isInt | isBool | isTuple | isList | isStr

mutual
inductive Ex where
  | var (i : Nat) | cst (d : Dt)
  | op (o : Op) (a b : Ex) | neg (a : Ex) | not (a : Ex)
  | cmp (c : Cp) (a b : Ex) | chain (c c' : Cp) (a b e : Ex)
  | and (a b : Ex) | or (a b : Ex) | ite (t a b : Ex)
  | tup (es : Exs) | lst (es : Exs)
  | idx (a b : Ex) | slc (a : Ex) (fl fh : Bool) (lo hi : Ex) | rev (a : Ex)
  | bi (b : Bi) (es : Exs) | call (f : Nat) (es : Exs)
  | dget (a k d : Ex) | dnew (t : Bool) | lzip (a b : Ex) | srt (a : Ex) | lrg1 (a : Ex) | lrg2 (a b : Ex) | chn3 (c1 c2 c3 : Cp) (a b d e : Ex)
  | comp (own : List Nat) (tg : Tg) (it : It) (c e : Ex)
  | comp2 (own own1 : List Nat) (tg : Tg) (it : It) (tg1 : Tg) (it1 : It) (c e : Ex)
  | trg1 (a : Ex)
inductive Exs where
  | nil | cons (e : Ex) (es : Exs)
inductive It where
  | seq (e : Ex) | rng1 (a : Ex) | rng2 (a b : Ex) | enu (a : Ex) | zip (a b : Ex)
inductive Tg where
  | nm (i : Nat) | tp (ts : Tgs)
inductive Tgs where
  | nil | cons (t : Tg) (ts : Tgs)
end

abbrev lim : Nat := sizeLine
def ints? : List Dt → Option (List Int)
  | [] => some []
  | .int i :: ds => (ints? ds).map (i :: ·)
  | _ => none
def bools? : List Dt → Option (List Bool)
  | [] => some []
  | .bool i :: ds => (bools? ds).map (i :: ·)
  | _ => none

def opD : Op → Dt → Dt → Option Vl
  | .add, .int i, .int j => some (.dat (.int (i + j)))
  | .add, .list xs, .list ys => if xs.length + ys.length ≤ lim then some (.nw (xs ++ ys)) else none
  | .add, .tuple xs, .tuple ys => if xs.length + ys.length ≤ lim then some (.dat (.tuple (xs ++ ys))) else none
  | .sub, .int i, .int j => some (.dat (.int (i - j)))
  | .mul, .int i, .int j => if (-(2 ^ 64) < i ∧ i < 2 ^ 64) ∨ (-(2 ^ 64) < j ∧ j < 2 ^ 64) then some (.dat (.int (i * j))) else none
  | .mul, .list xs, .int j => if -(2 ^ 63) ≤ j ∧ j < 2 ^ 63 ∧ xs.length * j.toNat ≤ lim then some (.nw (List.replicate j.toNat xs).flatten) else none
  | .fdiv, .int i, .int j => if 0 < j ∧ j < 1073741824 then some (.dat (.int (i / j))) else none
  | .mod, .int i, .int j => if 0 < j then some (.dat (.int (i % j))) else none
  | .pow, .int i, .int j => if 0 ≤ j ∧ j ≤ 1000000 ∧ i.natAbs < 2 ^ 64 then some (.dat (.int (i ^ j.toNat))) else none
  | _, _, _ => none

/-! dicts -/
def toK : Dt → Option L2.Key
  | .int i => some (.inl i)
  | .str s => some (.inr s)
  | _ => none
def toKs : List Dt → Option (List L2.Key)
  | [] => some []
  | d :: ds => (toK d).bind fun k => (toKs ds).map (k :: ·)
def toKT : Dt → Option (List L2.Key)
  | .tuple ds => toKs ds
  | _ => none
def findD (p : Dt → Bool) : List (Dt × Dt) → Option Dt
  | [] => none
  | (a, v) :: r => if p a then some v else findD p r
def putD (p : Dt → Bool) (k v : Dt) (kvs : List (Dt × Dt)) : List (Dt × Dt) := if kvs.any (fun q => p q.1) then kvs.map (fun q => if p q.1 then (q.1, v) else q) else kvs ++ [(k, v)]
/-- whether an item's key is the key k -/
def isK (k : L2.Key) (a : Dt) : Bool := decide (toK a = some k)
def isT (k : List L2.Key) (a : Dt) : Bool := decide (toKT a = some k)
/-- the test of a key in a dict of this kind -/
def keyT (t : Bool) (k : Dt) : Option (Dt → Bool) := if t then (toKT k).map isT else (toK k).map isK
def dGet : List (Dt × Dt) → Dt → Option (Option Dt)
  | (.none, _) :: r, k => (keyT true k).map fun p => findD p r
  | r, k => (keyT false k).map fun p => findD p r
def dPut (t : Bool) (kvs : List (Dt × Dt)) (k v : Dt) : Option (List (Dt × Dt)) := (keyT t k).map fun p => putD p k v kvs
def dDrop (kvs : List (Dt × Dt)) (k : Dt) : Option (List (Dt × Dt)) := (toK k).bind fun q => (findD (isK q) kvs).map fun _ => kvs.filter fun e => !isK q e.1
def intKeys? : List (Dt × Dt) → Option (List Int)
  | [] => some []
  | (.int i, _) :: r => (intKeys? r).map (i :: ·)
  | _ => none
def dict? : Vl → Option (List (Dt × Dt))
  | .dat (.dict kvs) => some kvs
  | .nwd t kvs => some (mkD t kvs)
  | _ => none
def dgetV (kvs : List (Dt × Dt)) (y z : Vl) : Option Vl := match y.get, z.get with
  | some k, some d => (dGet kvs k).map fun o => .dat (o.getD d)
  | _, _ => none
def isNone : Dt → Bool
  | .none => true
  | _ => false
def shp (d : Dt) : Bool := SeqAt.shaped d
def memD (a : Dt) : Dt → Option Bool
  | .list ys => if shp a && shp (.list ys) then some (ys.any fun z => PyData.eqv z a) else none
  | .tuple ys => if shp a && shp (.tuple ys) then some (ys.any fun z => PyData.eqv z a) else none
  | .dict kvs => (dGet kvs a).map Option.isSome
  | _ => none
def isD (a : Dt) : Dt → Option Bool
  | .none => some (isNone a)
  | .bool b => match a with
    | .bool c => some (decide (c = b))
    | _ => none
  | _ => none
def cmpD : Cp → Dt → Dt → Option Bool
  | .eq, a, b => if shp a && shp b then some (PyData.eqv a b) else none
  | .ne, a, b => if shp a && shp b then some (!PyData.eqv a b) else none
  | .lt, .int i, .int j => some (decide (i < j))
  | .lt, .tuple xs, .tuple ys => match ints? xs, ints? ys with
    | some ns, some ms => some (HT.lexLt ns ms)
    | _, _ => none
  | .le, .int i, .int j => some (decide (i ≤ j))
  | .gt, .int i, .int j => some (decide (i > j))
  | .ge, .int i, .int j => some (decide (i ≥ j))
  | .mem, a, b => memD a b
  | .nmem, a, b => (memD a b).map (!·)
  | .is_, a, b => isD a b
  | .isn, a, b => (isD a b).map (!·)
  | _, _, _ => none
def cmpV (c : Cp) (x y : Vl) : Option Vl := match x.get, y.get with
  | some a, some b => (cmpD c a b).map fun k => .dat (.bool k)
  | _, _ => none
def opV (o : Op) (x y : Vl) : Option Vl := match x.get, y.get with
  | some a, some b => opD o a b
  | _, _ => none
def notV : Vl → Option Vl
  | .dat (.bool b) => some (.dat (.bool !b))
  | _ => none
def negV : Vl → Option Vl
  | .dat (.int i) => some (.dat (.int (-i)))
  | _ => none
/-- the item at an index of any sign -/
def at? {α : Type} (xs : List α) (i : Int) : Option α := L2.atI xs i
def idxV (M : Mem) (x y : Vl) : Option Vl := match dict? x with
  | some kvs => (y.get.bind (dGet kvs)).bind fun o => o.map .dat
  | none => match y with
  | .dat (.int i) => match x with
    | .scr ns => (at? ns i).map fun k => .dat (.int k)
    | .dat (.list xs) => (at? xs i).map .dat
    | .nw xs => (at? xs i).map .dat
    | .dat (.tuple xs) => (at? xs i).map .dat
    | .cell n => match M[n]? with
      | some (.lst xs) => (at? xs i).map .dat
      | none => none
    | _ => none
  | _ => none
def ends? (f : Bool) (v : Vl) : Option (Option Int) := if f then (match v with
  | .dat (.int i) => some (some i)
  | _ => none) else some none
/-- a slice without a step -/
def cut {α : Type} (xs : List α) (lo hi : Option Int) : List α := (xs.drop (HT.sIx xs.length 0 lo)).take (HT.sIx xs.length xs.length hi - HT.sIx xs.length 0 lo)
def slcV (x : Vl) (a b : Option Int) : Option Vl := match x with
  | .dat (.list xs) => some (.nw (cut xs a b))
  | .nw xs => some (.nw (cut xs a b))
  | .dat (.tuple xs) => some (.dat (.tuple (cut xs a b)))
  | _ => none
def revV : Vl → Option Vl
  | .dat (.list xs) => some (.nw xs.reverse)
  | .nw xs => some (.nw xs.reverse)
  | _ => none
def maxL : List Int → Option Int
  | [] => none
  | i :: is => some (is.foldl (fun a b => if b > a then b else a) i)
def minL : List Int → Option Int
  | [] => none
  | i :: is => some (is.foldl (fun a b => if b < a then b else a) i)
/-- what a list of ints sorted is -/
def insI (i : Int) : List Int → List Int
  | [] => [i]
  | j :: js => if i ≤ j then i :: j :: js else j :: insI i js
def sortI (xs : List Int) : List Int := xs.foldr insI []
def lenD : List Dt → Option Vl
  | [.list xs] => some (.dat (.int xs.length))
  | [.tuple xs] => some (.dat (.int xs.length))
  | _ => none
def lenV : List Vl → Option Vl
  | [.scr ns] => some (.dat (.int ns.length))
  | vs => (gets vs).bind lenD
def maxD : List Dt → Option Vl
  | [.list xs] => (ints? xs).bind fun ns => (maxL ns).map fun m => .dat (.int m)
  | [.tuple xs] => (ints? xs).bind fun ns => (maxL ns).map fun m => .dat (.int m)
  | [.int i, .int j] => some (.dat (.int (if j > i then j else i)))
  | _ => none
def minD : List Dt → Option Vl
  | [.list xs] => (ints? xs).bind fun ns => (minL ns).map fun m => .dat (.int m)
  | [.int i, .int j] => some (.dat (.int (if j < i then j else i)))
  | _ => none
def sumD : List Dt → Option Vl
  | [.list xs] => (ints? xs).map fun ns => .dat (.int ns.sum)
  | _ => none
def allD : List Dt → Option Vl
  | [.list xs] => (bools? xs).map fun bs => .dat (.bool (bs.all id))
  | _ => none
def anyD : List Dt → Option Vl
  | [.list xs] => (bools? xs).map fun bs => .dat (.bool (bs.any id))
  | _ => none
def tupleD : List Dt → Option Vl
  | [.list xs] => some (.dat (.tuple xs))
  | [.tuple xs] => some (.dat (.tuple xs))
  | _ => none
def listD : List Dt → Option Vl
  | [.list xs] => some (.nw xs)
  | [.tuple xs] => some (.nw xs)
  | _ => none
def intD : List Dt → Option Vl
  | [.int i] => some (.dat (.int i))
  | [.bool b] => some (.dat (.int (if b then 1 else 0)))
  | _ => none
def insT (i : List Int) : List (List Int) → List (List Int)
  | [] => [i]
  | j :: js => if HT.lexLt j i then j :: insT i js else i :: j :: js
def sortT (xs : List (List Int)) : List (List Int) := xs.foldr insT []
/-- tuples of ints, none empty -/
def tups? : List Dt → Option (List (List Int))
  | [] => some []
  | .tuple es :: ds => match ints? es with
    | some (n :: ns) => (tups? ds).map ((n :: ns) :: ·)
    | _ => none
  | _ => none
def sortedD : List Dt → Option Vl
  | [.dict kvs] => (intKeys? kvs).bind fun ns => if ns.length < 64 then some (.nw ((sortI ns).map .int)) else none
  | [.list xs] => match ints? xs with
    | some ns => some (.nw ((sortI ns).map .int))
    | none => (tups? xs).map fun ts => .nw ((sortT ts).map fun ns => .tuple (ns.map .int))
  | [.tuple xs] => (tups? xs).map fun ts => .nw ((sortT ts).map fun ns => .tuple (ns.map .int))
  | _ => none
/-- sorted, each once -/
def insU (i : Int) : List Int → List Int
  | [] => [i]
  | j :: js => if i < j then i :: j :: js else if i = j then j :: js else j :: insU i js
def srtU (xs : List Int) : List Int := xs.foldr insU []
def tyName : Dt → String
  | .none => "NoneType"
  | .bool _ => "bool"
  | .int _ => "int"
  | .str _ => "str"
  | .list _ => "list"
  | .tuple _ => "tuple"
  | .dict _ => "dict"
def isTy (t : String) : List Dt → Option Vl
  | [.dict _] => none
  | [d] => some (.dat (.bool (tyName d == t || (tyName d == "bool" && t == "int"))))
  | _ => none
def biD : Bi → List Dt → Option Vl
  | .len => lenD
  | .max => maxD
  | .min => minD
  | .sum => sumD
  | .all => allD
  | .any => anyD
  | .tuple => tupleD
  | .list => listD
  | .int => intD
  | .sorted => sortedD
  | .isInt => isTy "int"
  | .isBool => isTy "bool"
  | .isTuple => isTy "tuple"
  | .isList => isTy "list"
  | .isStr => isTy "str"
def biV : Bi → List Vl → Option Vl
  | .len => lenV
  | b => fun vs => (gets vs).bind (biD b)

mutual
def bindT : Tg → Dt → Rho → Option Rho
  | .nm i, d, ρ => some (ρ.set i (.dat d))
  | .tp ts, d, ρ => match d with
    | .tuple ds => bindTs ts ds ρ
    | _ => none
def bindTs : Tgs → List Dt → Rho → Option Rho
  | .nil, [], ρ => some ρ
  | .cons t ts, d :: ds, ρ => (bindT t d ρ).bind fun ρ' => bindTs ts ds ρ'
  | _, _, _ => none
end
def wipeD (ρ : Rho) : List Nat → Rho
  | [] => ρ
  | v :: vs => (wipeD ρ vs).set v .und

def cLoop (body : Dt → Mem → Res (Option Dt)) : List Dt → Mem → Res (List Dt)
  | [], M => .ok [] M
  | x :: xs, M => (body x M).bind fun o M => (cLoop body xs M).bind fun r M => .ok (match o with | some d => d :: r | none => r) M
def cLoop2 (body : Dt → Mem → Res (List Dt)) : List Dt → Mem → Res (List Dt)
  | [], M => .ok [] M
  | x :: xs, M => (body x M).bind fun o M => (cLoop2 body xs M).bind fun r M => .ok (o ++ r) M
/-- no exception leaves -/
def nx {α : Type} : Res α → Res α
  | .exc _ _ => .bad
  | r => r
def rngs (lo : Int) (n : Nat) : List Dt := (List.range n).map fun (k : Nat) => PyData.int (lo + k)
def big : Int := 2 ^ 62
def rng (lo hi : Int) : Option (List Dt) := if -big ≤ lo ∧ lo < big ∧ -big ≤ hi ∧ hi < big ∧ (hi - lo).toNat ≤ lim then some (rngs lo (hi - lo).toNat) else none
def seq? : Vl → Option (List Dt)
  | .dat (.list xs) => some xs
  | .dat (.tuple xs) => some xs
  | .nw xs => some xs
  | _ => none
def lst? : Vl → Option (List Dt)
  | .dat (.list xs) => some xs
  | .nw xs => some xs
  | _ => none
def zip? (v u : Vl) : Option (List Dt) := match seq? v, seq? u with
  | some xs, some ys => some ((xs.zip ys).map fun p => .tuple [p.1, p.2])
  | _, _ => none
def srtV (v : Vl) : Option Vl := ((seq? v).bind ints?).bind fun ns => if ns.length < 4000 ∧ (srtU ns).length < 64 then some (.nw ((srtU ns).map .int)) else none
mutual
def slots : Tg → List Nat
  | .nm i => [i]
  | .tp ts => slotss ts
def slotss : Tgs → List Nat
  | .nil => []
  | .cons t ts => slots t ++ slotss ts
end
def enuFrom (i : Int) : List Dt → List Dt
  | [] => []
  | d :: ds => .tuple [.int i, d] :: enuFrom (i + 1) ds
def ifB {α : Type} (v : Vl) (a b : Res α) : Res α := match v with
  | .dat (.bool true) => a
  | .dat (.bool false) => b
  | _ => .bad

section
variable (cf : Nat → List Vl → Mem → Res Vl)
mutual
def ev : Ex → Rho → Mem → Res Vl
  | .var i, ρ, M => match ρ.getD i .und with
    | .und => .bad
    | .own _ => .bad
    | .odc _ _ => .bad
    | v => .ok v M
  | .cst d, _, M => .ok (.dat d) M
  | .op o a b, ρ, M => (ev a ρ M).bind fun x M => (ev b ρ M).bind fun y M => .lift (opV o x y) M
  | .neg a, ρ, M => (ev a ρ M).bind fun x M => .lift (negV x) M
  | .not a, ρ, M => (ev a ρ M).bind fun x M => .lift (notV x) M
  | .cmp c a b, ρ, M => (ev a ρ M).bind fun x M => (ev b ρ M).bind fun y M => .lift (cmpV c x y) M
  | .chain c c' a b e, ρ, M => (ev a ρ M).bind fun x M => (ev b ρ M).bind fun y M => (Res.lift (cmpV c x y) M).bind fun k M =>
      ifB k ((ev e ρ M).bind fun z M => .lift (cmpV c' y z) M) (.ok k M)
  | .and a b, ρ, M => (ev a ρ M).bind fun k M => ifB k (ev b ρ M) (.ok k M)
  | .or a b, ρ, M => (ev a ρ M).bind fun k M => ifB k (.ok k M) (ev b ρ M)
  | .ite t a b, ρ, M => (ev t ρ M).bind fun k M => ifB k (ev a ρ M) (ev b ρ M)
  | .tup es, ρ, M => (evs es ρ M).bind fun vs M => .lift ((gets vs).map fun ds => .dat (.tuple ds)) M
  | .lst es, ρ, M => (evs es ρ M).bind fun vs M => .lift ((gets vs).map fun ds => .nw ds) M
  | .idx a b, ρ, M => (ev a ρ M).bind fun x M => (ev b ρ M).bind fun y M => .lift (idxV M x y) M
  | .slc a fl fh lo hi, ρ, M => (ev a ρ M).bind fun x M => (ev lo ρ M).bind fun y M => (Res.lift (ends? fl y) M).bind fun i M => (ev hi ρ M).bind fun u M => (Res.lift (ends? fh u) M).bind fun j M => .lift (slcV x i j) M
  | .rev a, ρ, M => (ev a ρ M).bind fun x M => .lift (revV x) M
  | .bi b es, ρ, M => (evs es ρ M).bind fun vs M => .lift (biV b vs) M
  | .call f es, ρ, M => (evs es ρ M).bind fun vs M => cf f (vs.map Vl.nrm) M
  | .dget a k d, ρ, M => (ev a ρ M).bind fun x M => (Res.lift (dict? x) M).bind fun kvs M => (ev k ρ M).bind fun y M => (ev d ρ M).bind fun z M => .lift (dgetV kvs y z) M
  | .dnew t, _, M => .ok (.nwd t []) M
  | .lzip a b, ρ, M => (ev a ρ M).bind fun x M => (ev b ρ M).bind fun y M => .lift ((zip? x y).map .nw) M
  | .srt a, ρ, M => (ev a ρ M).bind fun x M => .lift (srtV x) M
  | .lrg1 a, ρ, M => (ev a ρ M).bind fun v M => match v with
    | .dat (.int j) => .lift ((rng 0 j).map .nw) M
    | _ => .bad
  | .lrg2 a b, ρ, M => (ev a ρ M).bind fun v M => (ev b ρ M).bind fun u M => match v, u with
    | .dat (.int i), .dat (.int j) => .lift ((rng i j).map .nw) M
    | _, _ => .bad
  | .chn3 c1 c2 c3 a b d e, ρ, M => (ev a ρ M).bind fun x M => (ev b ρ M).bind fun y M => (Res.lift (cmpV c1 x y) M).bind fun k M =>
      ifB k ((ev d ρ M).bind fun z M => (Res.lift (cmpV c2 y z) M).bind fun k M => ifB k ((ev e ρ M).bind fun u M => .lift (cmpV c3 z u) M) (.ok k M)) (.ok k M)
  | .comp own tg it c e, ρ, M => (evI it ρ M).bind fun xs M => (nx (cLoop (fun x M => match bindT tg x (wipeD ρ own) with
      | none => .bad
      | some ρ' => (ev c ρ' M).bind fun k M => ifB k ((ev e ρ' M).bind fun v M => .lift (v.get.map some) M) (.ok none M)) xs M)).bind fun r M => .ok (.nw r) M
  | .comp2 own own1 tg it tg1 it1 c e, ρ, M => (evI it ρ M).bind fun xs M => (nx (cLoop2 (fun x M => match bindT tg x (wipeD ρ own) with
      | none => .bad
      | some ρ' => (evI it1 ρ' M).bind fun ys M => cLoop (fun y M => match bindT tg1 y (wipeD ρ' own1) with
          | none => .bad
          | some ρ'' => (ev c ρ'' M).bind fun k M => ifB k ((ev e ρ'' M).bind fun v M => .lift (v.get.map some) M) (.ok none M)) ys M) xs M)).bind fun r M => if r.length ≤ lim then .ok (.nw r) M else .bad
  | .trg1 a, ρ, M => (ev a ρ M).bind fun v M => match v with
    | .dat (.int j) => .lift ((rng 0 j).map fun ds => .dat (.tuple ds)) M
    | _ => .bad
def evs : Exs → Rho → Mem → Res (List Vl)
  | .nil, _, M => .ok [] M
  | .cons e es, ρ, M => (ev e ρ M).bind fun v M => (evs es ρ M).bind fun vs M => .ok (v :: vs) M
def evI : It → Rho → Mem → Res (List Dt)
  | .seq e, ρ, M => (ev e ρ M).bind fun v M => .lift (seq? v) M
  | .rng1 a, ρ, M => (ev a ρ M).bind fun v M => match v with
    | .dat (.int j) => .lift (rng 0 j) M
    | _ => .bad
  | .rng2 a b, ρ, M => (ev a ρ M).bind fun v M => (ev b ρ M).bind fun u M => match v, u with
    | .dat (.int i), .dat (.int j) => .lift (rng i j) M
    | _, _ => .bad
  | .enu a, ρ, M => (ev a ρ M).bind fun v M => .lift ((seq? v).map (enuFrom 0)) M
  | .zip a b, ρ, M => (ev a ρ M).bind fun v M => (ev b ρ M).bind fun u M => .lift (zip? v u) M
end
end
inductive Kd where | val | own | cell
mutual
inductive Stm where
  | set (vs : List Nat) (k : Kd) (i : Nat) (e : Ex)
  | par (vs : List Nat) (ts : List (Kd × Nat)) (es : Exs)
  | unp (vs : List Nat) (tg : Tg) (e : Ex)
  | app (vs : List Nat) (i : Nat) (e : Ex)
  | lput (vs : List Nat) (i : Nat) (k e : Ex)
  | cput (vs : List Nat) (i : Nat) (k e : Ex)
  | dput (vs : List Nat) (i : Nat) (k e : Ex)
  | dpop (vs : List Nat) (i : Nat) (k : Ex)
  | iff (vs : List Nat) (c : Ex) (a b : Stms)
  | fr (vs wp : List Nat) (tg : Tg) (it : It) (body : Stms)
  | wh (vs wp : List Nat) (c : Ex) (body : Stms)
  | exa (vs : List Nat) (a e : Ex)
  | ret (e : Ex) | retN | ex (vs : List Nat) (e : Ex) | frz (i : Nat) | pass | never
inductive Stms where
  | nil | cons (s : Stm) (ss : Stms)
end
inductive Fl where
  | next (ρ : Rho) | ret (v : Vl)
def bor : Vl → Vl
  | .own xs => .dat (.list xs)
  | .odc t kvs => .dat (.dict (mkD t kvs))
  | v => v
def view (ρ : Rho) : List Nat → Rho
  | [] => ρ
  | v :: vs => (view ρ vs).set v (bor (ρ.getD v .und))
def fin1 : Vl → Vl
  | .own xs => .nw xs
  | .odc t kvs => .nwd t kvs
  | v => v
mutual
def noL : Dt → Bool
  | .list _ => false
  | .dict _ => false
  | .tuple xs => noLs xs
  | _ => true
def noLs : List Dt → Bool
  | [] => true
  | x :: xs => noL x && noLs xs
end
def noLkv : List (Dt × Dt) → Bool
  | [] => true
  | (k, v) :: r => noL k && noL v && noLkv r
def okv1 : Vl → Bool
  | .dat d => noL d
  | .nw xs => noLs xs
  | .nwd _ kvs => noLkv kvs
  | .cell _ => true
  | _ => false
def okv (vs : List Nat) (v : Vl) : Bool := vs.isEmpty || okv1 v
def asg (k : Kd) (i : Nat) (v : Vl) (ρ : Rho) (M : Mem) : Res Rho := match k, v with
  | .val, .dat d => .ok (ρ.set i (.dat d)) M
  | .val, .nw xs => .ok (ρ.set i (.dat (.list xs))) M
  | .val, .nwd t kvs => .ok (ρ.set i (.dat (.dict (mkD t kvs)))) M
  | .val, .cell n => .ok (ρ.set i (.cell n)) M
  | .val, .scr n => .ok (ρ.set i (.scr n)) M
  | .own, .nw xs => .ok (ρ.set i (.own xs)) M
  | .own, .nwd t kvs => .ok (ρ.set i (.odc t kvs)) M
  | .cell, .nw xs => if noLs xs then .ok (ρ.set i (.cell M.length)) (M ++ [.lst xs]) else .bad
  | _, _ => .bad
def asgs : List (Kd × Nat) → List Vl → Rho → Mem → Res Rho
  | [], [], ρ, M => .ok ρ M
  | (k, i) :: ts, v :: vs, ρ, M => (asgs ts vs ρ M).bind fun ρ M => asg k i v ρ M
  | _, _, _, _ => .bad
/-- the place of an index of any sign -/
def ix (n : Nat) (i : Int) : Option Nat := L2.ixN n i
def floop (wp : List Nat) (body : Dt → Rho → Mem → Res Fl) : List Dt → Rho → Mem → Res Fl
  | [], ρ, M => .ok (.next ρ) M
  | x :: xs, ρ, M => (body x ρ M).bind fun f M => match f with
    | .next ρ' => floop wp body xs (wipeD ρ' wp) M
    | .ret v => .ok (.ret v) M
def wloop (wp : List Nat) (c : Rho → Mem → Res Vl) (body : Rho → Mem → Res Fl) : Nat → Rho → Mem → Res Fl
  | 0, _, _ => .bad
  | n + 1, ρ, M => (c ρ M).bind fun k M => ifB k ((body ρ M).bind fun f M => match f with
    | .next ρ' => wloop wp c body n (wipeD ρ' wp) M
    | .ret v => .ok (.ret v) M) (.ok (.next ρ) M)
def FUEL : Nat := 100000
section
variable (cf : Nat → List Vl → Mem → Res Vl)
/-- a loop's source, own slots borrowed -/
def evIv (vs : List Nat) (it : It) (ρ : Rho) (M : Mem) : Res (List Dt) := if vs.isEmpty then evI cf it ρ M else match it with
  | .seq e => (ev cf e (view ρ vs) M).bind fun v M => if okv1 v then .lift (seq? v) M else .bad
  | it => evI cf it (view ρ vs) M
def evp (vs : List Nat) : Exs → Rho → Mem → Res (List Vl)
  | .nil, _, M => .ok [] M
  | .cons e es, ρ, M => (ev cf e (view ρ vs) M).bind fun v M => if okv vs v then (evp vs es ρ M).bind fun us M => .ok (v :: us) M else .bad
mutual
def exec : Stm → Rho → Mem → Res Fl
  | .set vs k i e, ρ, M => (ev cf e (view ρ vs) M).bind fun v M => if okv vs v then (asg k i v ρ M).bind fun ρ M => .ok (.next ρ) M else .bad
  | .par vs ts es, ρ, M => (evp cf vs es ρ M).bind fun us M => if ts.all (fun t => decide (t.2 < ρ.length)) then (asgs ts us ρ M).bind fun ρ M => .ok (.next ρ) M else .bad
  | .unp vs tg e, ρ, M => (ev cf e (view ρ vs) M).bind fun v M => if okv vs v then (match v.get with
      | some d => (Res.lift (bindT tg d ρ) M).bind fun ρ M => .ok (.next ρ) M
      | none => .bad) else .bad
  | .app vs i e, ρ, M => match ρ.getD i .und with
    | .own xs => (ev cf e (view ρ vs) M).bind fun v M => if okv vs v then (match v.get with
      | some d => if xs.length < lim then .ok (.next (ρ.set i (.own (xs ++ [d])))) M else .bad
      | none => .bad) else .bad
    | _ => .bad
  | .lput vs i k e, ρ, M => (ev cf e (view ρ vs) M).bind fun v M => match ρ.getD i .und with
    | .own xs => (ev cf k (view ρ vs) M).bind fun u M => if okv vs v then (match v.get, u with
      | some d, .dat (.int z) => (Res.lift (ix xs.length z) M).bind fun j M => .ok (.next (ρ.set i (.own (xs.set j d)))) M
      | _, _ => .bad) else .bad
    | _ => .bad
  | .cput vs i k e, ρ, M => (ev cf e (view ρ vs) M).bind fun v M => match ρ.getD i .und with
    | .cell n => (ev cf k (view ρ vs) M).bind fun u M => (match v.get, u, M[n]? with
      | some d, .dat (.int z), some (.lst xs) => if noL d then (Res.lift (ix xs.length z) M).bind fun j M => .ok (.next ρ) (M.set n (.lst (xs.set j d))) else .bad
      | _, _, _ => .bad)
    | _ => .bad
  | .dput vs i k e, ρ, M => (ev cf e (view ρ vs) M).bind fun v M => match ρ.getD i .und with
    | .odc t kvs => (ev cf k (view ρ vs) M).bind fun u M => if okv vs v && okv vs u then (match v.get, u.get with
      | some d, some kd => (Res.lift (dPut t kvs kd d) M).bind fun kvs' M => if kvs.length < lim then .ok (.next (ρ.set i (.odc t kvs'))) M else .bad
      | _, _ => .bad) else .bad
    | _ => .bad
  | .dpop vs i k, ρ, M => match ρ.getD i .und with
    | .odc false kvs => (ev cf k (view ρ vs) M).bind fun u M => if okv vs u then (match u.get with
      | some kd => (Res.lift (dDrop kvs kd) M).bind fun kvs' M => .ok (.next (ρ.set i (.odc false kvs'))) M
      | none => .bad) else .bad
    | _ => .bad
  | .iff vs c a b, ρ, M => (ev cf c (view ρ vs) M).bind fun k M => ifB k (execs a ρ M) (execs b ρ M)
  | .fr vs wp tg it body, ρ, M => (evIv cf vs it ρ M).bind fun xs M => floop wp (fun x ρ M => match bindT tg x ρ with
      | some ρ' => execs body ρ' M
      | none => .bad) xs (wipeD ρ wp) M
  | .wh vs wp c body, ρ, M => wloop wp (fun ρ M => ev cf c (view ρ vs) M) (fun ρ M => execs body ρ M) FUEL (wipeD ρ wp) M
  | .ret e, ρ, M => (ev cf e (ρ.map fin1) M).bind fun v M => .ok (.ret v) M
  | .retN, _, M => .ok (.ret (.dat .none)) M
  | .ex vs e, ρ, M => (ev cf e (view ρ vs) M).bind fun _ M => .ok (.next ρ) M
  | .exa vs a e, ρ, M => (ev cf a (view ρ vs) M).bind fun v M => if okv vs v then (match v with
      | .nw xs => (ev cf e (view ρ vs) M).bind fun u M => if okv vs u then (match u.get with
        | some _ => if xs.length < lim then .ok (.next ρ) M else .bad
        | none => .bad) else .bad
      | _ => .bad) else .bad
  | .frz i, ρ, M => .ok (.next (ρ.set i (bor (ρ.getD i .und)))) M
  | .pass, ρ, M => .ok (.next ρ) M
  | .never, _, _ => .bad
def execs : Stms → Rho → Mem → Res Fl
  | .nil, ρ, M => .ok (.next ρ) M
  | .cons s ss, ρ, M => (exec s ρ M).bind fun f M => match f with
    | .next ρ' => execs ss ρ' M
    | .ret v => .ok (.ret v) M
end
end
/-- a def -/
structure Fn where
  np : Nat
  nl : Nat
  body : Stms
def finish (n0 : Nat) : Res Fl → Res Vl
  | .bad => .bad
  | .exc c M => .exc c (M.take n0)
  | .ok (.next _) M => .ok (.dat .none) (M.take n0)
  | .ok (.ret (.cell n)) M => if n < n0 then .ok (.cell n) (M.take n0) else (match M[n]? with
    | some (.lst xs) => .ok (.nw xs) (M.take n0)
    | none => .bad)
  | .ok (.ret v) M => .ok v (M.take n0)
def callAt (T : Nat → Option Fn) : Nat → Nat → List Vl → Mem → Res Vl
  | 0, _, _, _ => .bad
  | l + 1, f, as, M => match T f with
    | none => .bad
    | some fn => if as.length = fn.np then finish M.length (execs (callAt T l) fn.body (as ++ List.replicate (fn.nl - fn.np) .und) M) else .bad
end Co
end

section
set_option Elab.async false
set_option linter.all false
set_option maxRecDepth 100000
/-! how data lies in the heap; what an expression's reading is -/
namespace Co
open PySem L2

/-! ### data in the heap -/
def kK : Key → Dt
  | .inl i => .int i
  | .inr s => .str s
mutual
inductive Rep (K : PySem.W.Frag) (H : Hp) (z : Addr → Prop) : V → Dt → Prop where
  | non : Rep K H z .non .none
  | bl (b : Bool) : Rep K H z (.bl b) (.bool b)
  | int (i : Int) : Rep K H z (.int i) (.int i)
  | str (x : Str) : Rep K H z (.str x) (.str x)
  | lst {a : Addr} {xs : List V} {ds : List Dt} : H a = some (.lst xs) → ¬ z a → Reps K H z xs ds → Rep K H z (.ref a) (.list ds)
  | tup {a : Addr} {xs : List V} {ds : List Dt} : H a = some (.tup xs) → ¬ z a → Reps K H z xs ds → Rep K H z (.ref a) (.tuple ds)
  | dic {a : Addr} {ks : List (Key × V)} {kvs : List (Dt × Dt)} : H a = some (.dK ks) → ¬ z a → RepsK K H z ks kvs → Rep K H z (.ref a) (.dict kvs)
  | dit {a : Addr} {ks : List (List Key × V)} {kvs : List (Dt × Dt)} : H a = some (.dT ks) → ¬ z a → RepsT K H z ks kvs → Rep K H z (.ref a) (.dict ((.none, .none) :: kvs))
inductive Reps (K : PySem.W.Frag) (H : Hp) (z : Addr → Prop) : List V → List Dt → Prop where
  | nil : Reps K H z [] []
  | cons {v : V} {vs : List V} {d : Dt} {ds : List Dt} : Rep K H z v d → Reps K H z vs ds → Reps K H z (v :: vs) (d :: ds)
inductive RepsK (K : PySem.W.Frag) (H : Hp) (z : Addr → Prop) : List (Key × V) → List (Dt × Dt) → Prop where
  | nil : RepsK K H z [] []
  | cons {k : Key} {v : V} {vs : List (Key × V)} {d : Dt} {ds : List (Dt × Dt)} : Rep K H z v d → RepsK K H z vs ds → RepsK K H z ((k, v) :: vs) ((kK k, d) :: ds)
inductive RepsT (K : PySem.W.Frag) (H : Hp) (z : Addr → Prop) : List (List Key × V) → List (Dt × Dt) → Prop where
  | nil : RepsT K H z [] []
  | cons {k : List Key} {v : V} {vs : List (List Key × V)} {d : Dt} {ds : List (Dt × Dt)} : Rep K H z v d → RepsT K H z vs ds → RepsT K H z ((k, v) :: vs) ((.tuple (k.map kK), d) :: ds)
end

/-- what is known of every heap that is held -/
structure Wf (K : PySem.W.Frag) (H : Hp) : Prop where
  kf : ∀ a o, K.lookup a = some o → H a = none
  ll : ∀ a xs, SqL K H a xs → xs.length ≤ sizeLine
  lt : ∀ a xs, SqT K H a xs → xs.length ≤ sizeLine
  il : ∀ a xs ys, SqL K H a xs → SqL K H a ys → xs = ys
  it : ∀ a xs ys, SqT K H a xs → SqT K H a ys → xs = ys
theorem Wf.of {X : Cx} {pins : List (Addr × Obj)} {σ : St} {H : Hp} {s : Shared} (I : Inv X pins σ H s) : Wf X.K H :=
  ⟨fun a o e => (I.bs a o (I.ok.mod.kin a o e)).2, fun a xs h => (I.list h).choose_spec.2.2, fun a xs h => (I.tuple h).choose_spec.2.2, fun a xs ys h h' => I.list_inj h h', fun a xs ys h h' => I.tuple_inj h h'⟩

/-- kept but for what stands at m -/
structure Fz (m : List Addr) (H H' : Hp) : Prop where
  keep : ∀ a o, H a = some o → a ∉ m → H' a = some o
  there : ∀ a, a ∈ m → (H a).isSome → (H' a).isSome
theorem Fz.refl {m : List Addr} {H : Hp} : Fz m H H := ⟨fun _ _ h _ => h, fun _ _ h => h⟩
theorem Fz.trans {m : List Addr} {H H1 H2 : Hp} (a : Fz m H H1) (b : Fz m H1 H2) : Fz m H H2 := ⟨fun c o h n => b.keep c o (a.keep c o h n) n, fun c hc h => b.there c hc (a.there c hc h)⟩
theorem Fz.some {m : List Addr} {H H1 : Hp} (a : Fz m H H1) {c : Addr} (h : (H c).isSome) : (H1 c).isSome := by
  by_cases hc : c ∈ m
  · exact a.there c hc h
  · cases e : H c with
    | none => rw [e] at h; cases h
    | some o => rw [a.keep c o e hc]; rfl
theorem Fz.new {m : List Addr} {H : Hp} {p : Addr} {o : HO} (h : H p = none) : Fz m H (upd H p o) := by
  refine ⟨fun a u e _ => ?_, fun a _ e => ?_⟩
  · rw [upd_ne (ne_of_none e h)]; exact e
  · cases q : H a with
    | none => rw [q] at e; cases e
    | some u => rw [upd_ne (ne_of_none q h), q]; rfl

/-- the two heaps, the forbidden places -/
structure Mv (K : PySem.W.Frag) (H H' : Hp) (z z' : Addr → Prop) : Prop where
  keep : ∀ a o, H a = some o → ¬ z a → H' a = some o ∧ ¬ z' a
section
variable {K : PySem.W.Frag} {H H' : Hp} {z z' : Addr → Prop} {m : List Addr}
mutual
theorem Rep.mono (v : Mv K H H' z z') : ∀ {x : V} {d : Dt}, Rep K H z x d → Rep K H' z' x d
  | _, _, .non => .non
  | _, _, .bl b => .bl b
  | _, _, .int i => .int i
  | _, _, .str x => .str x
  | _, _, .lst h n r => .lst (v.keep _ _ h n).1 (v.keep _ _ h n).2 (Reps.mono v r)
  | _, _, .tup h n r => .tup (v.keep _ _ h n).1 (v.keep _ _ h n).2 (Reps.mono v r)
  | _, _, .dic h n r => .dic (v.keep _ _ h n).1 (v.keep _ _ h n).2 (RepsK.mono v r)
  | _, _, .dit h n r => .dit (v.keep _ _ h n).1 (v.keep _ _ h n).2 (RepsT.mono v r)
theorem RepsK.mono (v : Mv K H H' z z') : ∀ {xs : List (Key × V)} {ds : List (Dt × Dt)}, RepsK K H z xs ds → RepsK K H' z' xs ds
  | _, _, .nil => .nil
  | _, _, .cons h r => .cons (Rep.mono v h) (RepsK.mono v r)
theorem RepsT.mono (v : Mv K H H' z z') : ∀ {xs : List (List Key × V)} {ds : List (Dt × Dt)}, RepsT K H z xs ds → RepsT K H' z' xs ds
  | _, _, .nil => .nil
  | _, _, .cons h r => .cons (Rep.mono v h) (RepsT.mono v r)
theorem Reps.mono (v : Mv K H H' z z') : ∀ {xs : List V} {ds : List Dt}, Reps K H z xs ds → Reps K H' z' xs ds
  | _, _, .nil => .nil
  | _, _, .cons h r => .cons (Rep.mono v h) (Reps.mono v r)
end
mutual
theorem Rep.dp : ∀ {x : V} {d : Dt}, d.canLay0 = true → Rep K H z x d → Dp K H x d
  | _, _, _, .non => .non
  | _, _, _, .bl b => .bl b
  | _, _, _, .int i => .int i
  | _, _, _, .str x => .str x
  | _, _, c, .lst h _ r => .lst (.of h) (Reps.dp (by unfold PyData.canLay0 at c; exact c) r)
  | _, _, c, .tup h _ r => .tup (.of h) (Reps.dp (by unfold PyData.canLay0 at c; exact c) r)
  | _, _, c, .dic _ _ _ => by unfold PyData.canLay0 at c; cases c
  | _, _, c, .dit _ _ _ => by unfold PyData.canLay0 at c; cases c
theorem Reps.dp : ∀ {xs : List V} {ds : List Dt}, PyData.canLayAll0 ds = true → Reps K H z xs ds → DpAll K H xs ds
  | _, _, _, .nil => .nil
  | _, _, c, .cons h r => by
    unfold PyData.canLayAll0 at c
    rw [Bool.and_eq_true] at c
    exact .cons (Rep.dp c.1 h) (Reps.dp c.2 r)
end
/-- places the same, fewer forbidden -/
theorem Mv.sub (h : ∀ a, z' a → z a) : Mv K H H z z' := ⟨fun a o e n => ⟨e, fun q => n (h a q)⟩⟩
/-- the same forbidden places -/
theorem Mv.fz (f : Fz m H H') (h : ∀ a ∈ m, z a) : Mv K H H' z z := ⟨fun a o e n => ⟨f.keep a o e fun q => n (h a q), n⟩⟩
/-- a new forbidden place -/
theorem Mv.add {p : Addr} (hp : H p = none) (f : Fz m H H') (h : ∀ a ∈ m, z a) : Mv K H H' z (fun a => z a ∨ a = p) :=
  ⟨fun a o e n => ⟨f.keep a o e fun q => n (h a q), fun q => q.elim n fun q => by rw [q, hp] at e; cases e⟩⟩
/-- all is kept, the same places -/
theorem Mv.same (f : Same H H') : Mv K H H' z z := ⟨fun a o e n => ⟨f _ _ e, n⟩⟩
mutual
/-- data without lists lie on tuples alone -/
theorem noL_rep : ∀ {x : V} {d : Dt}, noL d = true → Rep K H z x d → (∀ b xs, H b = some (.tup xs) → ¬ z' b) → Rep K H z' x d
  | _, _, _, .non, _ => .non
  | _, _, _, .bl b, _ => .bl b
  | _, _, _, .int i, _ => .int i
  | _, _, _, .str x, _ => .str x
  | _, _, h, .lst _ _ _, _ => by unfold noL at h; cases h
  | _, _, h, .dic _ _ _, _ => by unfold noL at h; cases h
  | _, _, h, .dit _ _ _, _ => by unfold noL at h; cases h
  | _, _, h, .tup h1 n r, f => .tup h1 (f _ _ h1) (noL_reps (by unfold noL at h; exact h) r f)
theorem noL_reps : ∀ {xs : List V} {ds : List Dt}, noLs ds = true → Reps K H z xs ds → (∀ b xs, H b = some (.tup xs) → ¬ z' b) → Reps K H z' xs ds
  | _, _, _, .nil, _ => .nil
  | _, _, h, .cons r t, f => by
    unfold noLs at h
    simp only [Bool.and_eq_true] at h
    exact .cons (noL_rep h.1 r f) (noL_reps h.2 t f)
end
theorem Reps.length : ∀ {xs : List V} {ds : List Dt}, Reps K H z xs ds → xs.length = ds.length
  | _, _, .nil => rfl
  | _, _, .cons _ r => by rw [List.length_cons, List.length_cons, Reps.length r]
theorem Reps.append : ∀ {xs ys : List V} {ds es : List Dt}, Reps K H z xs ds → Reps K H z ys es → Reps K H z (xs ++ ys) (ds ++ es)
  | _, _, _, _, .nil, s => s
  | _, _, _, _, .cons r t, s => .cons r (Reps.append t s)
theorem Reps.get : ∀ {xs : List V} {ds : List Dt} {i : Nat} {d : Dt}, Reps K H z xs ds → ds[i]? = some d → ∃ x, xs[i]? = some x ∧ Rep K H z x d
  | _, _, _, _, .nil, e => by simp at e
  | _, _, 0, _, .cons r _, e => by simp at e; subst e; exact ⟨_, rfl, r⟩
  | _, _, i + 1, d, .cons _ t, e => by
    obtain ⟨x, h1, h2⟩ := Reps.get (i := i) (d := d) t (by simpa using e)
    exact ⟨x, by simpa using h1, h2⟩
theorem Reps.get' {xs : List V} {ds : List Dt} {i : Nat} {x : V} (r : Reps K H z xs ds) (e : xs[i]? = some x) : ∃ d, ds[i]? = some d ∧ Rep K H z x d := by
  have hl := r.length
  have hi : i < ds.length := by rw [← hl]; exact (List.getElem?_eq_some_iff.mp e).1
  obtain ⟨y, h1, h2⟩ := r.get (List.getElem?_eq_getElem hi)
  rw [e] at h1; cases h1
  exact ⟨_, List.getElem?_eq_getElem hi, h2⟩
theorem Reps.set {x : V} {d : Dt} (q : Rep K H z x d) : ∀ {xs : List V} {ds : List Dt} (i : Nat), Reps K H z xs ds → Reps K H z (xs.set i x) (ds.set i d)
  | _, _, _, .nil => .nil
  | _, _, 0, .cons _ t => .cons q t
  | _, _, i + 1, .cons r t => .cons r (Reps.set q i t)
theorem Reps.take : ∀ {xs : List V} {ds : List Dt} (n : Nat), Reps K H z xs ds → Reps K H z (xs.take n) (ds.take n)
  | _, _, 0, _ => .nil
  | _, _, _ + 1, .nil => .nil
  | _, _, n + 1, .cons r t => .cons r (Reps.take n t)
theorem Reps.drop : ∀ {xs : List V} {ds : List Dt} (n : Nat), Reps K H z xs ds → Reps K H z (xs.drop n) (ds.drop n)
  | _, _, 0, r => r
  | _, _, _ + 1, .nil => .nil
  | _, _, n + 1, .cons _ t => Reps.drop n t
theorem Reps.reverse : ∀ {xs : List V} {ds : List Dt}, Reps K H z xs ds → Reps K H z xs.reverse ds.reverse
  | _, _, .nil => .nil
  | _, _, .cons r t => by rw [List.reverse_cons, List.reverse_cons]; exact (Reps.reverse t).append (.cons r .nil)
theorem Reps.ints : ∀ {ds : List Dt} {xs : List V} {ns : List Int}, Reps K H z xs ds → ints? ds = some ns → xs = ns.map V.int
  | [], _, ns, .nil, h => by cases h; rfl
  | d :: ds, _, ns, .cons r t, h => by
    cases r with
    | int i =>
      simp only [ints?, Option.map_eq_some_iff] at h
      obtain ⟨ms, h1, rfl⟩ := h
      rw [List.map_cons, ← Reps.ints t h1]
    | _ => simp [ints?] at h
theorem Reps.bools : ∀ {ds : List Dt} {xs : List V} {ns : List Bool}, Reps K H z xs ds → bools? ds = some ns → xs = ns.map V.bl
  | [], _, ns, .nil, h => by cases h; rfl
  | d :: ds, _, ns, .cons r t, h => by
    cases r with
    | bl i =>
      simp only [bools?, Option.map_eq_some_iff] at h
      obtain ⟨ms, h1, rfl⟩ := h
      rw [List.map_cons, ← Reps.bools t h1]
    | _ => simp [bools?] at h
theorem Reps.of_ints : ∀ (ns : List Int), Reps K H z (ns.map V.int) (ns.map PyData.int)
  | [] => .nil
  | n :: ns => .cons (.int n) (Reps.of_ints ns)
end

/-! ### values -/
/-- the script -/
def Scr (K : PySem.W.Frag) (H : Hp) (z : Addr → Prop) (a : Addr) (ns : List Int) : Prop := (∃ o, H a = some (.frz o (.lst (ns.map V.int))) ∧ ¬ z a) ∨ (∃ (o : Obj) (its : Array Value) (n : Nat), K.lookup a = some o ∧ o.cls = .type "list" ∧ o.dict = none ∧ o.data = .seq its n ∧ its.size ≤ sizeLine ∧ L2.Vals (ns.map V.int) its.toList)
theorem Scr.sql {K : PySem.W.Frag} {H : Hp} {z : Addr → Prop} {a : Addr} {ns : List Int} (h : Scr K H z a ns) : SqL K H a (ns.map V.int) := h.elim (fun ⟨o, h, _⟩ => .inl (.inr ⟨o, h⟩)) .inr
theorem Scr.mono {K : PySem.W.Frag} {H H' : Hp} {z z' : Addr → Prop} {a : Addr} {ns : List Int} (v : Mv K H H' z z') (h : Scr K H z a ns) : Scr K H' z' a ns := h.elim (fun ⟨o, h, n⟩ => .inl ⟨o, (v.keep _ _ h n).1, (v.keep _ _ h n).2⟩) .inr
/-- what lies at a place that a slot owns -/
def Own (K : PySem.W.Frag) (H : Hp) (z : Addr → Prop) (p : Addr) : Vl → Prop
  | .own xs => ∃ vs, H p = some (.lst vs) ∧ Reps K H z vs xs
  | .odc false kvs => ∃ ks, H p = some (.dK ks) ∧ RepsK K H z ks kvs
  | .odc true kvs => ∃ ks, H p = some (.dT ks) ∧ RepsT K H z ks kvs
  | _ => False
theorem Own.mono {K : PySem.W.Frag} {H H' : Hp} {z z' : Addr → Prop} {p : Addr} {l : Vl} (v : Mv K H H' z z') (h : ∀ o, H p = some o → H' p = some o) (o : Own K H z p l) : Own K H' z' p l := by
  cases l with
  | own xs => obtain ⟨vs, e, r⟩ := o; exact ⟨vs, h _ e, r.mono v⟩
  | odc t kvs =>
    cases t with
    | false => obtain ⟨ks, e, r⟩ := o; exact ⟨ks, h _ e, r.mono v⟩
    | true => obtain ⟨ks, e, r⟩ := o; exact ⟨ks, h _ e, r.mono v⟩
  | _ => exact o.elim
def RepV (K : PySem.W.Frag) (H0 : Hp) (z : Addr → Prop) (m : List Addr) (H : Hp) (v : V) : Vl → Prop
  | .dat d => Rep K H z v d
  | .nw xs => ∃ p vs, v = .ref p ∧ H0 p = none ∧ ¬ z p ∧ H p = some (.lst vs) ∧ Reps K H (fun a => z a ∨ a = p) vs xs
  | .nwd t kvs => ∃ p, v = .ref p ∧ H0 p = none ∧ ¬ z p ∧ Own K H (fun a => z a ∨ a = p) p (.odc t kvs)
  | .cell n => ∃ a, v = .ref a ∧ m[n]? = some a
  | .scr ns => ∃ a, v = .ref a ∧ Scr K H z a ns
  | _ => False
def Cells (K : PySem.W.Frag) (z : Addr → Prop) (m : List Addr) (M : Mem) (H : Hp) : Prop :=
  m.Nodup ∧ m.length = M.length ∧ ∀ (n : Nat) (a : Addr) (xs : List Dt), m[n]? = some a → M[n]? = some (.lst xs) → ∃ vs, H a = some (.lst vs) ∧ Reps K H z vs xs ∧ noLs xs = true
/-- what a slot says to an expression -/
def says : Vl → Bool
  | .und => false
  | .own _ => false
  | .odc _ _ => false
  | _ => true
structure ERel (K : PySem.W.Frag) (H0 : Hp) (z : Addr → Prop) (m : List Addr) (M : Mem) (ρ : Rho) (σ : St) (H : Hp) : Prop where
  zm : ∀ a ∈ m, z a
  zt : ∀ a, z a → (H a).isSome
  h0 : ∀ a, (H0 a).isSome → (H a).isSome
  cells : Cells K z m M H
  len : ρ.length = σ.length
  env : ∀ (i : Nat) (vl : Vl), ρ[i]? = some vl → says vl = true → ∃ v, σ[i]? = some (some v) ∧ RepV K H0 z m H v vl
  nt : ∀ a, z a → ∀ xs, H a ≠ some (.tup xs)
theorem Cells.lst {K : PySem.W.Frag} {z : Addr → Prop} {m : List Addr} {M : Mem} {H : Hp} (c : Cells K z m M H) {a : Addr} (h : a ∈ m) : ∃ vs, H a = some (.lst vs) := by
  obtain ⟨n, e⟩ := List.mem_iff_getElem?.mp h
  have hn : n < M.length := by rw [← c.2.1]; exact (List.getElem?_eq_some_iff.mp e).1
  obtain ⟨xs⟩ : ∃ xs, M[n]? = some (.lst xs) := by
    cases q : M[n] with
    | lst xs => exact ⟨xs, by rw [List.getElem?_eq_getElem hn, q]⟩
  rename_i q
  obtain ⟨vs, h1, _⟩ := c.2.2 n a xs e q
  exact ⟨vs, h1⟩
section
variable {K : PySem.W.Frag} {H0 H H' : Hp} {z z' : Addr → Prop} {m : List Addr} {M M' : Mem} {ρ : Rho} {σ : St}
theorem RepV.mono {v : V} {vl : Vl} (r : RepV K H0 z m H v vl) (f : Fz m H H') (h : ∀ a ∈ m, z a) : RepV K H0 z m H' v vl := by
  cases vl with
  | dat d => exact Rep.mono (Mv.fz f h) r
  | nw xs =>
    obtain ⟨p, vs, e, h1, h2, h3, h4⟩ := r
    exact ⟨p, vs, e, h1, h2, f.keep p _ h3 fun q => h2 (h p q), Reps.mono (Mv.fz f fun a q => .inl (h a q)) h4⟩
  | nwd t kvs =>
    obtain ⟨p, e, h1, h2, o⟩ := r
    exact ⟨p, e, h1, h2, o.mono (Mv.fz f fun a q => .inl (h a q)) fun o e => f.keep p o e fun q => h2 (h p q)⟩
  | cell n => exact r
  | scr ns =>
    obtain ⟨a, e, h1⟩ := r
    exact ⟨a, e, h1.mono (Mv.fz f h)⟩
  | _ => exact r.elim
theorem ERel.go (r : ERel K H0 z m M ρ σ H) (f : Fz m H H') (c : Cells K z m M' H') : ERel K H0 z m M' ρ σ H' :=
  ⟨r.zm, fun a h => f.some (r.zt a h), fun a h => f.some (r.h0 a h), c, r.len, fun i vl e s => let ⟨v, h1, h2⟩ := r.env i vl e s; ⟨v, h1, h2.mono f r.zm⟩, fun a h xs q => by
    by_cases ha : a ∈ m
    · obtain ⟨vs, g⟩ := c.lst ha
      rw [q] at g; cases g
    · cases e : H a with
      | none => have := r.zt a h; rw [e] at this; cases this
      | some o =>
        have := f.keep a o e ha
        rw [q] at this; cases this
        exact r.nt a h xs e⟩
/-- all kept: the cells too -/
theorem Cells.same (c : Cells K z m M H) (f : Same H H') (h : ∀ a ∈ m, z a) : Cells K z m M H' := ⟨c.1, c.2.1, fun n a xs e1 e2 =>
  let ⟨vs, h1, h2, h3⟩ := c.2.2 n a xs e1 e2; ⟨vs, f _ _ h1, Reps.mono (Mv.same f) h2, h3⟩⟩
theorem Fz.of_same (f : Same H H') : Fz m H H' := ⟨fun a o e _ => f _ _ e, fun a _ h => by
  cases e : H a with
  | none => rw [e] at h; cases h
  | some o => rw [f _ _ e]; rfl⟩
theorem same_new {p : Addr} {o : HO} (h : H p = none) : Same H (upd H p o) := fun b x e => by
  rw [upd_ne (ne_of_none e h)]
  exact e

def Post (K : PySem.W.Frag) (Wc : Nat → Hp → Prop) (H0 : Hp) (z : Addr → Prop) (m : List Addr) (r : Res Vl) (H : Hp) (Q : VK) : Prop := match r with
  | .ok vl M' => ∀ v H', Wf K H' → Fz m H H' → Cells K z m M' H' → RepV K H0 z m H' v vl → Q v H'
  | .exc c M' => ∀ H', Wf K H' → Fz m H H' → Cells K z m M' H' → Wc c H'
  | .bad => False
theorem Post.go {Wc : Nat → Hp → Prop} {r : Res Vl} {Q : VK} (p : Post K Wc H0 z m r H Q) (f : Fz m H H') : Post K Wc H0 z m r H' Q := by
  cases r with
  | ok vl M' => exact fun v H2 w f2 c q => p v H2 w (f.trans f2) c q
  | exc c M' => exact fun H2 w f2 c => p H2 w (f.trans f2) c
  | bad => exact p
/-- a result of any kind -/
def PostG {α : Type} (K : PySem.W.Frag) (Wc : Nat → Hp → Prop) (z : Addr → Prop) (m : List Addr) (R : α → Mem → Hp → Prop) (r : Res α) (H : Hp) : Prop := match r with
  | .ok a M' => ∀ H', Wf K H' → Fz m H H' → Cells K z m M' H' → R a M' H'
  | .exc c M' => ∀ H', Wf K H' → Fz m H H' → Cells K z m M' H' → Wc c H'
  | .bad => False
end
/-- the reading of an expression that means f -/
def tE (K : PySem.W.Frag) (Wc : Nat → Hp → Prop) (f : Rho → Mem → Res Vl) : TE := fun σ H Q => ∃ H0 z m M ρ, ERel K H0 z m M ρ σ H ∧ Post K Wc H0 z m (f ρ M) H Q
def tT (K : PySem.W.Frag) (Wc : Nat → Hp → Prop) (f : Rho → Mem → Res Vl) : TT := fun σ H Q => ∃ H0 z m M ρ, ERel K H0 z m M ρ σ H ∧ Post K Wc H0 z m (f ρ M) H (fun v H' => ∃ b, v = .bl b ∧ Q b H')
section
variable {X : Cx} {e : Expr} {t t' : TE} {σ : St} {H : Hp}
theorem PE.weak (h : PE X e t) (hw : ∀ σ H Q, Wf X.K H → t' σ H Q → t σ H (fun v H' => Wf X.K H' → Q v H')) : PE X e t' :=
  ⟨fun pins s σ H Q I q => thn (h.run pins s σ H _ I (hw σ H Q (Wf.of I) q)) fun u s' ⟨v, H', I', r, q'⟩ => ⟨v, H', I', r, q' (Wf.of I')⟩⟩
theorem PT.weak {t t' : TT} (h : PT X e t) (hw : ∀ σ H Q, Wf X.K H → t' σ H Q → t σ H (fun v H' => Wf X.K H' → Q v H')) : PT X e t' :=
  ⟨fun pins s σ H Q I q => thn (h.run pins s σ H _ I (hw σ H Q (Wf.of I) q)) fun u s' ⟨H', I', q'⟩ => ⟨H', I', q' (Wf.of I')⟩⟩
variable {Wc : Nat → Hp → Prop} {H0 : Hp} {z : Addr → Prop} {m : List Addr} {M : Mem} {ρ : Rho} {K : PySem.W.Frag}
theorem step {f : Rho → Mem → Res Vl} {k : Vl → Mem → Res Vl} {Q R : VK} (hr : ERel K H0 z m M ρ σ H) (hp : Post K Wc H0 z m ((f ρ M).bind k) H Q)
    (next : ∀ vl M1 v H1, Wf K H1 → ERel K H0 z m M1 ρ σ H1 → Fz m H H1 → RepV K H0 z m H1 v vl → Post K Wc H0 z m (k vl M1) H1 Q → R v H1) : tE K Wc f σ H R := by
  refine ⟨H0, z, m, M, ρ, hr, ?_⟩
  cases e : f ρ M with
  | ok vl M1 =>
    rw [e] at hp
    exact fun v H1 w fz c r => next vl M1 v H1 w (hr.go fz c) fz r (hp.go fz)
  | exc c M1 => rw [e] at hp; exact hp
  | bad => rw [e] at hp; exact hp
end
end Co
end

section
set_option Elab.async false
set_option linter.all false
set_option maxRecDepth 100000
/-! dicts in the heap -/
namespace Co
open PySem L2 PyProof.Rows
section
variable {K : PySem.W.Frag} {H H' : Hp} {z z' : Addr → Prop}
theorem toK_kK (k : Key) : toK (kK k) = some k := by cases k <;> rfl
theorem toKs_kK : ∀ ks : List Key, toKs (ks.map kK) = some ks
  | [] => rfl
  | k :: ks => by
    show (toK (kK k)).bind _ = _
    rw [toK_kK, toKs_kK ks]; rfl
theorem kK_ne (k : Key) : kK k ≠ .none := by cases k <;> exact nofun
theorem toK_inv {d : Dt} {k : Key} (h : toK d = some k) : d = kK k := by
  cases d <;> first | (cases h; rfl) | cases h
theorem toKs_inv : ∀ {ds : List Dt} {ks : List Key}, toKs ds = some ks → ds = ks.map kK
  | [], ks, h => by cases h; rfl
  | d :: ds, ks, h => by
    simp only [toKs, Option.bind_eq_some_iff, Option.map_eq_some_iff] at h
    obtain ⟨k, h1, ks', h2, rfl⟩ := h
    rw [toK_inv h1, toKs_inv h2]; rfl
theorem toKT_inv {d : Dt} {ks : List Key} (h : toKT d = some ks) : d = .tuple (ks.map kK) := by
  cases d with
  | tuple ds => rw [toKs_inv (show toKs ds = some ks from h)]
  | _ => cases h
theorem isK_kK (k j : Key) : isK k (kK j) = decide (j = k) := by
  unfold isK
  rw [toK_kK]
  by_cases e : j = k
  · subst e; simp
  · simp [e]
theorem isT_kK (k j : List Key) : isT k (.tuple (j.map kK)) = decide (j = k) := by
  unfold isT
  rw [show toKT (.tuple (j.map kK)) = toKs (j.map kK) from rfl, toKs_kK]
  by_cases e : j = k
  · subst e; simp
  · simp [e]
theorem Rep.key {v : V} {k : Key} (r : Rep K H z v (kK k)) : v = kV k := by
  cases k with
  | inl i => cases r; rfl
  | inr s => cases r; rfl
theorem Reps.keys : ∀ {ks : List Key} {vs : List V}, Reps K H z vs (ks.map kK) → vs = ks.map kV
  | [], _, r => by cases r; rfl
  | k :: ks, _, r => by
    cases r with
    | cons h t => rw [h.key, Reps.keys t]; rfl
/-- the answers agree -/
def OR (K : PySem.W.Frag) (H : Hp) (z : Addr → Prop) : Option V → Option Dt → Prop
  | none, none => True
  | some v, some d => Rep K H z v d
  | _, _ => False
theorem OR.isSome {r : Option V} {o : Option Dt} (h : OR K H z r o) : r.isSome = o.isSome := by
  cases r <;> cases o <;> first | rfl | exact h.elim
theorem OR.getD {r : Option V} {o : Option Dt} {v : V} {d : Dt} (h : OR K H z r o) (hd : Rep K H z v d) : Rep K H z (r.getD v) (o.getD d) := by
  cases r <;> cases o <;> first | exact hd | exact h | exact h.elim
theorem repsK_find (k : Key) : ∀ {ks : List (Key × V)} {kvs : List (Dt × Dt)}, RepsK K H z ks kvs → OR K H z (valV ks k) (findD (isK k) kvs)
  | _, _, .nil => trivial
  | _, _, @RepsK.cons _ _ _ j v vs d ds h t => by
    unfold findD
    rw [isK_kK]
    by_cases e : j = k
    · rw [valV_pos (p := (j, v)) e, if_pos (by simpa using e)]; exact h
    · rw [valV_neg (p := (j, v)) e, if_neg (by simpa using e)]; exact repsK_find k t
theorem repsT_find (k : List Key) : ∀ {ks : List (List Key × V)} {kvs : List (Dt × Dt)}, RepsT K H z ks kvs → OR K H z (valV ks k) (findD (isT k) kvs)
  | _, _, .nil => trivial
  | _, _, @RepsT.cons _ _ _ j v vs d ds h t => by
    unfold findD
    rw [isT_kK]
    by_cases e : j = k
    · rw [valV_pos (p := (j, v)) e, if_pos (by simpa using e)]; exact h
    · rw [valV_neg (p := (j, v)) e, if_neg (by simpa using e)]; exact repsT_find k t
theorem repsK_any (k : Key) : ∀ {ks : List (Key × V)} {kvs : List (Dt × Dt)}, RepsK K H z ks kvs → (kvs.any fun q => isK k q.1) = ks.any fun q => decide (q.1 = k)
  | _, _, .nil => rfl
  | _, _, .cons h t => by rw [List.any_cons, List.any_cons, isK_kK, repsK_any k t]
theorem repsT_any (k : List Key) : ∀ {ks : List (List Key × V)} {kvs : List (Dt × Dt)}, RepsT K H z ks kvs → (kvs.any fun q => isT k q.1) = ks.any fun q => decide (q.1 = k)
  | _, _, .nil => rfl
  | _, _, .cons h t => by rw [List.any_cons, List.any_cons, isT_kK, repsT_any k t]
theorem repsK_repl {k : Key} {x : V} {d : Dt} (q : Rep K H z x d) : ∀ {ks : List (Key × V)} {kvs : List (Dt × Dt)}, RepsK K H z ks kvs → RepsK K H z (ks.map fun p => if p.1 = k then (p.1, x) else p) (kvs.map fun p => if isK k p.1 then (p.1, d) else p)
  | _, _, .nil => .nil
  | _, _, @RepsK.cons _ _ _ j v vs d' ds h t => by
    rw [List.map_cons, List.map_cons]
    have ih := repsK_repl (k := k) q t
    by_cases e : j = k
    · rw [if_pos e, if_pos (by rw [isK_kK]; simpa using e)]; exact .cons q ih
    · rw [if_neg e, if_neg (by rw [isK_kK]; simpa using e)]; exact .cons h ih
theorem repsT_repl {k : List Key} {x : V} {d : Dt} (q : Rep K H z x d) : ∀ {ks : List (List Key × V)} {kvs : List (Dt × Dt)}, RepsT K H z ks kvs → RepsT K H z (ks.map fun p => if p.1 = k then (p.1, x) else p) (kvs.map fun p => if isT k p.1 then (p.1, d) else p)
  | _, _, .nil => .nil
  | _, _, @RepsT.cons _ _ _ j v vs d' ds h t => by
    rw [List.map_cons, List.map_cons]
    have ih := repsT_repl (k := k) q t
    by_cases e : j = k
    · rw [if_pos e, if_pos (by rw [isT_kK]; simpa using e)]; exact .cons q ih
    · rw [if_neg e, if_neg (by rw [isT_kK]; simpa using e)]; exact .cons h ih
theorem repsK_app {k : Key} {x : V} {d : Dt} (q : Rep K H z x d) : ∀ {ks : List (Key × V)} {kvs : List (Dt × Dt)}, RepsK K H z ks kvs → RepsK K H z (ks ++ [(k, x)]) (kvs ++ [(kK k, d)])
  | _, _, .nil => .cons q .nil
  | _, _, .cons h t => .cons h (repsK_app q t)
theorem repsT_app {k : List Key} {x : V} {d : Dt} (q : Rep K H z x d) : ∀ {ks : List (List Key × V)} {kvs : List (Dt × Dt)}, RepsT K H z ks kvs → RepsT K H z (ks ++ [(k, x)]) (kvs ++ [(.tuple (k.map kK), d)])
  | _, _, .nil => .cons q .nil
  | _, _, .cons h t => .cons h (repsT_app q t)
theorem repsK_put {k : Key} {x : V} {d : Dt} (q : Rep K H z x d) {ks : List (Key × V)} {kvs : List (Dt × Dt)} (r : RepsK K H z ks kvs) : RepsK K H z (putK ks k x) (putD (isK k) (kK k) d kvs) := by
  unfold putK putD
  rw [repsK_any k r]
  by_cases e : (ks.any fun q => decide (q.1 = k)) = true
  · rw [if_pos e, if_pos e]; exact repsK_repl q r
  · rw [if_neg e, if_neg e]; exact repsK_app q r
theorem repsT_put {k : List Key} {x : V} {d : Dt} (q : Rep K H z x d) {ks : List (List Key × V)} {kvs : List (Dt × Dt)} (r : RepsT K H z ks kvs) : RepsT K H z (putK ks k x) (putD (isT k) (.tuple (k.map kK)) d kvs) := by
  unfold putK putD
  rw [repsT_any k r]
  by_cases e : (ks.any fun q => decide (q.1 = k)) = true
  · rw [if_pos e, if_pos e]; exact repsT_repl q r
  · rw [if_neg e, if_neg e]; exact repsT_app q r
theorem repsK_drop {k : Key} : ∀ {ks : List (Key × V)} {kvs : List (Dt × Dt)}, RepsK K H z ks kvs → RepsK K H z (dropK ks k) (kvs.filter fun e => !isK k e.1)
  | _, _, .nil => .nil
  | _, _, @RepsK.cons _ _ _ j v vs d ds h t => by
    have ih := repsK_drop (k := k) t
    unfold dropK at ih ⊢
    rw [List.filter_cons, List.filter_cons, isK_kK]
    by_cases e : j = k
    · rw [if_neg (by simp [e]), if_neg (by simp [e])]; exact ih
    · rw [if_pos (by simp [e]), if_pos (by simp [e])]; exact .cons h ih
theorem repsK_len : ∀ {ks : List (Key × V)} {kvs : List (Dt × Dt)}, RepsK K H z ks kvs → ks.length = kvs.length
  | _, _, .nil => rfl
  | _, _, .cons _ t => by rw [List.length_cons, List.length_cons, repsK_len t]
theorem repsT_len : ∀ {ks : List (List Key × V)} {kvs : List (Dt × Dt)}, RepsT K H z ks kvs → ks.length = kvs.length
  | _, _, .nil => rfl
  | _, _, .cons _ t => by rw [List.length_cons, List.length_cons, repsT_len t]
theorem repsK_no' : ∀ {ks : List (Key × V)} {kvs : List (Dt × Dt)} {v : Dt} {r : List (Dt × Dt)}, RepsK K H z ks kvs → kvs = (.none, v) :: r → False
  | _, _, _, _, .nil, e => by cases e
  | _, _, _, _, @RepsK.cons _ _ _ j _ _ _ _ h t, e => by
    have := (List.cons.inj e).1
    exact kK_ne j (Prod.mk.inj this).1
theorem repsK_no {ks : List (Key × V)} {v : Dt} {r : List (Dt × Dt)} (h : RepsK K H z ks ((.none, v) :: r)) : False := repsK_no' h rfl
theorem Rep.dict_inv {v : V} {kvs : List (Dt × Dt)} (r : Rep K H z v (.dict kvs)) : ∃ a, v = .ref a ∧ IsD H a ∧ ∀ (y : V) (k : Dt) (o : Option Dt), Rep K H z y k → dGet kvs k = some o → ∃ q, DGet H a y q ∧ OR K H z q o := by
  cases r with
  | dic h n r =>
    refine ⟨_, rfl, .inl ⟨_, .inl h⟩, fun y k o ry e => ?_⟩
    have e' : (keyT false k).map (fun p => findD p kvs) = some o := by
      have no : ∀ v r, kvs ≠ (.none, v) :: r := fun v r' q => by
        subst q
        exact repsK_no r
      unfold dGet at e
      split at e
      · exact absurd rfl (no _ _)
      · exact e
    simp only [keyT, Bool.false_eq_true, if_false, Option.map_map, Option.map_eq_some_iff] at e'
    obtain ⟨key, e1, rfl⟩ := e'
    rw [toK_inv e1] at ry
    rw [ry.key]
    exact ⟨_, DGet.k h, repsK_find key r⟩
  | dit h n r =>
    refine ⟨_, rfl, .inr ⟨_, .inl h⟩, fun y k o ry e => ?_⟩
    simp only [dGet, keyT, if_true, Option.map_map, Option.map_eq_some_iff] at e
    obtain ⟨key, e1, rfl⟩ := e
    rw [toKT_inv e1] at ry
    cases ry with
    | tup h' n' r' =>
      rw [r'.keys] at h'
      exact ⟨_, DGet.t h h', repsT_find key r⟩
end
end Co
end

section
set_option Elab.async false
set_option linter.all false
set_option maxRecDepth 100000
/-! operators by values -/
namespace Co
open PySem L2 PyProof.Rows
section
variable {K : PySem.W.Frag} {H0 H H' : Hp} {z z' : Addr → Prop} {m : List Addr} {M M' : Mem}
theorem RepV.get {v : V} {l : Vl} {d : Dt} (r : RepV K H0 z m H v l) (e : l.get = some d) : Rep K H z v d := by
  cases l with
  | dat d' => cases e; exact r
  | nw xs =>
    cases e
    obtain ⟨p, vs, rfl, h1, h2, h3, h4⟩ := r
    exact .lst h3 h2 (Reps.mono (Mv.sub fun a q => .inl q) h4)
  | nwd t kvs =>
    cases e
    obtain ⟨p, rfl, h1, h2, o⟩ := r
    cases t with
    | false => obtain ⟨ks, h3, h4⟩ := o; exact .dic h3 h2 (RepsK.mono (Mv.sub fun a q => .inl q) h4)
    | true => obtain ⟨ks, h3, h4⟩ := o; exact .dit h3 h2 (RepsT.mono (Mv.sub fun a q => .inl q) h4)
  | _ => cases e
/-- what an operation of two values is asked to be -/
structure OpS (X : Cx) (f : Value → Value → Sem Value) (g : Vl → Vl → Option Vl) : Prop where
  ex : ∃ r, OpR X f r ∧ ∀ (H0 : Hp) (z : Addr → Prop) (m : List Addr) (H : Hp) (x y : V) (a b c : Vl) (Q : VK), Wf X.K H → (∀ p, z p → (H p).isSome) → (∀ p, (H0 p).isSome → (H p).isSome) → RepV X.K H0 z m H x a → RepV X.K H0 z m H y b → g a b = some c →
    (∀ v H', Wf X.K H' → Same H H' → RepV X.K H0 z m H' v c → Q v H') → r x y H (fun v H' => Wf X.K H' → Q v H')
/-- what a call of a known value is asked to be -/
structure CallS (X : Cx) (f : Value) (g : List Vl → Option Vl) : Prop where
  ex : ∃ r, CallR X f r ∧ ∀ (H0 : Hp) (z : Addr → Prop) (m : List Addr) (H : Hp) (xs : List V) (as : List Vl) (c : Vl) (Q : VK), Wf X.K H → (∀ p, z p → (H p).isSome) → (∀ p, (H0 p).isSome → (H p).isSome) → Paired (RepV X.K H0 z m H) xs as → g as = some c →
    (∀ v H', Wf X.K H' → Same H H' → RepV X.K H0 z m H' v c → Q v H') → r xs H (fun v H' => Wf X.K H' → Q v H')
theorem not_z {p : Addr} (hz : ∀ a, z a → (H a).isSome) (h : H p = none) : ¬ z p := fun q => by
  have := hz p q; rw [h] at this; cases this
theorem not_0 {p : Addr} (h0 : ∀ a, (H0 a).isSome → (H a).isSome) (h : H p = none) : H0 p = none := by
  cases e : H0 p with
  | none => rfl
  | some o => have := h0 p (by rw [e]; rfl); rw [h] at this; cases this
/-- a new list -/
theorem new_nw {p : Addr} {vs : List V} {ds : List Dt} (w' : Wf K (upd H p (.lst vs))) (hz : ∀ a, z a → (H a).isSome) (h0 : ∀ a, (H0 a).isSome → (H a).isSome) (h : H p = none) (r : Reps K H z vs ds) :
    RepV K H0 z m (upd H p (.lst vs)) (.ref p) (.nw ds) := by
  refine ⟨p, vs, rfl, not_0 h0 h, not_z hz h, upd_same, ?_⟩
  exact Reps.mono (Mv.add h (m := []) (Fz.of_same (same_new h)) (fun _ q => nomatch q)) r
theorem new_tup {p : Addr} {vs : List V} {ds : List Dt} (hz : ∀ a, z a → (H a).isSome) (h : H p = none) (r : Reps K H z vs ds) :
    RepV K H0 z m (upd H p (.tup vs)) (.ref p) (.dat (.tuple ds)) :=
  .tup upd_same (not_z hz h) (Reps.mono (Mv.same (same_new h)) r)
theorem Rep.int_inv {v : V} {i : Int} (r : Rep K H z v (.int i)) : v = .int i := by cases r; rfl
theorem Rep.bool_inv {v : V} {i : Bool} (r : Rep K H z v (.bool i)) : v = .bl i := by cases r; rfl
theorem Rep.none_inv {v : V} (r : Rep K H z v .none) : v = .non := by cases r; rfl
theorem Rep.str_inv {v : V} {s : Str} (r : Rep K H z v (.str s)) : v = .str s := by cases r; rfl
theorem Rep.list_inv {v : V} {ds : List Dt} (r : Rep K H z v (.list ds)) : ∃ a xs, v = .ref a ∧ H a = some (.lst xs) ∧ ¬ z a ∧ Reps K H z xs ds := by cases r; exact ⟨_, _, rfl, by assumption, by assumption, by assumption⟩
theorem Rep.tup_inv {v : V} {ds : List Dt} (r : Rep K H z v (.tuple ds)) : ∃ a xs, v = .ref a ∧ H a = some (.tup xs) ∧ ¬ z a ∧ Reps K H z xs ds := by cases r; exact ⟨_, _, rfl, by assumption, by assumption, by assumption⟩
end
theorem orR {X : Cx} {f : Value → Value → Sem Value} {r1 r2 : R2} (h1 : OpR X f r1) (h2 : OpR X f r2) : OpR X f (fun x y H Q => r1 x y H Q ∨ r2 x y H Q) :=
  fun pins s σ H x y v u Q I rx ry q => q.elim (h1 pins s σ H x y v u Q I rx ry) (h2 pins s σ H x y v u Q I rx ry)
theorem orC {X : Cx} {f : Value} {r1 r2 : List V → Hp → VK → Prop} (h1 : CallR X f r1) (h2 : CallR X f r2) : CallR X f (fun xs H Q => r1 xs H Q ∨ r2 xs H Q) :=
  fun pins s σ H xs us Q I rx q => q.elim (h1 pins s σ H xs us Q I rx) (h2 pins s σ H xs us Q I rx)
section
variable {X : Cx}
/-- an operation of data -/
theorem opS_of {f : Value → Value → Sem Value} {g : Dt → Dt → Option Vl} (r : R2) (ho : OpR X f r)
    (h : ∀ (H0 : Hp) (z : Addr → Prop) (m : List Addr) (H : Hp) (x y : V) (a b : Dt) (c : Vl) (Q : VK), Wf X.K H → (∀ p, z p → (H p).isSome) → (∀ p, (H0 p).isSome → (H p).isSome) → Rep X.K H z x a → Rep X.K H z y b → g a b = some c →
      (∀ v H', Wf X.K H' → Same H H' → RepV X.K H0 z m H' v c → Q v H') → r x y H (fun v H' => Wf X.K H' → Q v H')) :
    OpS X f (fun x y => match x.get, y.get with
      | some a, some b => g a b
      | _, _ => none) := by
  refine ⟨r, ho, fun H0 z m H x y a b c Q w hz h0 ra rb e q => ?_⟩
  cases ea : a.get with
  | none => rw [ea] at e; cases e
  | some da =>
    cases eb : b.get with
    | none => rw [ea, eb] at e; cases e
    | some db =>
      rw [ea, eb] at e
      exact h H0 z m H x y da db c Q w hz h0 (ra.get ea) (rb.get eb) e q
theorem optIf {c : Prop} [Decidable c] {α : Type} {a b : α} (h : (if c then some a else none) = some b) : c ∧ a = b := by
  by_cases hc : c
  · rw [if_pos hc] at h; cases h; exact ⟨hc, rfl⟩
  · rw [if_neg hc] at h; cases h
theorem opS_add : OpS X (binaryOp .Add) (opV .add) := by
  refine opS_of _ (orR op_add (orR op_cat op_catA)) fun H0 z m H x y a b c Q w hz h0 ra rb e q => ?_
  cases ra with
  | int i =>
    cases rb with
    | int j => cases e; exact .inl ⟨i, j, rfl, rfl, fun w' => q _ _ w (Same.refl H) (.int _)⟩
    | _ => cases e
  | lst h1 n1 r1 =>
    cases rb with
    | lst h2 n2 r2 =>
      obtain ⟨hl, rfl⟩ := optIf e
      rw [← r1.length, ← r2.length] at hl
      exact .inr (.inl ⟨_, _, _, _, rfl, rfl, h1, h2, hl, fun p hp w' => q _ _ w' (same_new hp) (new_nw w' hz h0 hp (r1.append r2))⟩)
    | _ => cases e
  | tup h1 n1 r1 =>
    cases rb with
    | tup h2 n2 r2 =>
      obtain ⟨hl, rfl⟩ := optIf e
      rw [← r1.length, ← r2.length] at hl
      refine .inr (.inr ⟨_, _, _, _, rfl, rfl, .of h1, .of h2, hl, fun e1 w' => q _ _ w (Same.refl H) ?_, fun e1 e2 w' => q _ _ w (Same.refl H) ?_, fun _ _ p hp w' => q _ _ w' (same_new hp) (new_tup hz hp (r1.append r2))⟩)
      · subst e1
        cases r1
        exact .tup h2 n2 r2
      · subst e2
        cases r2
        rw [List.append_nil]
        exact .tup h1 n1 r1
    | _ => cases e
  | _ => cases e
theorem opS_int {op : Operator} {o : Op} {C : Int → Int → Prop} {g : Int → Int → Int} (ho : OpR X (binaryOp op) (rI C fun i j => .int (g i j)))
    (h : ∀ a b c, opD o a b = some c → ∃ i j, a = .int i ∧ b = .int j ∧ C i j ∧ c = .dat (.int (g i j))) : OpS X (binaryOp op) (opV o) := by
  refine opS_of _ ho fun H0 z m H x y a b c Q w hz h0 ra rb e q => ?_
  obtain ⟨i, j, rfl, rfl, hc, rfl⟩ := h a b c e
  exact ⟨i, j, ra.int_inv, rb.int_inv, hc, fun w' => q _ _ w (Same.refl H) (.int _)⟩
theorem opS_sub : OpS X (binaryOp .Sub) (opV .sub) := by
  refine opS_of _ op_sub fun H0 z m H x y a b c Q w hz h0 ra rb e q => ?_
  cases a <;> cases b <;> first | (cases e; exact ⟨_, _, ra.int_inv, rb.int_inv, fun w' => q _ _ w (Same.refl H) (.int _)⟩) | cases e
theorem reps_rep {K : PySem.W.Frag} {H : Hp} {z : Addr → Prop} {xs : List V} {ds : List Dt} (r : Reps K H z xs ds) : ∀ n : Nat, Reps K H z (List.replicate n xs).flatten (List.replicate n ds).flatten
  | 0 => .nil
  | n + 1 => by
    rw [List.replicate_succ, List.replicate_succ, List.flatten_cons, List.flatten_cons]
    exact r.append (reps_rep r n)
theorem opS_mul : OpS X (binaryOp .Mult) (opV .mul) := by
  refine opS_of _ (orR op_mul op_rep) fun H0 z m H x y a b c Q w hz h0 ra rb e q => ?_
  cases ra with
  | int i =>
    cases rb with
    | int j =>
      obtain ⟨hc, rfl⟩ := optIf e
      exact .inl ⟨i, j, rfl, rfl, hc, fun w' => q _ _ w (Same.refl H) (.int _)⟩
    | _ => cases e
  | lst h1 n1 r1 =>
    cases rb with
    | int j =>
      obtain ⟨⟨hc1, hc2, hc3⟩, rfl⟩ := optIf e
      rw [← r1.length] at hc3
      exact .inr ⟨_, j, _, rfl, rfl, h1, hc1, hc2, hc3, fun p hp w' => q _ _ w' (same_new hp) (new_nw w' hz h0 hp (reps_rep r1 _))⟩
    | _ => cases e
  | _ => cases e
theorem opS_mod : OpS X (binaryOp .Mod) (opV .mod) := opS_int op_mod fun a b c e => by
  cases a <;> cases b <;> first | (obtain ⟨hc, rfl⟩ := optIf e; exact ⟨_, _, rfl, rfl, hc, rfl⟩) | cases e
theorem opS_fdiv : OpS X (binaryOp .FloorDiv) (opV .fdiv) := opS_int (C := CDiv) op_fdiv fun a b c e => by
  cases a <;> cases b <;> first | (obtain ⟨hc, rfl⟩ := optIf e; exact ⟨_, _, rfl, rfl, hc, rfl⟩) | cases e
theorem opS_pow : OpS X (binaryOp .Pow) (opV .pow) := opS_int (C := CPow) op_pow fun a b c e => by
  cases a <;> cases b <;> first | (obtain ⟨hc, rfl⟩ := optIf e; exact ⟨_, _, rfl, rfl, hc, rfl⟩) | cases e

/-! comparisons -/
theorem cmpS_of {op : CmpOp} {k : Cp} (r : R2) (ho : OpR X (compareOp op) r)
    (h : ∀ (z : Addr → Prop) (H : Hp) (x y : V) (a b : Dt) (c : Bool) (Q : VK), Wf X.K H → Rep X.K H z x a → Rep X.K H z y b → cmpD k a b = some c → Q (.bl c) H → r x y H Q) : OpS X (compareOp op) (cmpV k) := by
  refine ⟨r, ho, fun H0 z m H x y a b c Q w hz h0 ra rb e q => ?_⟩
  unfold cmpV at e
  cases ea : a.get with
  | none => rw [ea] at e; cases e
  | some da =>
    cases eb : b.get with
    | none => rw [ea, eb] at e; cases e
    | some db =>
      rw [ea, eb] at e
      simp only [Option.map_eq_some_iff] at e
      obtain ⟨k', e1, rfl⟩ := e
      exact h z H x y da db k' _ w (ra.get ea) (rb.get eb) e1 fun _ => q _ _ w (Same.refl H) (.bl _)
theorem and_t {a b : Bool} (h : (a && b) = true) : a = true ∧ b = true := by simpa using h
theorem cmpS_eq (hu : X.A.units + 64 < cLine) : OpS X (compareOp .Eq) (cmpV .eq) := cmpS_of _ (op_eqD hu) fun z H x y a b c Q w ra rb e q => by
  obtain ⟨h, rfl⟩ := optIf (show (if (shp a && shp b) = true then some (PyData.eqv a b) else none) = some c from e)
  exact ⟨a, b, ra.dp (SeqAt.canLay_of_shaped (and_t h).1), rb.dp (SeqAt.canLay_of_shaped (and_t h).2), (and_t h).1, (and_t h).2, q⟩
theorem cmpS_ne (hu : X.A.units + 64 < cLine) : OpS X (compareOp .NotEq) (cmpV .ne) := cmpS_of _ (op_neD hu) fun z H x y a b c Q w ra rb e q => by
  obtain ⟨h, rfl⟩ := optIf (show (if (shp a && shp b) = true then some (!PyData.eqv a b) else none) = some c from e)
  exact ⟨a, b, ra.dp (SeqAt.canLay_of_shaped (and_t h).1), rb.dp (SeqAt.canLay_of_shaped (and_t h).2), (and_t h).1, (and_t h).2, q⟩
theorem cmpS_lt (hu : X.A.units < cLine) : OpS X (compareOp .Lt) (cmpV .lt) := cmpS_of _ (orR op_lt (op_ltT hu)) fun z H x y a b c Q w ra rb e q => by
  cases ra with
  | int i =>
    cases rb with
    | int j => cases e; exact .inl ⟨i, j, rfl, rfl, q⟩
    | _ => cases e
  | tup h1 n1 r1 =>
    cases rb with
    | tup h2 n2 r2 =>
      rename_i ds1 _ _ ds2
      simp only [cmpD] at e
      cases e1 : ints? ds1 with
      | none => rw [e1] at e; cases e
      | some ns =>
        cases e2 : ints? ds2 with
        | none => rw [e1, e2] at e; cases e
        | some ms =>
          rw [e1, e2] at e
          cases e
          have g1 := r1.ints e1
          have g2 := r2.ints e2
          subst g1 g2
          exact .inr ⟨_, _, ns, ms, rfl, rfl, .of h1, .of h2, q⟩
    | _ => cases e
  | _ => cases e
theorem cmpS_int {op : CmpOp} {k : Cp} {g : Int → Int → Bool} (ho : OpR X (compareOp op) (rI0 fun i j => .bl (g i j))) (h : ∀ a b c, cmpD k a b = some c → ∃ i j, a = .int i ∧ b = .int j ∧ c = g i j) : OpS X (compareOp op) (cmpV k) :=
  cmpS_of _ ho fun z H x y a b c Q w ra rb e q => by
    obtain ⟨i, j, rfl, rfl, rfl⟩ := h a b c e
    exact ⟨i, j, ra.int_inv, rb.int_inv, q⟩
theorem cmpS_le : OpS X (compareOp .LtE) (cmpV .le) := cmpS_int op_le fun a b c e => by
  cases a <;> cases b <;> first | (cases e; exact ⟨_, _, rfl, rfl, rfl⟩) | cases e
theorem cmpS_gt : OpS X (compareOp .Gt) (cmpV .gt) := cmpS_int op_gt fun a b c e => by
  cases a <;> cases b <;> first | (cases e; exact ⟨_, _, rfl, rfl, rfl⟩) | cases e
theorem cmpS_ge : OpS X (compareOp .GtE) (cmpV .ge) := cmpS_int op_ge fun a b c e => by
  cases a <;> cases b <;> first | (cases e; exact ⟨_, _, rfl, rfl, rfl⟩) | cases e
theorem decNon {x : V} {a : Dt} {K : PySem.W.Frag} {H : Hp} {z : Addr → Prop} (r : Rep K H z x a) : decide (x = .non) = isNone a := by cases r <;> rfl
theorem cmpS_is : OpS X (compareOp .Is) (cmpV .is_) := cmpS_of _ (orR op_isN op_isBl) fun z H x y a b c Q w ra rb e q => by
  have e' : isD a b = some c := by cases a <;> exact e
  cases rb with
  | non => cases e'; exact .inl ⟨rfl, by rw [decNon ra]; exact q⟩
  | bl b =>
    cases ra with
    | bl k => cases e'; exact .inr ⟨k, b, rfl, rfl, q⟩
    | _ => cases e'
  | _ => cases e'
theorem map_not {o : Option Bool} {c : Bool} (h : o.map (!·) = some c) : ∃ k, o = some k ∧ c = !k := by
  cases o with
  | none => cases h
  | some k => cases h; exact ⟨k, rfl, rfl⟩
theorem cmpS_isn : OpS X (compareOp .IsNot) (cmpV .isn) := cmpS_of _ (orR op_notN op_notBl) fun z H x y a b c Q w ra rb e q => by
  have e2 : (isD a b).map (!·) = some c := by cases a <;> exact e
  obtain ⟨k, e', rfl⟩ := map_not e2
  clear e e2
  cases rb with
  | non => cases e'; exact .inl ⟨rfl, by rw [decNon ra]; exact q⟩
  | bl b =>
    cases ra with
    | bl k => cases e'; exact .inr ⟨k, b, rfl, rfl, q⟩
    | _ => cases e'
  | _ => cases e'
def rInT (K : PySem.W.Frag) (neg : Bool) : R2 := fun x y H Q => ∃ d ds, Dp K H x d ∧ Dp K H y (.tuple ds) ∧ SeqAt.shaped d = true ∧ SeqAt.shaped (.tuple ds) = true ∧ Q (.bl (if neg then !ds.any fun z => PyData.eqv z d else ds.any fun z => PyData.eqv z d)) H
theorem op_inT (hu : X.A.units + 65 < cLine) : OpR X (compareOp .In) (rInT X.K false) := by
  intro pins s σ H x y v u Q I rx ry ⟨d, ds, hd, he, sd, se, q⟩
  obtain ⟨as, q1⟩ := Dp.reads I d x v hd rx
  obtain ⟨bs, q2⟩ := Dp.reads I (.tuple ds) y u he ry
  exact SeqAt.in_tuple_reads q2 q1 (SeqAt.canLay_of_shaped se) (SeqAt.canLay_of_shaped sd) (room_in_shaped sd hu) ⟨.bl _, H, I, rfl, q⟩
theorem op_ninT (hu : X.A.units + 65 < cLine) : OpR X (compareOp .NotIn) (rInT X.K true) := by
  intro pins s σ H x y v u Q I rx ry ⟨d, ds, hd, he, sd, se, q⟩
  obtain ⟨as, q1⟩ := Dp.reads I d x v hd rx
  obtain ⟨bs, q2⟩ := Dp.reads I (.tuple ds) y u he ry
  exact SeqAt.notIn_tuple_reads q2 q1 (SeqAt.canLay_of_shaped se) (SeqAt.canLay_of_shaped sd) (room_in_shaped sd hu) ⟨.bl _, H, I, rfl, q⟩
theorem op_inDict (hu : X.A.units + 65 < cLine) : OpR X (compareOp .In) (fun y x H Q => ∃ a o, x = .ref a ∧ DGet H a y o ∧ Q (.bl o.isSome) H) := by
  intro pins s σ H x y v u Q I rx ry ⟨a, o, e, g, q⟩
  subst e
  cases ry
  exact d_in (by omega) I g rx fun s' I' => ⟨.bl _, H, I', rfl, q⟩
theorem op_ninDict (hu : X.A.units + 65 < cLine) : OpR X (compareOp .NotIn) (fun y x H Q => ∃ a o, x = .ref a ∧ DGet H a y o ∧ Q (.bl (!o.isSome)) H) := by
  intro pins s σ H x y v u Q I rx ry ⟨a, o, e, g, q⟩
  subst e
  cases ry
  exact d_notIn (by omega) I g rx fun s' I' => ⟨.bl _, H, I', rfl, q⟩
theorem memDict {K : PySem.W.Frag} {H : Hp} {z : Addr → Prop} {x y : V} {a : Dt} {kvs : List (Dt × Dt)} {c : Bool} (rb : Rep K H z y (.dict kvs)) (ra : Rep K H z x a) (e : (dGet kvs a).map Option.isSome = some c) : ∃ b o, y = .ref b ∧ DGet H b x o ∧ c = o.isSome := by
  obtain ⟨b, h1, _, h2⟩ := rb.dict_inv
  simp only [Option.map_eq_some_iff] at e
  obtain ⟨o, e1, rfl⟩ := e
  obtain ⟨q, g, r⟩ := h2 x a o ra e1
  exact ⟨b, q, h1, g, r.isSome.symm⟩
theorem cmpS_mem (hu : X.A.units + 65 < cLine) : OpS X (compareOp .In) (cmpV .mem) := cmpS_of _ (orR (op_inDict hu) (orR (op_inD hu) (op_inT hu))) fun z H x y a b c Q w ra rb e q => by
  have e' : memD a b = some c := by cases a <;> exact e
  cases rb with
  | lst h1 n1 r1 =>
    obtain ⟨h, rfl⟩ := optIf e'
    exact .inr (.inl ⟨a, _, ra.dp (SeqAt.canLay_of_shaped (and_t h).1), .lst (.of h1) (r1.dp (by have := SeqAt.canLay_of_shaped (and_t h).2; unfold PyData.canLay0 at this; exact this)), (and_t h).1, (and_t h).2, q⟩)
  | tup h1 n1 r1 =>
    obtain ⟨h, rfl⟩ := optIf e'
    exact .inr (.inr ⟨a, _, ra.dp (SeqAt.canLay_of_shaped (and_t h).1), .tup (.of h1) (r1.dp (by have := SeqAt.canLay_of_shaped (and_t h).2; unfold PyData.canLay0 at this; exact this)), (and_t h).1, (and_t h).2, q⟩)
  | dic h1 n1 r1 =>
    obtain ⟨b, o, e1, g, rfl⟩ := memDict (.dic h1 n1 r1) ra e'
    exact .inl ⟨b, o, e1, g, q⟩
  | dit h1 n1 r1 =>
    obtain ⟨b, o, e1, g, rfl⟩ := memDict (.dit h1 n1 r1) ra e'
    exact .inl ⟨b, o, e1, g, q⟩
  | _ => cases e'
theorem cmpS_nmem (hu : X.A.units + 65 < cLine) : OpS X (compareOp .NotIn) (cmpV .nmem) := cmpS_of _ (orR (op_ninDict hu) (orR (op_notInD hu) (op_ninT hu))) fun z H x y a b c Q w ra rb e q => by
  have e2 : (memD a b).map (!·) = some c := by cases a <;> exact e
  obtain ⟨k, e', rfl⟩ := map_not e2
  clear e e2
  cases rb with
  | lst h1 n1 r1 =>
    obtain ⟨h, rfl⟩ := optIf e'
    exact .inr (.inl ⟨a, _, ra.dp (SeqAt.canLay_of_shaped (and_t h).1), .lst (.of h1) (r1.dp (by have := SeqAt.canLay_of_shaped (and_t h).2; unfold PyData.canLay0 at this; exact this)), (and_t h).1, (and_t h).2, q⟩)
  | tup h1 n1 r1 =>
    obtain ⟨h, rfl⟩ := optIf e'
    exact .inr (.inr ⟨a, _, ra.dp (SeqAt.canLay_of_shaped (and_t h).1), .tup (.of h1) (r1.dp (by have := SeqAt.canLay_of_shaped (and_t h).2; unfold PyData.canLay0 at this; exact this)), (and_t h).1, (and_t h).2, q⟩)
  | dic h1 n1 r1 =>
    obtain ⟨b, o, e1, g, rfl⟩ := memDict (.dic h1 n1 r1) ra e'
    exact .inl ⟨b, o, e1, g, q⟩
  | dit h1 n1 r1 =>
    obtain ⟨b, o, e1, g, rfl⟩ := memDict (.dit h1 n1 r1) ra e'
    exact .inl ⟨b, o, e1, g, q⟩
  | _ => cases e'

end
end Co
end

section
set_option Elab.async false
set_option linter.all false
set_option maxRecDepth 100000
namespace Co
open PySem L2 PyProof.Rows
section
variable {X : Cx}
/-! ### built-ins by name -/
theorem pair1 {α β : Type} {R : α → β → Prop} {xs : List α} {b : β} (h : Paired R xs [b]) : ∃ a, xs = [a] ∧ R a b := by
  cases h with
  | cons r t => cases t; exact ⟨_, rfl, r⟩
theorem pair2 {α β : Type} {R : α → β → Prop} {xs : List α} {b c : β} (h : Paired R xs [b, c]) : ∃ a a', xs = [a, a'] ∧ R a b ∧ R a' c := by
  cases h with
  | cons r t => cases t with
    | cons r' t' => cases t'; exact ⟨_, _, rfl, r, r'⟩
theorem reps_of {K : PySem.W.Frag} {H0 H : Hp} {z : Addr → Prop} {m : List Addr} : ∀ {xs : List V} {as : List Vl} {ds : List Dt}, Paired (RepV K H0 z m H) xs as → gets as = some ds → Reps K H z xs ds
  | _, _, _, .nil, e => by cases e; exact .nil
  | _, b :: bs, _, .cons r t, e => by
    simp only [gets] at e
    cases e1 : b.get with
    | none => rw [e1] at e; cases e
    | some d =>
      cases e2 : gets bs with
      | none => rw [e1, e2] at e; cases e
      | some ds' =>
        rw [e1, e2] at e
        cases e
        exact .cons (r.get e1) (reps_of t e2)
/-- a built-in of data -/
theorem callS_of {f : Value} {g : List Dt → Option Vl} (r : List V → Hp → VK → Prop) (ho : CallR X f r)
    (h : ∀ (H0 : Hp) (z : Addr → Prop) (m : List Addr) (H : Hp) (xs : List V) (ds : List Dt) (c : Vl) (Q : VK), Wf X.K H → (∀ p, z p → (H p).isSome) → (∀ p, (H0 p).isSome → (H p).isSome) → Reps X.K H z xs ds → g ds = some c →
      (∀ v H', Wf X.K H' → Same H H' → RepV X.K H0 z m H' v c → Q v H') → r xs H (fun v H' => Wf X.K H' → Q v H')) : CallS X f (fun vs => (gets vs).bind g) := by
  refine ⟨r, ho, fun H0 z m H xs as c Q w hz h0 ra e q => ?_⟩
  cases e1 : gets as with
  | none => rw [e1] at e; cases e
  | some ds =>
    rw [e1] at e
    exact h H0 z m H xs ds c Q w hz h0 (reps_of ra e1) e q
theorem reps1 {K : PySem.W.Frag} {H : Hp} {z : Addr → Prop} {xs : List V} {d : Dt} (h : Reps K H z xs [d]) : ∃ x, xs = [x] ∧ Rep K H z x d := by
  cases h with
  | cons r t => cases t; exact ⟨_, rfl, r⟩
theorem reps2 {K : PySem.W.Frag} {H : Hp} {z : Addr → Prop} {xs : List V} {d e : Dt} (h : Reps K H z xs [d, e]) : ∃ x y, xs = [x, y] ∧ Rep K H z x d ∧ Rep K H z y e := by
  cases h with
  | cons r t => cases t with
    | cons r' t' => cases t'; exact ⟨_, _, rfl, r, r'⟩
theorem reps_len {K : PySem.W.Frag} {H : Hp} {z : Addr → Prop} {xs : List V} {ds : List Dt} (h : Reps K H z xs ds) : xs.length = ds.length := h.length
theorem lenD_ok {z : Addr → Prop} {m : List Addr} {H0 H : Hp} {xs : List V} {ds : List Dt} {c : Vl} {Q : VK} (w : Wf X.K H) (r : Reps X.K H z xs ds) (e : lenD ds = some c)
    (q : ∀ v H', Wf X.K H' → Same H H' → RepV X.K H0 z m H' v c → Q v H') : ∃ p ys, xs = [.ref p] ∧ (SqL X.K H p ys ∨ SqT X.K H p ys) ∧ (Wf X.K H → Q (.int ys.length) H) := by
  match ds, r, e with
  | [.list ys], r, e =>
    obtain ⟨x, rfl, rx⟩ := reps1 r
    obtain ⟨a, vs, rfl, h1, n1, r1⟩ := rx.list_inv
    cases e
    refine ⟨a, vs, rfl, .inl (.of h1), fun w' => ?_⟩
    rw [r1.length]
    exact q _ _ w (Same.refl H) (.int _)
  | [.tuple ys], r, e =>
    obtain ⟨x, rfl, rx⟩ := reps1 r
    obtain ⟨a, vs, rfl, h1, n1, r1⟩ := rx.tup_inv
    cases e
    refine ⟨a, vs, rfl, .inr (.of h1), fun w' => ?_⟩
    rw [r1.length]
    exact q _ _ w (Same.refl H) (.int _)
theorem callS_len : CallS X (.builtin "len") (biV .len) := by
  refine ⟨_, call_len_seq, fun H0 z m H xs as c Q w hz h0 ra e q => ?_⟩
  have e' : lenV as = some c := e
  unfold lenV at e'
  split at e'
  · rename_i ns
    cases e'
    obtain ⟨x, rfl, r⟩ := pair1 ra
    obtain ⟨a, rfl, h1⟩ := r
    refine ⟨_, _, rfl, .inl h1.sql, fun w' => ?_⟩
    rw [List.length_map]
    exact q _ _ w (Same.refl H) (.int _)
  · cases e1 : gets as with
    | none => rw [e1] at e'; cases e'
    | some ds =>
      rw [e1] at e'
      exact lenD_ok w (reps_of ra e1) e' q
theorem maxL_mem : ∀ (ns : List Int) (i : Int), (ns.foldl (fun a b => if b > a then b else a) i ∈ i :: ns) ∧ ∀ y ∈ i :: ns, y ≤ ns.foldl (fun a b => if b > a then b else a) i
  | [], i => ⟨by simp, by simp⟩
  | n :: ns, i => by
    have ih := maxL_mem ns (if n > i then n else i)
    simp only [List.foldl_cons]
    refine ⟨?_, fun y hy => ?_⟩
    · rcases List.mem_cons.mp ih.1 with h | h
      · rw [h]; by_cases c : n > i <;> simp [c]
      · simp [h]
    · have h0 := ih.2 _ List.mem_cons_self
      have h1 := fun h => ih.2 y (List.mem_cons_of_mem _ h)
      clear ih
      generalize List.foldl _ _ ns = F at h0 h1 ⊢
      simp only [List.mem_cons] at hy
      rcases hy with hy | hy | hy
      · split at h0 <;> omega
      · split at h0 <;> omega
      · exact h1 hy
theorem minL_mem : ∀ (ns : List Int) (i : Int), (ns.foldl (fun a b => if b < a then b else a) i ∈ i :: ns) ∧ ∀ y ∈ i :: ns, ns.foldl (fun a b => if b < a then b else a) i ≤ y
  | [], i => ⟨by simp, by simp⟩
  | n :: ns, i => by
    have ih := minL_mem ns (if n < i then n else i)
    simp only [List.foldl_cons]
    refine ⟨?_, fun y hy => ?_⟩
    · rcases List.mem_cons.mp ih.1 with h | h
      · rw [h]; by_cases c : n < i <;> simp [c]
      · simp [h]
    · have h0 := ih.2 _ List.mem_cons_self
      have h1 := fun h => ih.2 y (List.mem_cons_of_mem _ h)
      clear ih
      generalize List.foldl _ _ ns = F at h0 h1 ⊢
      simp only [List.mem_cons] at hy
      rcases hy with hy | hy | hy
      · split at h0 <;> omega
      · split at h0 <;> omega
      · exact h1 hy
theorem callS_max (hc : X.calm = true) : CallS X (.builtin "max") (biV .max) := by
  refine callS_of _ (orC (orC (call_max2 hc) (cr_max hc)) (cr_maxT hc)) fun H0 z m H xs ds c Q w hz h0 r e q => ?_
  match ds, r, e with
  | [.list ys], r, e =>
    obtain ⟨x, rfl, rx⟩ := reps1 r
    obtain ⟨a, vs, rfl, h1, n1, r1⟩ := rx.list_inv
    simp only [biD, maxD, minD, sumD, allD, anyD, Option.bind_eq_some_iff, Option.map_eq_some_iff] at e
    obtain ⟨ns, e1, k, e2, rfl⟩ := e
    have := r1.ints e1
    subst this
    cases ns with
    | nil => cases e2
    | cons n ns =>
      cases e2
      refine .inl (.inr ⟨a, n :: ns, rfl, .of h1, by simp, fun k hk hle w' => ?_⟩)
      have g := maxL_mem ns n
      have : k = ns.foldl (fun a b => if b > a then b else a) n := Int.le_antisymm (g.2 k hk) (hle _ g.1)
      subst this
      exact q _ _ w (Same.refl H) (.int _)
  | [.tuple ys], r, e =>
    obtain ⟨x, rfl, rx⟩ := reps1 r
    obtain ⟨a, vs, rfl, h1, n1, r1⟩ := rx.tup_inv
    simp only [biD, maxD, minD, sumD, allD, anyD, Option.bind_eq_some_iff, Option.map_eq_some_iff] at e
    obtain ⟨ns, e1, k, e2, rfl⟩ := e
    have := r1.ints e1
    subst this
    cases ns with
    | nil => cases e2
    | cons n ns =>
      cases e2
      refine .inr ⟨a, n :: ns, rfl, .of h1, by simp, fun k hk hle w' => ?_⟩
      have g := maxL_mem ns n
      have : k = ns.foldl (fun a b => if b > a then b else a) n := Int.le_antisymm (g.2 k hk) (hle _ g.1)
      subst this
      exact q _ _ w (Same.refl H) (.int _)
  | [.int i, .int j], r, e =>
    obtain ⟨x, y, rfl, rx, ry⟩ := reps2 r
    cases e
    exact .inl (.inl ⟨i, j, by rw [rx.int_inv, ry.int_inv], fun w' => q _ _ w (Same.refl H) (.int _)⟩)
theorem callS_min (hc : X.calm = true) : CallS X (.builtin "min") (biV .min) := by
  refine callS_of _ (orC (call_min2 hc) (cr_min hc)) fun H0 z m H xs ds c Q w hz h0 r e q => ?_
  match ds, r, e with
  | [.list ys], r, e =>
    obtain ⟨x, rfl, rx⟩ := reps1 r
    obtain ⟨a, vs, rfl, h1, n1, r1⟩ := rx.list_inv
    simp only [biD, maxD, minD, sumD, allD, anyD, Option.bind_eq_some_iff, Option.map_eq_some_iff] at e
    obtain ⟨ns, e1, k, e2, rfl⟩ := e
    have := r1.ints e1
    subst this
    cases ns with
    | nil => cases e2
    | cons n ns =>
      cases e2
      refine .inr ⟨a, n :: ns, rfl, .of h1, by simp, fun k hk hle w' => ?_⟩
      have g := minL_mem ns n
      have : k = ns.foldl (fun a b => if b < a then b else a) n := Int.le_antisymm (hle _ g.1) (g.2 k hk)
      subst this
      exact q _ _ w (Same.refl H) (.int _)
  | [.int i, .int j], r, e =>
    obtain ⟨x, y, rfl, rx, ry⟩ := reps2 r
    cases e
    exact .inl ⟨i, j, by rw [rx.int_inv, ry.int_inv], fun w' => q _ _ w (Same.refl H) (.int _)⟩
theorem callS_sum (hc : X.calm = true) : CallS X (.builtin "sum") (biV .sum) := by
  refine callS_of _ (cr_sum hc) fun H0 z m H xs ds c Q w hz h0 r e q => ?_
  match ds, r, e with
  | [.list ys], r, e =>
    obtain ⟨x, rfl, rx⟩ := reps1 r
    obtain ⟨a, vs, rfl, h1, n1, r1⟩ := rx.list_inv
    simp only [biD, maxD, minD, sumD, allD, anyD, Option.map_eq_some_iff] at e
    obtain ⟨ns, e1, rfl⟩ := e
    have := r1.ints e1
    subst this
    exact ⟨a, ns, rfl, .of h1, fun w' => q _ _ w (Same.refl H) (.int _)⟩
theorem callS_all (hc : X.calm = true) : CallS X (.builtin "all") (biV .all) := by
  refine callS_of _ (cr_all hc) fun H0 z m H xs ds c Q w hz h0 r e q => ?_
  match ds, r, e with
  | [.list ys], r, e =>
    obtain ⟨x, rfl, rx⟩ := reps1 r
    obtain ⟨a, vs, rfl, h1, n1, r1⟩ := rx.list_inv
    simp only [biD, maxD, minD, sumD, allD, anyD, Option.map_eq_some_iff] at e
    obtain ⟨ns, e1, rfl⟩ := e
    have := r1.bools e1
    subst this
    exact ⟨a, ns, rfl, .of h1, fun w' => q _ _ w (Same.refl H) (.bl _)⟩
theorem callS_any (hc : X.calm = true) : CallS X (.builtin "any") (biV .any) := by
  refine callS_of _ (cr_any hc) fun H0 z m H xs ds c Q w hz h0 r e q => ?_
  match ds, r, e with
  | [.list ys], r, e =>
    obtain ⟨x, rfl, rx⟩ := reps1 r
    obtain ⟨a, vs, rfl, h1, n1, r1⟩ := rx.list_inv
    simp only [biD, maxD, minD, sumD, allD, anyD, Option.map_eq_some_iff] at e
    obtain ⟨ns, e1, rfl⟩ := e
    have := r1.bools e1
    subst this
    exact ⟨a, ns, rfl, .of h1, fun w' => q _ _ w (Same.refl H) (.bl _)⟩
theorem callS_tuple : CallS X (.type "tuple") (biV .tuple) := by
  refine callS_of _ call_tuple_of fun H0 z m H xs ds c Q w hz h0 r e q => ?_
  match ds, r, e with
  | [.list ys], r, e =>
    obtain ⟨x, rfl, rx⟩ := reps1 r
    obtain ⟨a, vs, rfl, h1, n1, r1⟩ := rx.list_inv
    cases e
    exact ⟨a, vs, rfl, .inl ⟨.of h1, fun p hp w' => q _ _ w' (same_new hp) (new_tup hz hp r1)⟩⟩
  | [.tuple ys], r, e =>
    obtain ⟨x, rfl, rx⟩ := reps1 r
    obtain ⟨a, vs, rfl, h1, n1, r1⟩ := rx.tup_inv
    cases e
    exact ⟨a, vs, rfl, .inr ⟨.of h1, fun w' => q _ _ w (Same.refl H) (.tup h1 n1 r1)⟩⟩
theorem callS_list : CallS X (.type "list") (biV .list) := by
  refine callS_of _ call_list_of fun H0 z m H xs ds c Q w hz h0 r e q => ?_
  match ds, r, e with
  | [.list ys], r, e =>
    obtain ⟨x, rfl, rx⟩ := reps1 r
    obtain ⟨a, vs, rfl, h1, n1, r1⟩ := rx.list_inv
    cases e
    exact ⟨a, vs, rfl, .inl (.of h1), fun p hp w' => q _ _ w' (same_new hp) (new_nw w' hz h0 hp r1)⟩
  | [.tuple ys], r, e =>
    obtain ⟨x, rfl, rx⟩ := reps1 r
    obtain ⟨a, vs, rfl, h1, n1, r1⟩ := rx.tup_inv
    cases e
    exact ⟨a, vs, rfl, .inr (.of h1), fun p hp w' => q _ _ w' (same_new hp) (new_nw w' hz h0 hp r1)⟩
theorem callS_int : CallS X (.type "int") (biV .int) := by
  refine callS_of _ call_int1 fun H0 z m H xs ds c Q w hz h0 r e q => ?_
  match ds, r, e with
  | [.int i], r, e =>
    obtain ⟨x, rfl, rx⟩ := reps1 r
    cases e
    exact .inl ⟨i, by rw [rx.int_inv], fun w' => q _ _ w (Same.refl H) (.int _)⟩
  | [.bool b], r, e =>
    obtain ⟨x, rfl, rx⟩ := reps1 r
    cases e
    exact .inr ⟨b, by rw [rx.bool_inv], fun w' => q _ _ w (Same.refl H) (.int _)⟩
end
end Co
end

section
set_option Elab.async false
set_option linter.all false
set_option maxRecDepth 100000
/-! sorted: ints, tuples of ints, any number of them -/
namespace Co
open PySem L2
theorem ps_uniq {α : Type} {R : α → α → Prop} (anti : ∀ a b, R a b → R b a → a = b) : ∀ {l m : List α}, l.Pairwise R → m.Pairwise R → l.Perm m → l = m
  | [], m, _, _, h => (List.Perm.eq_nil h.symm).symm
  | a :: l, [], _, _, h => absurd h.length_eq (by simp)
  | a :: l, b :: m, hl, hm, h => by
    have e : a = b := by
      rcases List.mem_cons.mp (h.mem_iff.mp (List.mem_cons_self (a := a) (l := l))) with e | ha
      · exact e
      · rcases List.mem_cons.mp (h.mem_iff.mpr (List.mem_cons_self (a := b) (l := m))) with e | hb
        · exact e.symm
        · exact anti a b ((List.pairwise_cons.mp hl).1 b hb) ((List.pairwise_cons.mp hm).1 a ha)
    subst e
    rw [ps_uniq anti (List.pairwise_cons.mp hl).2 (List.pairwise_cons.mp hm).2 h.cons_inv]
theorem lex_asym : ∀ (x y : List Int), HT.lexLt x y = true → HT.lexLt y x = false
  | [], [], h => by cases h
  | [], _ :: _, _ => rfl
  | _ :: _, [], h => by cases h
  | x :: xs, y :: ys, h => by
    rw [HT.lexLt_cons] at h ⊢
    by_cases e : x = y
    · subst e
      rw [if_pos rfl] at h ⊢
      exact lex_asym xs ys h
    · rw [if_neg e] at h
      rw [if_neg (Ne.symm e)]
      have := of_decide_eq_true h
      exact decide_eq_false (by omega)
theorem lex_anti : ∀ (x y : List Int), HT.lexLt x y = false → HT.lexLt y x = false → x = y
  | [], [], _, _ => rfl
  | [], _ :: _, h, _ => by cases h
  | _ :: _, [], _, h => by cases h
  | x :: xs, y :: ys, h, h' => by
    rw [HT.lexLt_cons] at h h'
    by_cases e : x = y
    · subst e
      rw [if_pos rfl] at h h'
      rw [lex_anti xs ys h h']
    · rw [if_neg e] at h
      rw [if_neg (Ne.symm e)] at h'
      have a := of_decide_eq_false h
      have b := of_decide_eq_false h'
      omega
theorem lex_tr : ∀ (x y z : List Int), HT.lexLt y x = false → HT.lexLt z y = false → HT.lexLt z x = false
  | [], _, [], _, _ => rfl
  | [], _, _ :: _, _, _ => rfl
  | x :: xs, [], _, h, _ => by cases h
  | x :: xs, y :: ys, [], _, h' => by cases h'
  | x :: xs, y :: ys, z :: zs, h, h' => by
    rw [HT.lexLt_cons] at h h' ⊢
    by_cases e : y = x
    · rw [if_pos e] at h
      by_cases e' : z = y
      · rw [if_pos e'] at h'
        rw [if_pos (e'.trans e)]
        exact lex_tr xs ys zs h h'
      · rw [if_neg e'] at h'
        rw [if_neg (by rw [← e]; exact e')]
        have := of_decide_eq_false h'
        exact decide_eq_false (by omega)
    · rw [if_neg e] at h
      have a := of_decide_eq_false h
      by_cases e' : z = y
      · rw [if_neg (by rw [e']; exact e)]
        exact decide_eq_false (by omega)
      · rw [if_neg e'] at h'
        have b := of_decide_eq_false h'
        rw [if_neg (by omega)]
        exact decide_eq_false (by omega)
theorem swo_lexK {α : Type} (k : α → List Int) : SrtO.Swo fun v u => HT.lexLt (k v) (k u) := ⟨fun x y => lex_asym _ _, fun x y z => lex_tr _ _ _⟩
section
variable {prog : Program} {w : World} {A : Around} {E : Value → Shared → Prop} {s : Shared}
theorem lex_any {b fin : Bool} {Q : Bool → Shared → Prop} : ∀ {xs ys : List Value} {ns ms : List Int} (i : Nat), PyProof.Rows.IntsAre xs ns → PyProof.Rows.IntsAre ys ms → fin = decide (ns.length < ms.length) → Q (HT.lexLt ns ms) s → PySem.W.KatLex prog w A b fin Q (xs.zip ys) i s := by
  intro xs ys ns ms i hx hy hf h
  induction hx generalizing ys ms i fin with
  | nil =>
    cases hy with
    | nil => subst hf; exact PySem.W.kat_nil h
    | cons q u hy => subst hf; exact PySem.W.kat_nil h
  | @cons p t xs ns hx ih =>
    cases hy with
    | nil => subst hf; exact PySem.W.kat_nil h
    | @cons q u ys ms hy =>
      have hf' : fin = decide (ns.length < ms.length) := by rw [hf]; simp
      refine PySem.W.kat_cons (wpAny_eqBool_int ?_)
      rw [HT.lexLt_cons] at h
      by_cases e : p = q
      · subst e
        rw [if_pos rfl] at h
        rw [beq_self_eq_true]
        exact PySem.W.kat_yes (ih (i + 1) hy hf' h)
      · rw [if_neg e] at h
        rw [show (p == q) = false from beq_eq_false_iff_ne.mpr e]
        exact PySem.W.kat_no (TS.oneLt_ints _ h)
theorem tups_first {h : Heap} : ∀ vs : List Value, (∀ v ∈ vs, ∃ ns, TS.TupInts h v ns ∧ ns ≠ []) → ∃ fs, PySem.W.KatTups h vs fs ∧ fs.length = vs.length ∧ ∀ f, f ∈ fs → ∃ n t, f = Value.int n t
  | [], _ => ⟨[], PySem.W.KatTups.nil, rfl, fun f hf => by simp at hf⟩
  | v :: vs, x => by
    obtain ⟨fs, k, hl, hi⟩ := tups_first vs fun u hu => x u (List.mem_cons_of_mem _ hu)
    obtain ⟨ns, ⟨a, xs, rfl, ⟨o, ho, hc, n, hdt⟩, i⟩, hn⟩ := x v List.mem_cons_self
    cases q : xs.toList with
    | nil =>
      rw [q] at i
      cases i
      exact absurd rfl hn
    | cons y ys =>
      obtain ⟨m, t, hy⟩ := i.all y (by rw [q]; exact List.mem_cons_self)
      refine ⟨y :: fs, PySem.W.KatTups.cons ho hc hdt ?_ k, by simp [hl], fun f hf => ?_⟩
      · have g := congrArg (fun l : List Value => l[0]?) q
        simpa using g
      · rcases List.mem_cons.mp hf with e | hf
        · exact ⟨m, t, by rw [e]; exact hy⟩
        · exact hi f hf
theorem tups_cmp {vs : List Value} {k : Value → List Int} (hp : ∀ v ∈ vs, TS.TupInts s.heap v (k v)) : SrtO.Cmp prog w A s (PyProof.Rows.tuples' true) (fun p => p.1 ∈ vs) (SrtO.lt2 fun v u => HT.lexLt (k v) (k u)) := by
  intro p q hm hm'
  obtain ⟨a, xs, e, ⟨o, ho, hc, n, hd⟩, i⟩ := hp _ hm
  obtain ⟨a', xs', e', ⟨o', ho', hc', n', hd'⟩, i'⟩ := hp _ hm'
  show wpAny (model prog w) A (PyProof.Rows.keyLt' (PyProof.Rows.tuples' true) p.1 q.1) (fun r s' => s' = s ∧ r = HT.lexLt (k p.1) (k q.1)) (fun _ _ => False) s
  generalize k p.1 = ns at i ⊢
  generalize k q.1 = ms at i' ⊢
  rw [e, e']
  refine PySem.W.kat_lt ho hd ho' hd' ?_
  refine lex_any 0 i i' ?_ ⟨rfl, rfl⟩
  have l1 := i.length
  have l2 := i'.length
  simp only [Array.length_toList] at l1 l2
  rw [l1, l2]
theorem tups_sortable {a : Addr} {vs : List Value} {k : Value → List Int} (h0 : 0 < vs.length) (hp : ∀ v ∈ vs, TS.TupInts s.heap v (k v) ∧ k v ≠ []) (ha : ∀ o, s.heap.get? a = some o → o.cls ≠ .type "tuple") : SrtO.SortableO prog w A s a vs fun v u => HT.lexLt (k v) (k u) := by
  intro h' keep
  have hp' : ∀ v ∈ vs, TS.TupInts h' v (k v) := fun v hm => (hp v hm).1.keeps fun b o e c => keep b o (fun z => by subst z; exact ha o e c) e
  obtain ⟨fs, h1, h2, h3⟩ := tups_first vs fun v hm => ⟨_, hp' v hm, (hp v hm).2⟩
  refine ⟨PyProof.Rows.tuples' true, fun Q E hq => ?_, tups_cmp hp'⟩
  refine PySem.W.kat_kind (T := .type "int") h1 (by omega) (fun f hm => ?_) (by rfl) hq
  obtain ⟨x, t, rfl⟩ := h3 f hm
  exact PySem.W.Looks.of_pure rfl
end
/-- sorted(xs) of tuples of ints -/
def rSortedTI (K : PySem.W.Frag) : List V → Hp → VK → Prop := fun vs H Q => ∃ (a : Addr) (xs : List V) (k : V → List Int), vs = [V.ref a] ∧ SqL K H a xs ∧ (∀ x ∈ xs, k x ≠ [] ∧ ∃ t, x = V.ref t ∧ H t = some (.tup ((k x).map V.int))) ∧
  ∀ ys p, ys.Perm xs → ys.Pairwise (fun x y => HT.lexLt (k y) (k x) = false) → H p = none → Q (.ref p) (upd H p (.lst ys))
section
variable {X : Cx}
theorem cr_sortedTI : CallR X (.builtin "sorted") (rSortedTI X.K) := by
  intro pins s σ H vs us Q I r h
  obtain ⟨a, xs, k, rfl, hs, hx, q⟩ := h
  obtain ⟨its, rv, hl, hz⟩ := I.list hs
  rw [Vals.ref1 r]
  obtain ⟨e1, e2⟩ := refs_back rv fun x m => by
    obtain ⟨_, t, e, _⟩ := hx x m
    exact ⟨t, e⟩
  have hv : ∀ v ∈ its, TS.TupInts s.heap v (k (backV v)) ∧ k (backV v) ≠ [] := fun v hv => by
    obtain ⟨t, rfl⟩ := e2 v hv
    have hm : V.ref t ∈ xs := by rw [e1]; exact List.mem_map.mpr ⟨_, hv, rfl⟩
    obtain ⟨hn, t', e, ht⟩ := hx _ hm
    cases e
    exact ⟨tupI_raw I (.of ht), hn⟩
  refine SrtO.sorted_ord (swo_lexK fun v => k (backV v)) hl.isList (by rw [← rv.length]; exact hz) (fun h2 h₁ a' ha kk => ?_) fun out h1 h2 => ?_
  · refine tups_sortable (s := { s with heap := h₁ }) (by omega) (fun v hm => ⟨(hv v hm).1.keeps fun b o e _ => (kk b o e).2, (hv v hm).2⟩) fun o e => ?_
    rw [ha] at e
    cases e
    intro c
    exact absurd (Value.type.inj c) (by decide)
  · obtain ⟨ep, he'⟩ := PyProof.Rows.sortedAll_at s.heap its out.toArray
    have h3 : ∀ u ∈ out, ∃ a, u = Value.ref a := fun u hu => e2 u (h2.perm.mem_iff.mp hu)
    have hp : (out.map backV).Perm xs := by
      rw [e1]
      exact h2.perm.map backV
    refine ⟨.ref _, upd H (s.heap.objs.size + 1) (.lst (out.map backV)), I.laid (t' := s.toks) (fun _ _ => PyProof.Rows.sortedAll_old) (Nat.le_succ _) ⟨by rw [hp.length_eq]; exact hz, out, ep, vals_back h3, he'⟩, rfl, q _ _ hp ?_ (I.hok.fresh (Nat.le_succ _))⟩
    exact List.pairwise_map.mpr h1
end
section
open PyProof.Rows
variable {prog : Program} {w : World} {A : Around} {E : Value → Shared → Prop} {s : Shared}
/-- sorted(t) of a tuple t: a new list, the old objects as they were -/
theorem sorted_ordT {t : Addr} {vs : List Value} {ltv : Value → Value → Bool} {Q : Value → Shared → Prop} (O : SrtO.Swo ltv) (ht : IsTup s.heap t vs.toArray) (hz : vs.length ≤ sizeLine)
    (hS : 2 ≤ vs.length → ∀ (h₁ : Heap) (a : Addr), h₁.get? a = some (seqObj "list" vs.toArray 0) → (∀ b o, s.heap.get? b = some o → b ≠ a ∧ h₁.get? b = some o) → SrtO.SortableO prog w A.in1.in1 { s with heap := h₁ } a vs ltv)
    (h : ∀ (out : List Value) (h' : Heap) (p e : Nat), SrtO.Srtd ltv out → SrtO.Stb ltv out vs → s.heap.get? p = none → (∀ b o, s.heap.get? b = some o → h'.get? b = some o) → h'.get? p = some (seqObj "list" out.toArray e) → Q (.ref p) { s with heap := h' }) :
    wpAny (model prog w) A (call (.builtin "sorted") [.ref t]) Q E s := by
  obtain ⟨o, ho, hc, n, hd⟩ := ht
  refine Calls.call_function_entry kind_sorted plain_sorted entry_sorted (args_sorted1 _) ?_
  unfold Builtin.«sorted»
  refine wpAny_bind (m := checkCount "sorted" 1 1 _) (wpAny_pure ?_)
  refine wpAny_bind (wpAny_collect_seq t (.inr rfl) ho hc hd (fun h' hk => ?_) (by rw [List.size_toArray]; exact hz))
  refine wpAny_bind (wpAny_newList ?_ hz)
  have hoL : (h'.push (seqObj "list" vs.toArray 0)).get? h'.objs.size = some (seqObj "list" vs.toArray 0) := Heap.get?_push_size _ rfl
  have keep : ∀ b o, s.heap.get? b = some o → b ≠ h'.objs.size ∧ (h'.push (seqObj "list" vs.toArray 0)).get? b = some o := fun b o q =>
    ⟨Nat.ne_of_lt (Heap.lt_size (hk _ _ q)), Heap.get?_push_of_some _ (hk _ _ q)⟩
  show wpAny _ _ _ _ _ { s with heap := h'.push (seqObj "list" vs.toArray 0) }
  refine wpAny_bind (wpAny_holding (wpAny_call_entry slot_list_sort ⟨_, hoL, rfl⟩ entry_list_sort (SrtO.list_sort_ord O hoL hz (fun h2 => hS h2 _ _ hoL keep) fun out hs hb => ⟨_, rfl, ?_⟩) (args_list_sort _)))
  obtain ⟨e, he⟩ := sortedHeap_at (out := out.toArray) hoL
  refine wpAny_pure ⟨_, rfl, h out _ _ e hs hb ?_ (fun b o q => ?_) he⟩
  · exact fresh_in hk
  · rw [sortedHeap_old (keep b o q).1 (Heap.lt_size (keep b o q).2)]
    exact (keep b o q).2
end
/-- sorted(xs) of a tuple of tuples of ints -/
def rSortedTT (K : PySem.W.Frag) : List V → Hp → VK → Prop := fun vs H Q => ∃ (a : Addr) (xs : List V) (k : V → List Int), vs = [V.ref a] ∧ SqT K H a xs ∧ (∀ x ∈ xs, k x ≠ [] ∧ ∃ t, x = V.ref t ∧ H t = some (.tup ((k x).map V.int))) ∧
  ∀ ys p, ys.Perm xs → ys.Pairwise (fun x y => HT.lexLt (k y) (k x) = false) → H p = none → Q (.ref p) (upd H p (.lst ys))
section
variable {X : Cx}
theorem cr_sortedTT : CallR X (.builtin "sorted") (rSortedTT X.K) := by
  intro pins s σ H vs us Q I r h
  obtain ⟨a, xs, k, rfl, hs, hx, q⟩ := h
  obtain ⟨its, rv, hl, hz⟩ := I.tuple hs
  rw [Vals.ref1 r]
  obtain ⟨e1, e2⟩ := refs_back rv fun x m => by
    obtain ⟨_, t, e, _⟩ := hx x m
    exact ⟨t, e⟩
  have hv : ∀ v ∈ its, TS.TupInts s.heap v (k (backV v)) ∧ k (backV v) ≠ [] := fun v hv => by
    obtain ⟨t, rfl⟩ := e2 v hv
    have hm : V.ref t ∈ xs := by rw [e1]; exact List.mem_map.mpr ⟨_, hv, rfl⟩
    obtain ⟨hn, t', e, ht⟩ := hx _ hm
    cases e
    exact ⟨tupI_raw I (.of ht), hn⟩
  refine sorted_ordT (swo_lexK fun v => k (backV v)) hl (by rw [← rv.length]; exact hz) (fun h2 h₁ a' ha kk => ?_) fun out h' p e h1 h2 hp hk he => ?_
  · refine tups_sortable (s := { s with heap := h₁ }) (by omega) (fun v hm => ⟨(hv v hm).1.keeps fun b o e _ => (kk b o e).2, (hv v hm).2⟩) fun o e => ?_
    rw [ha] at e
    cases e
    intro c
    exact absurd (Value.type.inj c) (by decide)
  · have h3 : ∀ u ∈ out, ∃ a, u = Value.ref a := fun u hu => e2 u (h2.perm.mem_iff.mp hu)
    have hpm : (out.map backV).Perm xs := by
      rw [e1]
      exact h2.perm.map backV
    have hn := I.hok.gone hp
    refine ⟨.ref _, upd H p (.lst (out.map backV)), I.laidN (t' := s.toks) hk hp hn ⟨by rw [hpm.length_eq]; exact hz, out, e, vals_back h3, he⟩, rfl, q _ _ hpm ?_ hn⟩
    exact List.pairwise_map.mpr h1
end
section
variable {X : Cx}
/-! the data -/
theorem insI_perm (i : Int) : ∀ l : List Int, (insI i l).Perm (i :: l)
  | [] => .refl _
  | j :: l => by
    unfold insI
    split
    · exact .refl _
    · exact ((insI_perm i l).cons j).trans (.swap i j l)
theorem sortI_perm : ∀ l : List Int, (sortI l).Perm l
  | [] => .refl _
  | i :: l => (insI_perm i _).trans ((sortI_perm l).cons i)
theorem insI_sorted (i : Int) : ∀ {l : List Int}, l.Pairwise (· ≤ ·) → (insI i l).Pairwise (· ≤ ·)
  | [], _ => List.pairwise_singleton _ _
  | j :: l, h => by
    unfold insI
    have hj := List.pairwise_cons.mp h
    split
    · rename_i hij
      exact List.pairwise_cons.mpr ⟨fun y hy => (List.mem_cons.mp hy).elim (fun e => by omega) fun hy => Int.le_trans hij (hj.1 y hy), h⟩
    · refine List.pairwise_cons.mpr ⟨fun y hy => ?_, insI_sorted i hj.2⟩
      rcases List.mem_cons.mp ((insI_perm i l).mem_iff.mp hy) with e | hy
      · omega
      · exact hj.1 y hy
theorem sortI_sorted : ∀ l : List Int, (sortI l).Pairwise (· ≤ ·)
  | [] => .nil
  | i :: l => insI_sorted i (sortI_sorted l)
theorem mem_insU (i k : Int) : ∀ l : List Int, k ∈ insU i l ↔ k = i ∨ k ∈ l
  | [] => by simp [insU]
  | j :: l => by
    unfold insU
    split
    · simp
    · split
      · rename_i h; subst h; simp
      · rw [List.mem_cons, mem_insU i k l, List.mem_cons]
        constructor
        · rintro (h | h | h) <;> simp [h]
        · rintro (h | h | h) <;> simp [h]
theorem insU_lt (i : Int) : ∀ {l : List Int}, l.Pairwise (· < ·) → (insU i l).Pairwise (· < ·)
  | [], _ => List.pairwise_singleton _ _
  | j :: l, h => by
    have hj := List.pairwise_cons.mp h
    unfold insU
    split
    · rename_i hij
      exact List.pairwise_cons.mpr ⟨fun y hy => (List.mem_cons.mp hy).elim (fun e => by omega) fun hy => Int.lt_trans hij (hj.1 y hy), h⟩
    · split
      · exact h
      · rename_i h1 h2
        refine List.pairwise_cons.mpr ⟨fun y hy => ?_, insU_lt i hj.2⟩
        rcases (mem_insU i y l).mp hy with e | hy
        · omega
        · exact hj.1 y hy
theorem mem_srtU (k : Int) : ∀ l : List Int, k ∈ srtU l ↔ k ∈ l
  | [] => by simp [srtU]
  | i :: l => by
    show k ∈ insU i (srtU l) ↔ _
    rw [mem_insU, mem_srtU k l, List.mem_cons]
theorem srtU_lt : ∀ l : List Int, (srtU l).Pairwise (· < ·)
  | [] => .nil
  | i :: l => insU_lt i (srtU_lt l)
/-- rising lists of the same members -/
theorem lt_uniq : ∀ {l m : List Int}, l.Pairwise (· < ·) → m.Pairwise (· < ·) → (∀ k, k ∈ l ↔ k ∈ m) → l = m
  | [], [], _, _, _ => rfl
  | [], b :: m, _, _, h => absurd ((h b).mpr List.mem_cons_self) (by simp)
  | a :: l, [], _, _, h => absurd ((h a).mp List.mem_cons_self) (by simp)
  | a :: l, b :: m, hl, hm, h => by
    have ha := List.pairwise_cons.mp hl
    have hb := List.pairwise_cons.mp hm
    have e : a = b := by
      rcases List.mem_cons.mp ((h a).mp List.mem_cons_self) with e | h1
      · exact e
      · rcases List.mem_cons.mp ((h b).mpr List.mem_cons_self) with e | h2
        · exact e.symm
        · have := hb.1 a h1
          have := ha.1 b h2
          omega
    subst e
    rw [lt_uniq ha.2 hb.2 fun k => ?_]
    constructor
    · intro hk
      rcases List.mem_cons.mp ((h k).mp (List.mem_cons_of_mem _ hk)) with e | h1
      · have := ha.1 k hk; omega
      · exact h1
    · intro hk
      rcases List.mem_cons.mp ((h k).mpr (List.mem_cons_of_mem _ hk)) with e | h1
      · have := hb.1 k hk; omega
      · exact h1
theorem insT_perm (i : List Int) : ∀ l : List (List Int), (insT i l).Perm (i :: l)
  | [] => .refl _
  | j :: l => by
    unfold insT
    split
    · exact ((insT_perm i l).cons j).trans (.swap i j l)
    · exact .refl _
theorem sortT_perm : ∀ l : List (List Int), (sortT l).Perm l
  | [] => .refl _
  | i :: l => (insT_perm i _).trans ((sortT_perm l).cons i)
theorem insT_sorted (i : List Int) : ∀ {l : List (List Int)}, l.Pairwise (fun x y => HT.lexLt y x = false) → (insT i l).Pairwise (fun x y => HT.lexLt y x = false)
  | [], _ => List.pairwise_singleton _ _
  | j :: l, h => by
    unfold insT
    have hj := List.pairwise_cons.mp h
    split
    · rename_i hij
      refine List.pairwise_cons.mpr ⟨fun y hy => ?_, insT_sorted i hj.2⟩
      rcases List.mem_cons.mp ((insT_perm i l).mem_iff.mp hy) with e | hy
      · rw [e]; exact lex_asym _ _ hij
      · exact hj.1 y hy
    · rename_i hij
      have hij : HT.lexLt j i = false := by simpa using hij
      exact List.pairwise_cons.mpr ⟨fun y hy => (List.mem_cons.mp hy).elim (fun e => by rw [e]; exact hij) fun hy => lex_tr _ _ _ hij (hj.1 y hy), h⟩
theorem sortT_sorted : ∀ l : List (List Int), (sortT l).Pairwise (fun x y => HT.lexLt y x = false)
  | [] => .nil
  | i :: l => insT_sorted i (sortT_sorted l)
/-- the ints of a tracked tuple -/
noncomputable def keyOf (H : Hp) : V → List Int := fun v => match v with
  | .ref t => match H t with
    | some (.tup xs) => xs.filterMap fun x => match x with
      | .int i => some i
      | _ => none
    | _ => []
  | _ => []
theorem tups_reps {K : PySem.W.Frag} {H : Hp} {z : Addr → Prop} : ∀ {ds : List Dt} {xs : List V} {ts : List (List Int)}, Reps K H z xs ds → tups? ds = some ts → xs.map (keyOf H) = ts ∧ (∀ x ∈ xs, keyOf H x ≠ [] ∧ ∃ t, x = .ref t ∧ ¬ z t ∧ H t = some (.tup ((keyOf H x).map V.int)))
  | [], _, ts, .nil, h => by cases h; exact ⟨rfl, fun x hx => nomatch hx⟩
  | d :: ds, _, ts, .cons r t, h => by
    cases r with
    | @tup a vs es h1 n1 r1 =>
      simp only [tups?] at h
      cases e : ints? es with
      | none => rw [e] at h; cases h
      | some ns =>
        rw [e] at h
        cases ns with
        | nil => cases h
        | cons n ns =>
          simp only [Option.map_eq_some_iff] at h
          obtain ⟨ts', h2, rfl⟩ := h
          obtain ⟨g1, g2⟩ := tups_reps t h2
          have ev := r1.ints e
          subst ev
          have kf : keyOf H (.ref a) = n :: ns := by
            unfold keyOf
            simp only [h1]
            have : ∀ l : List Int, (l.map V.int).filterMap (fun x => match x with | .int i => some i | _ => none) = l := fun l => by
              induction l with
              | nil => rfl
              | cons a l ih => simp [ih]
            exact this (n :: ns)
          refine ⟨by rw [List.map_cons, kf, g1], fun x hx => ?_⟩
          rcases List.mem_cons.mp hx with e | hx
          · rw [e, kf]; exact ⟨by simp, a, rfl, n1, h1⟩
          · exact g2 x hx
    | _ => simp [tups?] at h
theorem reps_of_keys {K : PySem.W.Frag} {H : Hp} {z : Addr → Prop} : ∀ {ys : List V}, (∀ x ∈ ys, ∃ t, x = V.ref t ∧ ¬ z t ∧ H t = some (.tup ((keyOf H x).map V.int))) → Reps K H z ys ((ys.map (keyOf H)).map fun ns => .tuple (ns.map PyData.int))
  | [], _ => .nil
  | y :: ys, h => by
    obtain ⟨t, e, n, ht⟩ := h y List.mem_cons_self
    refine .cons ?_ (reps_of_keys fun x hx => h x (List.mem_cons_of_mem _ hx))
    rw [e] at ht ⊢
    exact .tup ht n (Reps.of_ints _)
theorem intKeys_ok {K : PySem.W.Frag} {H : Hp} {z : Addr → Prop} : ∀ {ks : List (Key × V)} {kvs : List (Dt × Dt)} {ns : List Int}, RepsK K H z ks kvs → intKeys? kvs = some ns → ks.map (·.1) = ns.map Sum.inl
  | _, _, _, .nil, h => by cases h; rfl
  | _, _, _, @RepsK.cons _ _ _ k _ _ _ _ r t, h => by
    cases k with
    | inl i =>
      simp only [kK, intKeys?, Option.map_eq_some_iff] at h
      obtain ⟨ms, h1, rfl⟩ := h
      rw [List.map_cons, List.map_cons, ← intKeys_ok t h1]
    | inr s => simp [kK, intKeys?] at h
theorem callS_sorted (hc : X.calm = true) : CallS X (.builtin "sorted") (biV .sorted) := by
  refine callS_of _ (orC (call_sortedDI hc) (orC cr_sortedI (orC cr_sortedTI cr_sortedTT))) fun H0 z m H xs ds c Q w hz h0 r e q => ?_
  match ds, r, e with
  | [.dict kvs], r, e =>
    obtain ⟨x, rfl, rx⟩ := reps1 r
    have e : sortedD [.dict kvs] = some c := e
    simp only [sortedD, Option.bind_eq_some_iff] at e
    obtain ⟨ns, e1, e2⟩ := e
    obtain ⟨hl, rfl⟩ := optIf e2
    cases rx with
    | dic h1 n1 r1 =>
      refine .inl ⟨_, _, ns, rfl, .inl h1, intKeys_ok r1 e1, hl, fun ys p hp hs hnew w' => q _ _ w' (same_new hnew) (new_nw w' hz h0 hnew ?_)⟩
      have : ys = sortI ns := ps_uniq (R := (· ≤ ·)) (fun a b h h' => Int.le_antisymm h h') hs (sortI_sorted ns) (hp.trans (sortI_perm ns).symm)
      rw [this]
      exact Reps.of_ints _
    | dit h1 n1 r1 => simp [intKeys?] at e1
  | [.list ys], r, e =>
    obtain ⟨x, rfl, rx⟩ := reps1 r
    obtain ⟨a, vs, rfl, h1, n1, r1⟩ := rx.list_inv
    have e : sortedD [.list ys] = some c := e
    simp only [sortedD] at e
    cases ei : ints? ys with
    | some ns =>
      rw [ei] at e
      cases e
      have := r1.ints ei
      subst this
      refine .inr (.inl ⟨a, ns, rfl, .of h1, fun ns' p hp hs hnew w' => q _ _ w' (same_new hnew) (new_nw w' hz h0 hnew ?_)⟩)
      have : ns' = sortI ns := ps_uniq (R := (· ≤ ·)) (fun a b h h' => Int.le_antisymm h h') hs (sortI_sorted ns) (hp.trans (sortI_perm ns).symm)
      rw [this]
      exact Reps.of_ints _
    | none =>
      rw [ei] at e
      simp only [Option.map_eq_some_iff] at e
      obtain ⟨ts, et, rfl⟩ := e
      obtain ⟨g1, g2⟩ := tups_reps r1 et
      refine .inr (.inr (.inl ⟨a, vs, keyOf H, rfl, .of h1, fun x hx => ⟨(g2 x hx).1, let ⟨t, e, _, ht⟩ := (g2 x hx).2; ⟨t, e, ht⟩⟩, fun ys' p hp hs hnew w' => q _ _ w' (same_new hnew) (new_nw w' hz h0 hnew ?_)⟩))
      have hk : ys'.map (keyOf H) = sortT ts := ps_uniq (R := fun x y => HT.lexLt y x = false) (fun a b h h' => lex_anti a b h' h) (List.pairwise_map.mpr hs) (sortT_sorted ts) ((hp.map _).trans (by rw [g1]; exact (sortT_perm ts).symm))
      rw [← hk]
      exact reps_of_keys fun x hx => (g2 x (hp.mem_iff.mp hx)).2
  | [.tuple ys], r, e =>
    obtain ⟨x, rfl, rx⟩ := reps1 r
    obtain ⟨a, vs, rfl, h1, n1, r1⟩ := rx.tup_inv
    have e : sortedD [.tuple ys] = some c := e
    simp only [sortedD, Option.map_eq_some_iff] at e
    obtain ⟨ts, et, rfl⟩ := e
    obtain ⟨g1, g2⟩ := tups_reps r1 et
    refine .inr (.inr (.inr ⟨a, vs, keyOf H, rfl, .of h1, fun x hx => ⟨(g2 x hx).1, let ⟨t, e, _, ht⟩ := (g2 x hx).2; ⟨t, e, ht⟩⟩, fun ys' p hp hs hnew w' => q _ _ w' (same_new hnew) (new_nw w' hz h0 hnew ?_)⟩))
    have hk : ys'.map (keyOf H) = sortT ts := ps_uniq (R := fun x y => HT.lexLt y x = false) (fun a b h h' => lex_anti a b h' h) (List.pairwise_map.mpr hs) (sortT_sorted ts) ((hp.map _).trans (by rw [g1]; exact (sortT_perm ts).symm))
    rw [← hk]
    exact reps_of_keys fun x hx => (g2 x (hp.mem_iff.mp hx)).2
end
end Co
end

section
set_option Elab.async false
set_option linter.all false
set_option maxRecDepth 100000
/-! the text against the small language; expressions -/
namespace Co
open PySem L2 PyProof.Rows

inductive GV where
  | fn (i : Nat) | cst (i : Int) | blt
def plain : Expr → Bool
  | .Starred .. => false
  | .Slice .. => false
  | .Set .. => false
  | _ => true
def nOk (x : Str) : Bool := !(x == ("__debug__" : Str)) && !(x == ("__classdict__" : Str)) && !(x == ("__name__" : Str))
def isVis (sc : Scope) (x : Str) : Bool := match sc.names.lookup x with
  | some .local => true
  | some .cell => true
  | some .free => true
  | _ => false
def isLoc (sc : Scope) (x : Str) : Bool := match sc.names.lookup x with
  | some .local => true
  | some .cell => true
  | _ => false
def isGl (sc : Scope) (x : Str) : Bool := match sc.names.lookup x with
  | some .globalImplicit => true
  | _ => false
def opIs : Op → Operator → Bool
  | .add, .Add => true
  | .sub, .Sub => true
  | .mul, .Mult => true
  | .fdiv, .FloorDiv => true
  | .mod, .Mod => true
  | .pow, .Pow => true
  | _, _ => false
def cpIs : Cp → CmpOp → Bool
  | .eq, .Eq => true
  | .ne, .NotEq => true
  | .lt, .Lt => true
  | .le, .LtE => true
  | .gt, .Gt => true
  | .ge, .GtE => true
  | .mem, .In => true
  | .nmem, .NotIn => true
  | .is_, .Is => true
  | .isn, .IsNot => true
  | _, _ => false
def biName : Bi → Str
  | .len => "len" | .max => "max" | .min => "min" | .sum => "sum" | .all => "all" | .any => "any" | .tuple => "tuple" | .list => "list" | .sorted => "sorted" | .int => "int"
  | _ => "isinstance"
def biTy : Bi → Option Str
  | .isInt => some "int" | .isBool => some "bool" | .isTuple => some "tuple" | .isList => some "list" | .isStr => some "str"
  | _ => none
section
variable (N : List Str) (gv : List (Str × GV))
def isBlt (sc : Scope) (x : Str) : Bool := isGl sc x && nOk x && (match gv.lookup x with
  | some .blt => true
  | _ => false)
mutual
def chkG : Tg → Scope → Expr → Bool
  | .nm i, sc, e => match e with
    | .Name x _ => isLoc sc x && decide (N[i]? = some x)
    | _ => false
  | .tp ts, sc, e => match e with
    | .Tuple es _ _ => chkGs ts sc es
    | _ => false
def chkGs : Tgs → Scope → List Expr → Bool
  | .nil, sc, es => match es with
    | [] => true
    | _ => false
  | .cons t ts, sc, es => match es with
    | e :: es => plain e && chkG t sc e && chkGs ts sc es
    | _ => false
end
def ownsOf (own : List Nat) : List (Str × Nat) := own.map fun i => (N.getD i (⟨#[]⟩ : Str), i)
mutual
def chkE : Ex → Scope → Expr → Bool
  | .var i, sc, e => match e with
    | .Name x _ => isVis sc x && nOk x && decide (N[i]? = some x)
    | _ => false
  | .cst d, sc, e => match e with
    | .Constant c _ _ => (match d, c with
      | .int i, .int j => decide (i = j)
      | .str i, .str j => decide (i = j)
      | .bool i, .bool j => decide (i = j)
      | .none, .none => true
      | _, _ => false)
    | .Name x _ => isGl sc x && nOk x && (match d, gv.lookup x with
      | .int i, some (.cst j) => decide (i = j)
      | _, _ => false)
    | _ => false
  | .op o a b, sc, e => match e with
    | .BinOp l op r _ => opIs o op && chkE a sc l && chkE b sc r
    | _ => false
  | .neg a, sc, e => match e with
    | .UnaryOp .USub l _ => chkE a sc l
    | _ => false
  | .not a, sc, e => match e with
    | .UnaryOp .Not l _ => chkE a sc l
    | _ => false
  | .cmp c a b, sc, e => match e with
    | .Compare l [op] [r] _ => cpIs c op && plain r && chkE a sc l && chkE b sc r
    | _ => false
  | .chain c c' a b d, sc, e => match e with
    | .Compare l [op, op'] [r, q] _ => cpIs c op && cpIs c' op' && plain r && plain q && chkE a sc l && chkE b sc r && chkE d sc q
    | _ => false
  | .and a b, sc, e => match e with
    | .BoolOp .And [x, y] _ => chkE a sc x && chkE b sc y
    | .BoolOp .And (x :: y :: z :: r) p => chkE a sc x && chkE b sc (.BoolOp .And (y :: z :: r) p)
    | _ => false
  | .or a b, sc, e => match e with
    | .BoolOp .Or [x, y] _ => chkE a sc x && chkE b sc y
    | .BoolOp .Or (x :: y :: z :: r) p => chkE a sc x && chkE b sc (.BoolOp .Or (y :: z :: r) p)
    | _ => false
  | .ite t a b, sc, e => match e with
    | .IfExp t' x y _ => chkT t sc t' && chkE a sc x && chkE b sc y
    | _ => false
  | .tup es, sc, e => match e with
    | .Tuple xs _ _ => decide (xs.length ≤ 1000) && chkEs es sc xs
    | _ => false
  | .lst es, sc, e => match e with
    | .List xs _ => decide (xs.length ≤ 1000) && chkEs es sc xs
    | _ => false
  | .idx a b, sc, e => match e with
    | .Subscript x y _ => plain y && chkE a sc x && chkE b sc y
    | _ => false
  | .slc a fl fh lo hi, sc, e => match e with
    | .Subscript x (.Slice l h none _) _ => chkE a sc x && (match l with
      | none => !fl && (match lo with
        | .cst _ => true
        | _ => false)
      | some l => fl && chkE lo sc l) && (match h with
      | none => !fh && (match hi with
        | .cst _ => true
        | _ => false)
      | some h => fh && chkE hi sc h)
    | _ => false
  | .rev a, sc, e => match e with
    | .Subscript x (.Slice none none (some (.UnaryOp .USub (.Constant (.int 1) _ _) _)) _) _ => chkE a sc x
    | _ => false
  | .bi b es, sc, e => match e with
    | .Call (.Name x _) xs [] _ => isBlt gv sc x && decide (x = biName b) && (match biTy b with
      | some t => (match es, xs with
        | .cons a .nil, [y, .Name u _] => plain y && isBlt gv sc u && decide (u = t) && chkE a sc y
        | _, _ => false)
      | none => !xs.isEmpty && chkEs es sc xs)
    | _ => false
  | .call f es, sc, e => match e with
    | .Call (.Name x _) xs [] _ => isGl sc x && nOk x && (match gv.lookup x with
      | some (.fn j) => decide (f = j)
      | _ => false) && chkEs es sc xs
    | _ => false
  | .dget a k d, sc, e => match e with
    | .Call (.Attribute (.Name x p) at_ apos) [k', d'] [] cpos => decide (at_ = ("get" : Str)) && plain k' && plain d' && (apos.endLine == cpos.line) && chkE a sc (.Name x p) && chkE k sc k' && chkE d sc d'
    | _ => false
  | .dnew _, sc, e => match e with
    | .Dict [] [] _ => true
    | _ => false
  | .lzip a b, sc, e => match e with
    | .Call (.Name x _) [.Call (.Name u _) [y, v] [] _] [] _ => isBlt gv sc x && decide (x = ("list" : Str)) && isBlt gv sc u && decide (u = ("zip" : Str)) && plain y && plain v && chkE a sc y && chkE b sc v
    | _ => false
  | .srt a, sc, e => match e with
    | .Call (.Name x _) [.Call (.Name u _) [y] [] _] [] _ => isBlt gv sc x && decide (x = ("sorted" : Str)) && isBlt gv sc u && decide (u = ("set" : Str)) && plain y && chkE a sc y
    | _ => false
  | .lrg1 a, sc, e => match e with
    | .Call (.Name x _) [.Call (.Name u _) [y] [] _] [] _ => isBlt gv sc x && decide (x = ("list" : Str)) && isBlt gv sc u && decide (u = ("range" : Str)) && plain y && chkE a sc y
    | _ => false
  | .lrg2 a b, sc, e => match e with
    | .Call (.Name x _) [.Call (.Name u _) [y, v] [] _] [] _ => isBlt gv sc x && decide (x = ("list" : Str)) && isBlt gv sc u && decide (u = ("range" : Str)) && plain y && plain v && chkE a sc y && chkE b sc v
    | _ => false
  | .chn3 c1 c2 c3 a b d u, sc, e => match e with
    | .Compare l [o1, o2, o3] [r, q, v] _ => cpIs c1 o1 && cpIs c2 o2 && cpIs c3 o3 && plain r && plain q && plain v && chkE a sc l && chkE b sc r && chkE d sc q && chkE u sc v
    | _ => false
  | .comp own tg it c d, sc, e => match e with
    | .ListComp elt [⟨t, iter, ifs, 0⟩] scope _ => plain iter && blkC N sc scope (ownsOf N own) && (slots tg).all (fun i => decide (i ∈ own)) && chkG N tg scope t && chkI it sc t iter && (match ifs with
      | [] => (match c with
        | .cst (.bool true) => true
        | _ => false)
      | [i] => chkT c scope i
      | _ => false) && chkE d scope elt
    | _ => false
  | .comp2 own own1 tg it tg1 it1 c d, sc, e => match e with
    | .ListComp elt [⟨t, iter, ifs, 0⟩, ⟨t1, iter1, ifs1, 0⟩] scope _ => plain iter && plain iter1 && blkC N sc scope (ownsOf N own) && own1.all (fun i => decide (i ∈ own)) && (slots tg).all (fun i => decide (i ∈ own)) && (slots tg1).all (fun i => decide (i ∈ own1)) && chkG N tg scope t && chkI it sc t iter && ifs.isEmpty && chkG N tg1 scope t1 && chkI it1 scope t1 iter1 && (match ifs1 with
      | [] => (match c with
        | .cst (.bool true) => true
        | _ => false)
      | [i] => chkT c scope i
      | _ => false) && chkE d scope elt
    | _ => false
  | .trg1 a, sc, e => match e with
    | .Call (.Name x _) [.Call (.Name u _) [y] [] _] [] _ => isBlt gv sc x && decide (x = ("tuple" : Str)) && isBlt gv sc u && decide (u = ("range" : Str)) && plain y && chkE a sc y
    | _ => false
def chkT : Ex → Scope → Expr → Bool
  | .and a b, sc, e => match e with
    | .BoolOp .And [x, y] _ => chkT a sc x && chkT b sc y
    | .BoolOp .And (x :: y :: z :: r) p => chkT a sc x && chkT b sc (.BoolOp .And (y :: z :: r) p)
    | _ => false
  | .or a b, sc, e => match e with
    | .BoolOp .Or [x, y] _ => chkT a sc x && chkT b sc y
    | .BoolOp .Or (x :: y :: z :: r) p => chkT a sc x && chkT b sc (.BoolOp .Or (y :: z :: r) p)
    | _ => false
  | .not a, sc, e => match e with
    | .UnaryOp .Not l _ => chkT a sc l
    | _ => false
  | .cmp c a b, sc, e => match e with
    | .Compare l [op] [r] _ => cpIs c op && plain r && chkE a sc l && chkE b sc r
    | _ => false
  | .chain c c' a b d, sc, e => match e with
    | .Compare l [op, op'] [r, q] _ => cpIs c op && cpIs c' op' && plain r && plain q && chkE a sc l && chkE b sc r && chkE d sc q
    | _ => false
  | .var i, sc, e => match e with
    | .Name x _ => isVis sc x && nOk x && decide (N[i]? = some x)
    | _ => false
  | .call f es, sc, e => match e with
    | .Call (.Name x _) xs [] _ => isGl sc x && nOk x && (match gv.lookup x with
      | some (.fn j) => decide (f = j)
      | _ => false) && chkEs es sc xs
    | _ => false
  | .bi b es, sc, e => match e with
    | .Call (.Name x _) xs [] _ => isBlt gv sc x && decide (x = biName b) && (match biTy b with
      | some t => (match es, xs with
        | .cons a .nil, [y, .Name u _] => plain y && isBlt gv sc u && decide (u = t) && chkE a sc y
        | _, _ => false)
      | none => !xs.isEmpty && chkEs es sc xs)
    | _ => false
  | _, _, _ => false
def chkEs : Exs → Scope → List Expr → Bool
  | .nil, _, es => es.isEmpty
  | .cons x xs, sc, es => match es with
    | e :: es => plain e && chkE x sc e && chkEs xs sc es
    | _ => false
def chkI : It → Scope → Expr → Expr → Bool
  | .seq x, sc, _, e => chkE x sc e
  | .rng1 x, sc, _, e => match e with
    | .Call (.Name f _) [a] [] _ => isBlt gv sc f && decide (f = ("range" : Str)) && plain a && chkE x sc a
    | _ => false
  | .rng2 x y, sc, _, e => match e with
    | .Call (.Name f _) [a, b] [] _ => isBlt gv sc f && decide (f = ("range" : Str)) && plain a && plain b && chkE x sc a && chkE y sc b
    | _ => false
  | .enu x, sc, t, e => match t, e with
    | .Tuple _ _ _, .Call (.Name f _) [a] [] _ => isBlt gv sc f && decide (f = ("enumerate" : Str)) && plain a && chkE x sc a
    | _, _ => false
  | .zip x y, sc, t, e => match t, e with
    | .Tuple _ _ _, .Call (.Name f _) [a, b] [] _ => isBlt gv sc f && decide (f = ("zip" : Str)) && plain a && plain b && chkE x sc a && chkE y sc b
    | _, _ => false
end
end
end Co
end

section
set_option Elab.async false
set_option linter.all false
set_option maxRecDepth 100000
/-! one rule a construct -/
namespace Co
open PySem L2
section
variable {X : Cx} {Wc : Nat → Hp → Prop} {fa fb fc : Rho → Mem → Res Vl} {a b c : Expr} {pos : Pos}
/-- the end of a reading: a result that is lifted -/
theorem Post.val {Wc : Nat → Hp → Prop} {H0 H H' : Hp} {z : Addr → Prop} {m : List Addr} {M : Mem} {ρ : Rho} {σ : St} {l : Vl} {v : V} {Q : VK} (p : Post X.K Wc H0 z m (.ok l M) H Q) (hr : ERel X.K H0 z m M ρ σ H) (w : Wf X.K H') (s : Same H H')
    (r : RepV X.K H0 z m H' v l) : Q v H' := p v H' w (.of_same s) (hr.cells.same s hr.zm) r
theorem lift_some {α : Type} {o : Option α} {M : Mem} {x : Res α} (h : Res.lift o M = x) (hx : x ≠ .bad) : ∃ a, o = some a := by
  cases o with
  | none => exact absurd h.symm hx
  | some a => exact ⟨a, rfl⟩
theorem Post.lift {Wc : Nat → Hp → Prop} {H0 H : Hp} {z : Addr → Prop} {m : List Addr} {M : Mem} {o : Option Vl} {Q : VK} (p : Post X.K Wc H0 z m (.lift o M) H Q) : ∃ l, o = some l ∧ Post X.K Wc H0 z m (.ok l M) H Q := by
  cases o with
  | none => exact p.elim
  | some l => exact ⟨l, rfl, p⟩
theorem step' {σ : St} {H H0 : Hp} {z : Addr → Prop} {m : List Addr} {M : Mem} {ρ : Rho} {f : Rho → Mem → Res Vl} {Q R : VK} (hr : ERel X.K H0 z m M ρ σ H) (hp : Post X.K Wc H0 z m (f ρ M) H Q)
    (next : ∀ v H1, Wf X.K H1 → Q v H1 → R v H1) : tE X.K Wc f σ H R := by
  refine ⟨H0, z, m, M, ρ, hr, ?_⟩
  cases e : f ρ M with
  | ok vl M1 => rw [e] at hp; exact fun v H1 w fz c r => next v H1 w (hp v H1 w fz c r)
  | exc c M1 => rw [e] at hp; exact hp
  | bad => rw [e] at hp; exact hp
theorem s_var {i : Nat} {x : Str} (hN : X.N[i]? = some x) (hv : Vis X.env.scope x) (hd : (x == ("__debug__" : Str)) = false) (hcd : (x == ("__classdict__" : Str)) = false) (cf : Nat → List Vl → Mem → Res Vl) : PE X (.Name x pos) (tE X.K Wc (ev cf (.var i))) := by
  refine PE.weak (pe_var hN hv hd hcd) fun σ H Q w ⟨H0, z, m, M, ρ, hr, hp⟩ => ?_
  simp only [ev] at hp
  cases e : ρ[i]? with
  | none =>
    rw [List.getD_eq_getElem?_getD, e] at hp
    exact hp.elim
  | some l =>
    rw [List.getD_eq_getElem?_getD, e] at hp
    have e1 : says l = true ∧ Post X.K Wc H0 z m (.ok l M) H Q := by
      cases l <;> first | exact ⟨rfl, hp⟩ | exact hp.elim
    obtain ⟨v, h1, h2⟩ := hr.env i l e e1.1
    exact ⟨v, h1, fun w' => e1.2.val hr w' (Same.refl H) h2⟩
theorem s_cst {d : Dt} {v : V} (h : PE X a (tC v)) (hv : ∀ H z, Rep X.K H z v d) (cf : Nat → List Vl → Mem → Res Vl) : PE X a (tE X.K Wc (ev cf (.cst d))) := by
  refine PE.weak h fun σ H Q w ⟨H0, z, m, M, ρ, hr, hp⟩ => fun w' => ?_
  simp only [ev] at hp
  exact hp.val hr w' (Same.refl H) (hv H z)
theorem s_op2 {g : Vl → Vl → Option Vl} {f : Value → Value → Sem Value} {e : Expr} (mk : ∀ {r : R2} {ta tb : TE}, OpR X f r → PE X a ta → PE X b tb → PE X e (tOp r ta tb)) (ho : OpS X f g) (ha : PE X a (tE X.K Wc fa)) (hb : PE X b (tE X.K Wc fb)) :
    PE X e (tE X.K Wc (fun ρ M => (fa ρ M).bind fun x M => (fb ρ M).bind fun y M => .lift (g x y) M)) := by
  obtain ⟨r, h1, h2⟩ := ho.ex
  refine PE.weak (mk h1 ha hb) fun σ H Q w ⟨H0, z, m, M, ρ, hr, hp⟩ => ?_
  refine step hr hp fun x M1 v1 H1 w1 hr1 f1 rx hp1 => ?_
  refine step hr1 hp1 fun y M2 v2 H2 w2 hr2 f2 ry hp2 => ?_
  obtain ⟨l, e, hp3⟩ := hp2.lift
  exact h2 H0 z m H2 v1 v2 x y l Q w2 hr2.zt hr2.h0 (rx.mono f2 hr.zm) ry e fun v H' w' s r' => hp3.val hr2 w' s r'
theorem s_un {g : Vl → Option Vl} {op : UnaryOp} {r : V → Hp → VK → Prop} (ho : UnR X (unaryOp op) r) (h : ∀ (H0 : Hp) (z : Addr → Prop) (m : List Addr) (H : Hp) (x : V) (a c : Vl) (Q : VK), Wf X.K H → RepV X.K H0 z m H x a → g a = some c →
      (∀ v, RepV X.K H0 z m H v c → Q v H) → r x H Q) (ha : PE X a (tE X.K Wc fa)) : PE X (.UnaryOp op a pos) (tE X.K Wc (fun ρ M => (fa ρ M).bind fun x M => .lift (g x) M)) := by
  refine PE.weak (pe_un ho ha) fun σ H Q w ⟨H0, z, m, M, ρ, hr, hp⟩ => ?_
  refine step hr hp fun x M1 v1 H1 w1 hr1 f1 rx hp1 => ?_
  obtain ⟨l, e, hp3⟩ := hp1.lift
  exact h H0 z m H1 v1 x l _ w1 rx e fun v r' w' => hp3.val hr1 w' (Same.refl H1) r'
theorem s_neg (ha : PE X a (tE X.K Wc fa)) : PE X (.UnaryOp .USub a pos) (tE X.K Wc (fun ρ M => (fa ρ M).bind fun x M => .lift (negV x) M)) :=
  s_un un_neg (fun H0 z m H x a c Q w r e q => by
    unfold negV at e
    split at e
    · cases e; exact ⟨_, Rep.int_inv r, q _ (.int _)⟩
    · cases e) ha
theorem s_not (ha : PE X a (tE X.K Wc fa)) : PE X (.UnaryOp .Not a pos) (tE X.K Wc (fun ρ M => (fa ρ M).bind fun x M => .lift (notV x) M)) := by
  refine PE.weak (pe_not ha) fun σ H Q w ⟨H0, z, m, M, ρ, hr, hp⟩ => ?_
  refine step hr hp fun x M1 v1 H1 w1 hr1 f1 rx hp1 => ?_
  obtain ⟨l, e, hp3⟩ := hp1.lift
  unfold notV at e
  split at e
  · cases e
    exact ⟨_, Rep.bool_inv rx, fun w' => hp3.val hr1 w' (Same.refl H1) (.bl _)⟩
  · cases e
/-- a bool -/
theorem ifB_post {H0 H : Hp} {z : Addr → Prop} {m : List Addr} {k : Vl} {v : V} {x y : Res Vl} {Q : VK} (r : RepV X.K H0 z m H v k) (hp : Post X.K Wc H0 z m (ifB k x y) H Q) : ∃ b : Bool, k = .dat (.bool b) ∧ v = .bl b ∧ Post X.K Wc H0 z m (if b then x else y) H Q := by
  unfold ifB at hp
  split at hp
  · exact ⟨true, rfl, Rep.bool_inv r, hp⟩
  · exact ⟨false, rfl, Rep.bool_inv r, hp⟩
  · exact hp.elim
theorem ifB_bind {α β : Type} {k : Vl} {x y : Res α} {f : α → Mem → Res β} : (ifB k x y).bind f = ifB k (x.bind f) (y.bind f) := by
  unfold ifB; split <;> rfl
theorem s_and {rest : List Expr} (ha : PE X a (tE X.K Wc fa)) (hb : PE X (.BoolOp .And (b :: rest) pos) (tE X.K Wc fb)) : PE X (.BoolOp .And (a :: b :: rest) pos) (tE X.K Wc (fun ρ M => (fa ρ M).bind fun k M => ifB k (fb ρ M) (.ok k M))) := by
  refine PE.weak (pe_and ha hb) fun σ H Q w ⟨H0, z, m, M, ρ, hr, hp⟩ => ?_
  refine step hr hp fun x M1 v1 H1 w1 hr1 f1 rx hp1 => ?_
  obtain ⟨b, rfl, rfl, hp2⟩ := ifB_post rx hp1
  refine ⟨b, rfl, ?_⟩
  cases b with
  | true => exact iteT (step' hr1 hp2 fun v H2 w2 q w' => q)
  | false => exact iteF fun w' => Post.val hp2 hr1 w' (Same.refl H1) rx
theorem s_or {rest : List Expr} (ha : PE X a (tE X.K Wc fa)) (hb : PE X (.BoolOp .Or (b :: rest) pos) (tE X.K Wc fb)) : PE X (.BoolOp .Or (a :: b :: rest) pos) (tE X.K Wc (fun ρ M => (fa ρ M).bind fun k M => ifB k (.ok k M) (fb ρ M))) := by
  refine PE.weak (pe_or ha hb) fun σ H Q w ⟨H0, z, m, M, ρ, hr, hp⟩ => ?_
  refine step hr hp fun x M1 v1 H1 w1 hr1 f1 rx hp1 => ?_
  obtain ⟨b, rfl, rfl, hp2⟩ := ifB_post rx hp1
  refine ⟨b, rfl, ?_⟩
  cases b with
  | true => exact iteT fun w' => Post.val hp2 hr1 w' (Same.refl H1) rx
  | false => exact iteF (step' hr1 hp2 fun v H2 w2 q w' => q)
theorem OpS.st {f : Value → Value → Sem Value} {g : Vl → Vl → Option Vl} (h : OpS X f g) : ∃ r, OpR X f r ∧ ∀ (H0 : Hp) (z : Addr → Prop) (m : List Addr) (H : Hp) (x y : V) (a b c : Vl) (Q : VK), Wf X.K H → (∀ p, z p → (H p).isSome) → (∀ p, (H0 p).isSome → (H p).isSome) → RepV X.K H0 z m H x a → RepV X.K H0 z m H y b → g a b = some c →
    (∀ v H', Wf X.K H' → Same H H' → RepV X.K H0 z m H' v c → Q v H') → r x y H Q := by
  obtain ⟨r, h1, h2⟩ := h.ex
  exact ⟨fun x y H Q => r x y H (fun v H' => Wf X.K H' → Q v H'), fun pins s σ H x y v u Q I rx ry q => thn (h1 pins s σ H x y v u _ I rx ry q) fun u' s' ⟨v', H', I', r', q'⟩ => ⟨v', H', I', r', q' (Wf.of I')⟩, h2⟩
theorem chain_rd {op op' : CmpOp} {g g' : Cp} (ho : OpS X (compareOp op) (cmpV g)) (ho' : OpS X (compareOp op') (cmpV g')) : ∃ r r', OpR X (compareOp op) r ∧ OpR X (compareOp op') r' ∧ ∀ (σ : L2.St) (H : Hp) (Q : VK), tE X.K Wc (fun ρ M => (fa ρ M).bind fun x M => (fb ρ M).bind fun y M => (Res.lift (cmpV g x y) M).bind fun k M => ifB k ((fc ρ M).bind fun z M => .lift (cmpV g' y z) M) (.ok k M)) σ H Q →
    tChain r r' (tE X.K Wc fa) (tE X.K Wc fb) (tE X.K Wc fc) σ H (fun v H' => Wf X.K H' → Q v H') := by
  obtain ⟨r, h1, h2⟩ := ho.st
  obtain ⟨r', h1', h2'⟩ := ho'.st
  refine ⟨r, r', h1, h1', fun σ H Q ⟨H0, z, m, M, ρ, hr, hp⟩ => ?_⟩
  refine step hr hp fun x M1 v1 H1 w1 hr1 f1 rx hp1 => ?_
  refine step hr1 hp1 fun y M2 v2 H2 w2 hr2 f2 ry hp2 => ?_
  cases e : cmpV g x y with
  | none => rw [e] at hp2; exact hp2.elim
  | some l =>
    rw [e] at hp2
    have hp2 : Post X.K Wc H0 z m (ifB l ((fc ρ M2).bind fun z M => .lift (cmpV g' y z) M) (.ok l M2)) H2 Q := hp2
    refine h2 H0 z m H2 v1 v2 x y l _ w2 hr2.zt hr2.h0 (rx.mono f2 hr.zm) ry e fun v H3 w3 s3 r3 => ?_
    have hr3 := hr2.go (.of_same s3) (hr2.cells.same s3 hr.zm)
    obtain ⟨b, rfl, rfl, hp3⟩ := ifB_post r3 (hp2.go (.of_same s3))
    refine ⟨b, rfl, ?_⟩
    cases b with
    | false => exact iteF fun w' => Post.val hp3 hr3 w' (Same.refl H3) r3
    | true =>
      refine iteT (step hr3 hp3 fun zv M4 v4 H4 w4 hr4 f4 rz hp4 => ?_)
      obtain ⟨l, e, hp5⟩ := hp4.lift
      exact h2' H0 z m H4 v2 v4 y zv l _ w4 hr4.zt hr4.h0 ((ry.mono (.of_same s3) hr.zm).mono f4 hr.zm) rz e fun v H' w' s r' w'' => hp5.val hr4 w' s r'
theorem s_chain {op op' : CmpOp} {g g' : Cp} (ho : OpS X (compareOp op) (cmpV g)) (ho' : OpS X (compareOp op') (cmpV g')) (ha : PE X a (tE X.K Wc fa)) (hb : PE X b (tE X.K Wc fb)) (hc : PE X c (tE X.K Wc fc)) (hm : lastMarks [op, op'] [b, c] = false) :
    PE X (.Compare a [op, op'] [b, c] pos) (tE X.K Wc (fun ρ M => (fa ρ M).bind fun x M => (fb ρ M).bind fun y M => (Res.lift (cmpV g x y) M).bind fun k M => ifB k ((fc ρ M).bind fun z M => .lift (cmpV g' y z) M) (.ok k M))) := by
  obtain ⟨r, r', h1, h2, h⟩ := chain_rd (Wc := Wc) (fa := fa) (fb := fb) (fc := fc) ho ho'
  exact PE.weak (pe_chain h1 h2 ha hb hc hm) fun σ H Q w q => h σ H Q q
def tChain3 (r r' r'' : R2) (ta tb tc td : TE) : TE := fun σ H Q => ta σ H fun x H1 => tb σ H1 fun y H2 => r x y H2 fun z H3 => ∃ k, z = .bl k ∧
  (if k = true then tc σ H3 fun u H4 => r' y u H4 fun z' H5 => ∃ k', z' = .bl k' ∧ (if k' = true then td σ H5 fun w H6 => r'' u w H6 Q else Q (.bl false) H5) else Q (.bl false) H3)
open PySem.Spec PyProof.Rows in
theorem pe_chain3 {o1 o2 o3 : CmpOp} {r r' r'' : R2} {ta tb tc td : TE} {d : Expr} (ho : OpR X (compareOp o1) r) (ho' : OpR X (compareOp o2) r') (ho'' : OpR X (compareOp o3) r'') (ha : PE X a ta) (hb : PE X b tb) (hc : PE X c tc) (hd : PE X d td)
    (hm : lastMarks [o1, o2, o3] [b, c, d] = false) : PE X (.Compare a [o1, o2, o3] [b, c, d] pos) (tChain3 r r' r'' ta tb tc td) := by
  refine ⟨fun pins s σ H Q I h => ?_⟩
  refine Compare_chain (thn (ha.run pins s σ H _ I h) fun v s1 ⟨x, H1, I1, r1, q1⟩ => chain_link (thn (hb.run pins s1 σ H1 _ I1 q1) fun u s2 ⟨y, H2, I2, r2, q2⟩ =>
    thn (ho pins s2 σ H2 x y v u _ I2 r1 r2 q2) fun d s3 ⟨z, H3, I3, r3, k, e, q3⟩ => ?_)) hm
  subst e
  cases r3
  refine wpAny_truthy_bool ?_
  cases k with
  | false => exact ite_ff ⟨.bl false, H3, I3, rfl, q3⟩
  | true =>
    refine ite_tt (chain_link (thn (hc.run pins s3 σ H3 _ I3 q3) fun w' s4 ⟨z', H4, I4, r4, q4⟩ => thn (ho' pins s4 σ H4 y z' u w' _ I4 r2 r4 q4) fun d2 s5 ⟨z2, H5, I5, r5, k2, e2, q5⟩ => ?_))
    subst e2
    cases r5
    refine wpAny_truthy_bool ?_
    cases k2 with
    | false => exact ite_ff ⟨.bl false, H5, I5, rfl, q5⟩
    | true => exact ite_tt (chain_last (thn (hd.run pins s5 σ H5 _ I5 q5) fun w3 s6 ⟨z3, H6, I6, r6, q6⟩ => ho'' pins s6 σ H6 z' z3 w' w3 Q I6 r4 r6 q6))
theorem s_chain3 {o1 o2 o3 : CmpOp} {g g' g'' : Cp} {d : Expr} {fd : Rho → Mem → Res Vl} (ho : OpS X (compareOp o1) (cmpV g)) (ho' : OpS X (compareOp o2) (cmpV g')) (ho'' : OpS X (compareOp o3) (cmpV g'')) (ha : PE X a (tE X.K Wc fa)) (hb : PE X b (tE X.K Wc fb)) (hc : PE X c (tE X.K Wc fc)) (hd : PE X d (tE X.K Wc fd)) (hm : lastMarks [o1, o2, o3] [b, c, d] = false) :
    PE X (.Compare a [o1, o2, o3] [b, c, d] pos) (tE X.K Wc (fun ρ M => (fa ρ M).bind fun x M => (fb ρ M).bind fun y M => (Res.lift (cmpV g x y) M).bind fun k M => ifB k ((fc ρ M).bind fun z M => (Res.lift (cmpV g' y z) M).bind fun k M => ifB k ((fd ρ M).bind fun u M => .lift (cmpV g'' z u) M) (.ok k M)) (.ok k M))) := by
  obtain ⟨r, h1, h2⟩ := ho.st
  obtain ⟨r', h1', h2'⟩ := ho'.st
  obtain ⟨r'', h1'', h2''⟩ := ho''.st
  refine PE.weak (pe_chain3 h1 h1' h1'' ha hb hc hd hm) fun σ H Q w ⟨H0, z, m, M, ρ, hr, hp⟩ => ?_
  refine step hr hp fun x M1 v1 H1 w1 hr1 f1 rx hp1 => ?_
  refine step hr1 hp1 fun y M2 v2 H2 w2 hr2 f2 ry hp2 => ?_
  cases e : cmpV g x y with
  | none => rw [e] at hp2; exact hp2.elim
  | some l =>
    rw [e] at hp2
    have hp2 : Post X.K Wc H0 z m (ifB l ((fc ρ M2).bind fun z M => (Res.lift (cmpV g' y z) M).bind fun k M => ifB k ((fd ρ M).bind fun u M => .lift (cmpV g'' z u) M) (.ok k M)) (.ok l M2)) H2 Q := hp2
    refine h2 H0 z m H2 v1 v2 x y l _ w2 hr2.zt hr2.h0 (rx.mono f2 hr.zm) ry e fun v H3 w3 s3 r3 => ?_
    have hr3 := hr2.go (.of_same s3) (hr2.cells.same s3 hr.zm)
    obtain ⟨b, rfl, rfl, hp3⟩ := ifB_post r3 (hp2.go (.of_same s3))
    refine ⟨b, rfl, ?_⟩
    cases b with
    | false => exact iteF fun w' => Post.val hp3 hr3 w' (Same.refl H3) r3
    | true =>
      refine iteT (step hr3 hp3 fun zv M4 v4 H4 w4 hr4 f4 rz hp4 => ?_)
      cases e2 : cmpV g' y zv with
      | none => rw [e2] at hp4; exact hp4.elim
      | some l2 =>
        rw [e2] at hp4
        have hp4 : Post X.K Wc H0 z m (ifB l2 ((fd ρ M4).bind fun u M => .lift (cmpV g'' zv u) M) (.ok l2 M4)) H4 Q := hp4
        refine h2' H0 z m H4 v2 v4 y zv l2 _ w4 hr4.zt hr4.h0 ((ry.mono (.of_same s3) hr.zm).mono f4 hr.zm) rz e2 fun v5 H5 w5 s5 r5 => ?_
        have hr5 := hr4.go (.of_same s5) (hr4.cells.same s5 hr.zm)
        obtain ⟨b2, rfl, rfl, hp5⟩ := ifB_post r5 (hp4.go (.of_same s5))
        refine ⟨b2, rfl, ?_⟩
        cases b2 with
        | false => exact iteF fun w' => Post.val hp5 hr5 w' (Same.refl H5) r5
        | true =>
          refine iteT (step hr5 hp5 fun uv M6 v6 H6 w6 hr6 f6 ru hp6 => ?_)
          obtain ⟨l3, e3, hp7⟩ := hp6.lift
          exact h2'' H0 z m H6 v4 v6 zv uv l3 _ w6 hr6.zt hr6.h0 ((rz.mono (.of_same s5) hr.zm).mono f6 hr.zm) ru e3 fun v H' w' s r' w'' => hp7.val hr6 w' s r'
theorem s_ite {t : Expr} {ft : Rho → Mem → Res Vl} (ht : PT X t (tT X.K Wc ft)) (ha : PE X a (tE X.K Wc fa)) (hb : PE X b (tE X.K Wc fb)) : PE X (.IfExp t a b pos) (tE X.K Wc (fun ρ M => (ft ρ M).bind fun k M => ifB k (fa ρ M) (fb ρ M))) := by
  refine PE.weak (pe_ifExp ht ha hb) fun σ H Q w ⟨H0, z, m, M, ρ, hr, hp⟩ => ?_
  refine ⟨H0, z, m, M, ρ, hr, ?_⟩
  dsimp only at hp
  cases e : ft ρ M with
  | bad => rw [e] at hp; exact hp
  | exc c M1 => rw [e] at hp; exact hp
  | ok k M1 =>
    rw [e] at hp
    intro v H1 w1 f1 c1 r1
    have hr1 := hr.go f1 c1
    obtain ⟨b, rfl, rfl, hp2⟩ := ifB_post r1 (Post.go hp f1)
    refine ⟨b, rfl, ?_⟩
    cases b with
    | true => exact iteT (step' hr1 hp2 fun v H2 w2 q w' => q)
    | false => exact iteF (step' hr1 hp2 fun v H2 w2 q w' => q)

/-! tests -/
theorem tT_of {f : Rho → Mem → Res Vl} {σ : L2.St} {H : Hp} {Q : Bool → Hp → Prop} (h : tT X.K Wc f σ H Q) : tE X.K Wc f σ H (fun v H' => ∃ b, v = .bl b ∧ Q b H') := h
theorem t_val (h : PE X a (tE X.K Wc fa)) (he : ∀ whole, isTrue a X.env whole = (do let v ← whole; standAt a.pos; holding [v] (truthy v))) : PT X a (tT X.K Wc fa) :=
  PT.weak (pt_val h he) fun σ H Q w q => by
    obtain ⟨H0, z, m, M, ρ, hr, hp⟩ := tT_of q
    exact step' hr hp fun v H1 w1 ⟨b, e, q⟩ => ⟨b, e, fun _ => q⟩
theorem t_cmp {op : CmpOp} {g : Cp} (ho : OpS X (compareOp op) (cmpV g)) (ha : PE X a (tE X.K Wc fa)) (hb : PE X b (tE X.K Wc fb)) (hm : behindInMarks op b = false) :
    PT X (.Compare a [op] [b] pos) (tT X.K Wc (fun ρ M => (fa ρ M).bind fun x M => (fb ρ M).bind fun y M => .lift (cmpV g x y) M)) := by
  obtain ⟨r, h1, h2⟩ := ho.st
  refine PT.weak (pt_cmpR h1 ha hb hm) fun σ H Q w q => ?_
  obtain ⟨H0, z, m, M, ρ, hr, hp⟩ := tT_of q
  refine step hr hp fun x M1 v1 H1 w1 hr1 f1 rx hp1 => ?_
  refine step hr1 hp1 fun y M2 v2 H2 w2 hr2 f2 ry hp2 => ?_
  obtain ⟨l, e, hp3⟩ := hp2.lift
  refine h2 H0 z m H2 v1 v2 x y l _ w2 hr2.zt hr2.h0 (rx.mono f2 hr.zm) ry e fun v H' w' s r' => ?_
  obtain ⟨b, e1, q1⟩ := hp3.val hr2 w' s r'
  exact ⟨b, e1, fun _ => q1⟩
theorem t_chain {op op' : CmpOp} {g g' : Cp} (ho : OpS X (compareOp op) (cmpV g)) (ho' : OpS X (compareOp op') (cmpV g')) (ha : PE X a (tE X.K Wc fa)) (hb : PE X b (tE X.K Wc fb)) (hc : PE X c (tE X.K Wc fc)) (hm : lastMarks [op, op'] [b, c] = false) :
    PT X (.Compare a [op, op'] [b, c] pos) (tT X.K Wc (fun ρ M => (fa ρ M).bind fun x M => (fb ρ M).bind fun y M => (Res.lift (cmpV g x y) M).bind fun k M => ifB k ((fc ρ M).bind fun z M => .lift (cmpV g' y z) M) (.ok k M))) := by
  obtain ⟨r, h1, h2⟩ := ho.st
  obtain ⟨r', h1', h2'⟩ := ho'.st
  refine PT.weak (pt_chain h1 h1' ha hb hc hm) fun σ H Q w q => ?_
  obtain ⟨H0, z, m, M, ρ, hr, hp⟩ := tT_of q
  refine step hr hp fun x M1 v1 H1 w1 hr1 f1 rx hp1 => ?_
  refine step hr1 hp1 fun y M2 v2 H2 w2 hr2 f2 ry hp2 => ?_
  cases e : cmpV g x y with
  | none => rw [e] at hp2; exact hp2.elim
  | some l =>
    rw [e] at hp2
    have hp2 : Post X.K Wc H0 z m (ifB l ((fc ρ M2).bind fun z M => .lift (cmpV g' y z) M) (.ok l M2)) H2 _ := hp2
    refine h2 H0 z m H2 v1 v2 x y l _ w2 hr2.zt hr2.h0 (rx.mono f2 hr.zm) ry e fun v H3 w3 s3 r3 => ?_
    have hr3 := hr2.go (.of_same s3) (hr2.cells.same s3 hr.zm)
    obtain ⟨b, rfl, rfl, hp3⟩ := ifB_post r3 (hp2.go (.of_same s3))
    refine ⟨b, rfl, ?_⟩
    cases b with
    | false =>
      refine iteF ?_
      obtain ⟨b, e1, q1⟩ := Post.val hp3 hr3 w3 (Same.refl H3) r3
      exact ⟨b, e1, fun _ => q1⟩
    | true =>
      refine iteT (step hr3 hp3 fun zv M4 v4 H4 w4 hr4 f4 rz hp4 => ?_)
      obtain ⟨l, e, hp5⟩ := hp4.lift
      refine h2' H0 z m H4 v2 v4 y zv l _ w4 hr4.zt hr4.h0 ((ry.mono (.of_same s3) hr.zm).mono f4 hr.zm) rz e fun v H' w' s r' => ?_
      obtain ⟨b, e1, q1⟩ := hp5.val hr4 w' s r'
      exact ⟨b, e1, fun _ => q1⟩
theorem t_step {σ : L2.St} {H : Hp} {H0 : Hp} {z : Addr → Prop} {m : List Addr} {M : Mem} {ρ : Rho} {f : Rho → Mem → Res Vl} {k : Vl → Mem → Res Vl} {Q : VK} {R : Bool → Hp → Prop} (hr : ERel X.K H0 z m M ρ σ H) (hp : Post X.K Wc H0 z m ((f ρ M).bind k) H Q)
    (hb : ∀ l M1, f ρ M = .ok l M1 → ∃ b, l = .dat (.bool b)) (next : ∀ b M1 H1, Wf X.K H1 → ERel X.K H0 z m M1 ρ σ H1 → Fz m H H1 → Post X.K Wc H0 z m (k (.dat (.bool b)) M1) H1 Q → R b H1) : tT X.K Wc f σ H R := by
  refine ⟨H0, z, m, M, ρ, hr, ?_⟩
  cases e : f ρ M with
  | bad => rw [e] at hp; exact hp
  | exc c M1 => rw [e] at hp; exact hp
  | ok l M1 =>
    rw [e] at hp
    obtain ⟨b, rfl⟩ := hb l M1 e
    intro v H1 w fz c r
    exact ⟨b, Rep.bool_inv r, next b M1 H1 w (hr.go fz c) fz (Post.go hp fz)⟩
theorem ifB_bool {H0 H : Hp} {z : Addr → Prop} {m : List Addr} {f : Res Vl} {x y : Vl → Mem → Res Vl} {k : Vl} {M1 : Mem} {Q : VK} (e : f = .ok k M1) (hp : Post X.K Wc H0 z m (f.bind fun k M => ifB k (x k M) (y k M)) H Q) : ∃ b, k = .dat (.bool b) := by
  subst e
  have hp : Post X.K Wc H0 z m (ifB k (x k M1) (y k M1)) H Q := hp
  unfold ifB at hp
  split at hp
  · exact ⟨_, rfl⟩
  · exact ⟨_, rfl⟩
  · exact hp.elim
theorem t_go {σ : L2.St} {H : Hp} {H0 : Hp} {z : Addr → Prop} {m : List Addr} {M : Mem} {ρ : Rho} {f : Rho → Mem → Res Vl} {Q : Bool → Hp → Prop} (hr : ERel X.K H0 z m M ρ σ H) (hp : Post X.K Wc H0 z m (f ρ M) H (fun v H' => ∃ b, v = .bl b ∧ Q b H')) : tT X.K Wc f σ H (fun b H' => Wf X.K H' → Q b H') := by
  refine ⟨H0, z, m, M, ρ, hr, ?_⟩
  cases e : f ρ M with
  | bad => rw [e] at hp; exact hp
  | exc c M1 => rw [e] at hp; exact hp
  | ok l M1 =>
    rw [e] at hp
    intro v H1 w fz c r
    obtain ⟨b, e1, q⟩ := hp v H1 w fz c r
    exact ⟨b, e1, fun _ => q⟩
theorem t_and {rest : List Expr} (ha : PT X a (tT X.K Wc fa)) (hb : PW X (.BoolOp .And (b :: rest) pos) (tT X.K Wc fb)) : PW X (.BoolOp .And (a :: b :: rest) pos) (tT X.K Wc (fun ρ M => (fa ρ M).bind fun k M => ifB k (fb ρ M) (.ok k M))) := by
  refine ⟨fun whole pins s σ H Q I q => thn ((pw_and ha hb).run whole pins s σ H (fun b H' => Wf X.K H' → Q b H') I ?_) fun b s' ⟨H', I', q'⟩ => ⟨H', I', q' (Wf.of I')⟩⟩
  obtain ⟨H0, z, m, M, ρ, hr, hp⟩ := tT_of q
  dsimp only at hp
  refine t_step hr hp (fun l M1 e => ifB_bool (X := X) (x := fun _ M => fb ρ M) (y := fun k M => .ok k M) e hp) fun b M1 H1 w1 hr1 f1 hp1 => ?_
  cases b with
  | true => exact iteT (t_go hr1 hp1)
  | false =>
    refine iteF fun w' => ?_
    obtain ⟨b, e, q⟩ := Post.val hp1 hr1 w' (Same.refl H1) (.bl false)
    cases e
    exact q
theorem t_or {rest : List Expr} (ha : PT X a (tT X.K Wc fa)) (hb : PW X (.BoolOp .Or (b :: rest) pos) (tT X.K Wc fb)) : PW X (.BoolOp .Or (a :: b :: rest) pos) (tT X.K Wc (fun ρ M => (fa ρ M).bind fun k M => ifB k (.ok k M) (fb ρ M))) := by
  refine ⟨fun whole pins s σ H Q I q => thn ((pw_or ha hb).run whole pins s σ H (fun b H' => Wf X.K H' → Q b H') I ?_) fun b s' ⟨H', I', q'⟩ => ⟨H', I', q' (Wf.of I')⟩⟩
  obtain ⟨H0, z, m, M, ρ, hr, hp⟩ := tT_of q
  dsimp only at hp
  refine t_step hr hp (fun l M1 e => ifB_bool (X := X) (x := fun k M => .ok k M) (y := fun _ M => fb ρ M) e hp) fun b M1 H1 w1 hr1 f1 hp1 => ?_
  cases b with
  | false => exact iteF (t_go hr1 hp1)
  | true =>
    refine iteT fun w' => ?_
    obtain ⟨b, e, q⟩ := Post.val hp1 hr1 w' (Same.refl H1) (.bl true)
    cases e
    exact q
theorem t_not (ha : PT X a (tT X.K Wc fa)) : PT X (.UnaryOp .Not a pos) (tT X.K Wc (fun ρ M => (fa ρ M).bind fun x M => .lift (notV x) M)) := by
  refine PT.weak (pt_not ha) fun σ H Q w q => ?_
  obtain ⟨H0, z, m, M, ρ, hr, hp⟩ := tT_of q
  dsimp only at hp
  refine t_step hr hp (fun l M1 e => ?_) fun b M1 H1 w1 hr1 f1 hp1 => fun w' => ?_
  · rw [e] at hp
    obtain ⟨l', e', _⟩ := Post.lift (show Post X.K Wc H0 z m (.lift (notV l) M1) H _ from hp)
    unfold notV at e'
    split at e'
    · exact ⟨_, rfl⟩
    · cases e'
  · obtain ⟨b', e, q⟩ := Post.val (show Post X.K Wc H0 z m (.ok (.dat (.bool !b)) M1) H1 _ from hp1) hr1 w' (Same.refl H1) (.bl _)
    cases e
    exact q
end
end Co
end

section
set_option Elab.async false
set_option linter.all false
set_option maxRecDepth 100000
/-! lists of arguments, displays, subscripts, slices, built-ins, calls -/
namespace Co
open PySem L2
def tA (K : PySem.W.Frag) (Wc : Nat → Hp → Prop) (f : Rho → Mem → Res (List Vl)) : TA := fun σ H Q => ∃ H0 z m M ρ, ERel K H0 z m M ρ σ H ∧ PostG K Wc z m (fun ls M' H' => ∀ vs, Paired (RepV K H0 z m H') vs ls → Q vs H') (f ρ M) H
section
variable {X : Cx} {Wc : Nat → Hp → Prop} {fa fb fc : Rho → Mem → Res Vl} {a b c : Expr} {es : List Expr} {fs : Rho → Mem → Res (List Vl)} {pos : Pos}
theorem PA.weak {t t' : TA} (h : PA X es t) (hw : ∀ σ H Q, Wf X.K H → t' σ H Q → t σ H (fun v H' => Wf X.K H' → Q v H')) : PA X es t' :=
  ⟨fun pos pins s σ H Q I q => thn (h.run pos pins s σ H _ I (hw σ H Q (Wf.of I) q)) fun u s' ⟨v, H', I', r, q'⟩ => ⟨v, H', I', r, q' (Wf.of I')⟩⟩
theorem PostG.go {α : Type} {R : α → Mem → Hp → Prop} {z : Addr → Prop} {m : List Addr} {r : Res α} {H H' : Hp} (p : PostG X.K Wc z m R r H) (f : Fz m H H') : PostG X.K Wc z m R r H' := by
  cases r with
  | ok vl M' => exact fun H2 w f2 c => p H2 w (f.trans f2) c
  | exc c M' => exact fun H2 w f2 c => p H2 w (f.trans f2) c
  | bad => exact p
theorem stepG {α : Type} {σ : L2.St} {H H0 : Hp} {z : Addr → Prop} {m : List Addr} {M : Mem} {ρ : Rho} {f : Rho → Mem → Res Vl} {k : Vl → Mem → Res α} {R' : α → Mem → Hp → Prop} {R : VK} (hr : ERel X.K H0 z m M ρ σ H) (hp : PostG X.K Wc z m R' ((f ρ M).bind k) H)
    (next : ∀ vl M1 v H1, Wf X.K H1 → ERel X.K H0 z m M1 ρ σ H1 → Fz m H H1 → RepV X.K H0 z m H1 v vl → PostG X.K Wc z m R' (k vl M1) H1 → R v H1) : tE X.K Wc f σ H R := by
  refine ⟨H0, z, m, M, ρ, hr, ?_⟩
  cases e : f ρ M with
  | ok vl M1 =>
    rw [e] at hp
    exact fun v H1 w fz c r => next vl M1 v H1 w (hr.go fz c) fz r (PostG.go (r := k vl M1) hp fz)
  | exc c M1 => rw [e] at hp; exact hp
  | bad => rw [e] at hp; exact hp
theorem stepA {α : Type} {σ : L2.St} {H H0 : Hp} {z : Addr → Prop} {m : List Addr} {M : Mem} {ρ : Rho} {f : Rho → Mem → Res (List Vl)} {k : List Vl → Mem → Res α} {R' : α → Mem → Hp → Prop} {R : List V → Hp → Prop} (hr : ERel X.K H0 z m M ρ σ H) (hp : PostG X.K Wc z m R' ((f ρ M).bind k) H)
    (next : ∀ ls M1 vs H1, Wf X.K H1 → ERel X.K H0 z m M1 ρ σ H1 → Fz m H H1 → Paired (RepV X.K H0 z m H1) vs ls → PostG X.K Wc z m R' (k ls M1) H1 → R vs H1) : tA X.K Wc f σ H R := by
  refine ⟨H0, z, m, M, ρ, hr, ?_⟩
  cases e : f ρ M with
  | ok vl M1 =>
    rw [e] at hp
    exact fun H1 w fz c vs r => next vl M1 vs H1 w (hr.go fz c) fz r (PostG.go (r := k vl M1) hp fz)
  | exc c M1 => rw [e] at hp; exact hp
  | bad => rw [e] at hp; exact hp
theorem post_G {H0 H : Hp} {z : Addr → Prop} {m : List Addr} {r : Res Vl} {Q : VK} : Post X.K Wc H0 z m r H Q ↔ PostG X.K Wc z m (fun l M H' => ∀ v, RepV X.K H0 z m H' v l → Q v H') r H := by
  cases r with
  | ok l M => exact ⟨fun h H' w f c v r => h v H' w f c r, fun h v H' w f c r => h H' w f c v r⟩
  | exc c M => exact Iff.rfl
  | bad => exact Iff.rfl
theorem Paired.mapR {α β : Type} {F G : α → β → Prop} : ∀ {l₁ : List α} {l₂ : List β}, Paired F l₁ l₂ → (∀ a b, F a b → G a b) → Paired G l₁ l₂
  | _, _, .nil, _ => .nil
  | _, _, .cons r t, f => .cons (f _ _ r) (Paired.mapR t f)
theorem a_nil : PA X [] (tA X.K Wc (fun ρ M => .ok [] M)) :=
  PA.weak pa_nil fun σ H Q w ⟨H0, z, m, M, ρ, hr, hp⟩ => fun w' => hp H w' Fz.refl hr.cells [] .nil
theorem a_cons (ha : PE X a (tE X.K Wc fa)) (hs : PA X es (tA X.K Wc fs)) (hp : starEach (a :: es) X.env = (false, eval a X.env) :: starEach es X.env) : PA X (a :: es) (tA X.K Wc (fun ρ M => (fa ρ M).bind fun v M => (fs ρ M).bind fun vs M => .ok (v :: vs) M)) := by
  refine PA.weak (pa_cons ha hs hp) fun σ H Q w ⟨H0, z, m, M, ρ, hr, hp⟩ => ?_
  refine stepG hr hp fun x M1 v1 H1 w1 hr1 f1 rx hp1 => ?_
  refine stepA hr1 hp1 fun ys M2 vs H2 w2 hr2 f2 ry hp2 => fun w' => ?_
  exact hp2 H2 w' Fz.refl hr2.cells _ (.cons (rx.mono f2 hr.zm) ry)
theorem nz_nil {H0 H : Hp} {z : Addr → Prop} {m : List Addr} {vs : List V} {ls : List Vl} {ds : List Dt} (r : Paired (RepV X.K H0 z m H) vs ls) (e : gets ls = some ds) : Reps X.K H z vs ds := reps_of r e
theorem s_tup {x1 : Nat} (hs : PA X es (tA X.K Wc fs)) (hl : ∀ ρ M ls M', fs ρ M = .ok ls M' → ls.length ≤ sizeLine) : PE X (.Tuple es x1 pos) (tE X.K Wc (fun ρ M => (fs ρ M).bind fun vs M => .lift ((gets vs).map fun ds => .dat (.tuple ds)) M)) := by
  refine PE.weak (pe_tup hs) fun σ H Q w ⟨H0, z, m, M, ρ, hr, hp⟩ => ?_
  have hp := post_G.mp hp
  refine ⟨H0, z, m, M, ρ, hr, ?_⟩
  dsimp only at hp
  cases e : fs ρ M with
  | exc c M1 => rw [e] at hp; exact hp
  | bad => rw [e] at hp; exact hp
  | ok ls M1 =>
    rw [e] at hp
    intro H1 w1 f1 c1 vs r1
    have hr1 := hr.go f1 c1
    have hp : PostG X.K Wc z m _ (Res.lift ((gets ls).map fun ds => Vl.dat (.tuple ds)) M1) H := hp
    cases e2 : gets ls with
    | none => rw [e2] at hp; exact hp.elim
    | some ds =>
      rw [e2] at hp
      refine ⟨by rw [r1.length]; exact hl _ _ _ _ e, fun p hp' w' => ?_⟩
      exact hp _ w' (f1.trans (Fz.new hp')) (c1.same (same_new hp') hr.zm) _ (new_tup hr1.zt hp' (reps_of r1 e2))
theorem s_lst (hs : PA X es (tA X.K Wc fs)) (hl : ∀ ρ M ls M', fs ρ M = .ok ls M' → ls.length ≤ sizeLine) : PE X (.List es pos) (tE X.K Wc (fun ρ M => (fs ρ M).bind fun vs M => .lift ((gets vs).map fun ds => .nw ds) M)) := by
  refine PE.weak (pe_lst hs) fun σ H Q w ⟨H0, z, m, M, ρ, hr, hp⟩ => ?_
  have hp := post_G.mp hp
  refine ⟨H0, z, m, M, ρ, hr, ?_⟩
  dsimp only at hp
  cases e : fs ρ M with
  | exc c M1 => rw [e] at hp; exact hp
  | bad => rw [e] at hp; exact hp
  | ok ls M1 =>
    rw [e] at hp
    intro H1 w1 f1 c1 vs r1
    have hr1 := hr.go f1 c1
    have hp : PostG X.K Wc z m _ (Res.lift ((gets ls).map fun ds => Vl.nw ds) M1) H := hp
    cases e2 : gets ls with
    | none => rw [e2] at hp; exact hp.elim
    | some ds =>
      rw [e2] at hp
      refine ⟨by rw [r1.length]; exact hl _ _ _ _ e, fun p hp' w' => ?_⟩
      exact hp _ w' (f1.trans (Fz.new hp')) (c1.same (same_new hp') hr.zm) _ (new_nw w' hr1.zt hr1.h0 hp' (reps_of r1 e2))
/-! subscripts -/
theorem atI_reps {H : Hp} {z : Addr → Prop} {xs : List V} {ds : List Dt} {i : Int} {d : Dt} (r : Reps X.K H z xs ds) (e : at? ds i = some d) : ∃ v, atI xs i = some v ∧ Rep X.K H z v d := by
  simp only [at?, atI, Option.bind_eq_some_iff] at e
  obtain ⟨j, h1, h2⟩ := e
  obtain ⟨v, h3, h4⟩ := r.get h2
  refine ⟨v, ?_, h4⟩
  simp only [atI, Option.bind_eq_some_iff]
  rw [r.length]
  exact ⟨j, h1, h3⟩
theorem atI_ints {ns : List Int} {i k : Int} (e : at? ns i = some k) : atI (ns.map V.int) i = some (.int k) := by
  simp only [at?, atI, Option.bind_eq_some_iff] at e
  obtain ⟨j, h1, h2⟩ := e
  simp only [atI, Option.bind_eq_some_iff, List.length_map]
  exact ⟨j, h1, by rw [List.getElem?_map, h2]; rfl⟩
theorem ix_dict (hu : X.A.units + 1 < cLine) : IxR X (fun x y H Q => ∃ a v, x = .ref a ∧ DGet H a y (some v) ∧ Q v H) := by
  intro value slice pins s σ H x y v u Q I rx ry ⟨a, z, ex, g, q⟩ hs
  subst ex
  cases rx
  exact PyProof.Rows.tail_any (dict_typeIs I g) PySem.F.slot_dict_getitem.lookup (d_getItem hu I g ry fun w' s3 I3 rw' => ⟨z, H, I3, rw', q⟩) hs
theorem dict_of {K : PySem.W.Frag} {H0 H : Hp} {z : Addr → Prop} {m : List Addr} {v : V} {l : Vl} {kvs : List (Dt × Dt)} (r : RepV K H0 z m H v l) (e : dict? l = some kvs) : Rep K H z v (.dict kvs) := by
  unfold dict? at e
  split at e
  · cases e; exact r
  · cases e; exact RepV.get r rfl
  · cases e
theorem s_idx (hu : X.A.units + 1 < cLine) (ha : PE X a (tE X.K Wc fa)) (hb : PE X b (tE X.K Wc fb)) (hx : PlainIx b) : PE X (.Subscript a b pos) (tE X.K Wc (fun ρ M => (fa ρ M).bind fun x M => (fb ρ M).bind fun y M => .lift (idxV M x y) M)) := by
  refine PE.weak (pe_ix (ix_seq.or (ix_dict hu)) ha hb hx) fun σ H Q w ⟨H0, z, m, M, ρ, hr, hp⟩ => ?_
  refine step hr hp fun x M1 v1 H1 w1 hr1 f1 rx hp1 => ?_
  refine step hr1 hp1 fun y M2 v2 H2 w2 hr2 f2 ry hp2 => ?_
  obtain ⟨l, e, hp3⟩ := hp2.lift
  have rx2 := rx.mono f2 hr.zm
  unfold idxV at e
  split at e
  · rename_i kvs ed
    simp only [Option.bind_eq_some_iff, Option.map_eq_some_iff] at e
    obtain ⟨o, ⟨k, e1, e2⟩, d, rfl, rfl⟩ := e
    obtain ⟨p, hp, _, g⟩ := (dict_of rx2 ed).dict_inv
    obtain ⟨q, g1, g2⟩ := g v2 k _ (ry.get e1) e2
    cases q with
    | none => exact g2.elim
    | some q => exact .inr ⟨p, q, hp, g1, fun w' => hp3.val hr2 w' (Same.refl H2) g2⟩
  split at e
  · rename_i i
    have e2 := Rep.int_inv ry
    subst e2
    split at e
    · rename_i ns
      simp only [Option.map_eq_some_iff] at e
      obtain ⟨k, e, rfl⟩ := e
      obtain ⟨p, rfl, h1⟩ := rx2
      exact .inl (.inl ⟨p, _, i, _, rfl, rfl, h1.sql, atI_ints e, fun w' => hp3.val hr2 w' (Same.refl H2) (.int k)⟩)
    · simp only [Option.map_eq_some_iff] at e
      obtain ⟨k, e, rfl⟩ := e
      obtain ⟨p, xs, rfl, h1, n1, r1⟩ := Rep.list_inv rx2
      obtain ⟨v, h2, h3⟩ := atI_reps r1 e
      exact .inl (.inl ⟨p, _, i, v, rfl, rfl, .of h1, h2, fun w' => hp3.val hr2 w' (Same.refl H2) h3⟩)
    · simp only [Option.map_eq_some_iff] at e
      obtain ⟨k, e, rfl⟩ := e
      obtain ⟨p, xs, rfl, h1, n1, r1⟩ := Rep.list_inv (RepV.get rx2 rfl)
      obtain ⟨v, h2, h3⟩ := atI_reps r1 e
      exact .inl (.inl ⟨p, _, i, v, rfl, rfl, .of h1, h2, fun w' => hp3.val hr2 w' (Same.refl H2) h3⟩)
    · simp only [Option.map_eq_some_iff] at e
      obtain ⟨k, e, rfl⟩ := e
      obtain ⟨p, xs, rfl, h1, n1, r1⟩ := Rep.tup_inv rx2
      obtain ⟨v, h2, h3⟩ := atI_reps r1 e
      exact .inl (.inr (.inl ⟨p, _, i, v, rfl, rfl, .of h1, h2, fun w' => hp3.val hr2 w' (Same.refl H2) h3⟩))
    · rename_i n _
      split at e
      · rename_i xs hM
        simp only [Option.map_eq_some_iff] at e
        obtain ⟨k, e, rfl⟩ := e
        obtain ⟨p, rfl, hm⟩ := rx2
        obtain ⟨vs, h1, r1, _⟩ := hr2.cells.2.2 n p xs hm hM
        obtain ⟨v, h2, h3⟩ := atI_reps r1 e
        exact .inl (.inl ⟨p, _, i, v, rfl, rfl, .of h1, h2, fun w' => hp3.val hr2 w' (Same.refl H2) h3⟩)
      · cases e
    · cases e
  · cases e
/-! slices -/
def tP (Kf : PySem.W.Frag) (Wc : Nat → Hp → Prop) (fl : Bool) (f : Rho → Mem → Res Vl) : TO := fun σ H Q => ∃ H0 z m M ρ, ERel Kf H0 z m M ρ σ H ∧ PostG Kf Wc z m (fun l _ H' => ∃ i, ends? fl l = some i ∧ Q i H') (f ρ M) H
theorem PO.weak {o : Option Expr} {t t' : TO} (h : PO X o t) (hw : ∀ σ H Q, Wf X.K H → t' σ H Q → t σ H (fun v H' => Wf X.K H' → Q v H')) : PO X o t' :=
  ⟨fun pins s σ H Q I q => thn (h.run pins s σ H _ I (hw σ H Q (Wf.of I) q)) fun u s' ⟨v, H', I', r, q'⟩ => ⟨v, H', I', r, q' (Wf.of I')⟩⟩
theorem p_none {d : Dt} (cf : Nat → List Vl → Mem → Res Vl) : PO X none (tP X.K Wc false (ev cf (.cst d))) :=
  PO.weak po_none fun σ H Q w ⟨H0, z, m, M, ρ, hr, hp⟩ => by
    obtain ⟨i, e, q⟩ := hp H w Fz.refl hr.cells
    cases e
    exact fun _ => q
theorem p_some (ha : PE X a (tE X.K Wc fa)) : PO X (some a) (tP X.K Wc true fa) :=
  PO.weak (po_some ha) fun σ H Q w ⟨H0, z, m, M, ρ, hr, hp⟩ => by
    refine ⟨H0, z, m, M, ρ, hr, ?_⟩
    cases e : fa ρ M with
    | exc c M1 => rw [e] at hp; exact hp
    | bad => rw [e] at hp; exact hp
    | ok l M1 =>
      rw [e] at hp
      intro v H1 w1 f1 c1 r1
      obtain ⟨i, e1, q⟩ := hp H1 w1 f1 c1
      cases l with
      | dat d =>
        cases d with
        | int j => cases e1; exact ⟨j, Rep.int_inv r1, fun _ => q⟩
        | _ => cases e1
      | _ => cases e1
theorem stepP {α : Type} {σ : L2.St} {H H0 : Hp} {z : Addr → Prop} {m : List Addr} {M : Mem} {ρ : Rho} {fl : Bool} {f : Rho → Mem → Res Vl} {k : Option Int → Mem → Res α} {R' : α → Mem → Hp → Prop} {R : Option Int → Hp → Prop} (hr : ERel X.K H0 z m M ρ σ H)
    (hp : PostG X.K Wc z m R' ((f ρ M).bind fun l M => (Res.lift (ends? fl l) M).bind k) H)
    (next : ∀ i M1 H1, Wf X.K H1 → ERel X.K H0 z m M1 ρ σ H1 → Fz m H H1 → PostG X.K Wc z m R' (k i M1) H1 → R i H1) : tP X.K Wc fl f σ H R := by
  refine ⟨H0, z, m, M, ρ, hr, ?_⟩
  cases e : f ρ M with
  | ok l M1 =>
    rw [e] at hp
    have hp : PostG X.K Wc z m R' ((Res.lift (ends? fl l) M1).bind k) H := hp
    cases hi : ends? fl l with
    | none => rw [hi] at hp; exact hp.elim
    | some i =>
      rw [hi] at hp
      exact fun H1 w fz c => ⟨i, hi, next i M1 H1 w (hr.go fz c) fz (PostG.go (r := k i M1) hp fz)⟩
  | exc c M1 => rw [e] at hp; exact hp
  | bad => rw [e] at hp; exact hp
theorem cut_reps {H : Hp} {z : Addr → Prop} {xs : List V} {ds : List Dt} (lo hi : Option Int) (r : Reps X.K H z xs ds) : Reps X.K H z (cutV xs lo hi) (cut ds lo hi) := by
  unfold cutV cut
  rw [r.length]
  exact (r.drop _).take _
theorem s_slc {lo hi : Option Expr} {p2 : Pos} {fl fh : Bool} (ha : PE X a (tE X.K Wc fa)) (hl : PO X lo (tP X.K Wc fl fb)) (hh : PO X hi (tP X.K Wc fh fc)) : PE X (.Subscript a (.Slice lo hi none p2) pos)
    (tE X.K Wc (fun ρ M => (fa ρ M).bind fun x M => (fb ρ M).bind fun y M => (Res.lift (ends? fl y) M).bind fun i M => (fc ρ M).bind fun u M => (Res.lift (ends? fh u) M).bind fun j M => .lift (slcV x i j) M)) := by
  refine PE.weak (pe_slice (sl_list.or sl_tupA) ha hl hh) fun σ H Q w ⟨H0, z, m, M, ρ, hr, hp⟩ => ?_
  have hp := post_G.mp hp
  refine stepG hr hp fun x M1 v1 H1 w1 hr1 f1 rx hp1 => ?_
  refine stepP hr1 hp1 fun i M2 H2 w2 hr2 f2 hp2 => ?_
  refine stepP hr2 hp2 fun j M3 H3 w3 hr3 f3 hp3 => ?_
  have rx3 := (rx.mono f2 hr.zm).mono f3 hr.zm
  have hp3 := post_G.mpr hp3
  obtain ⟨l, e, hp4⟩ := hp3.lift
  have lst : ∀ xs, Rep X.K H3 z v1 (.list xs) → l = .nw (cut xs i j) → (rSlL X.K v1 i j H3 fun v H' => Wf X.K H' → Q v H') := fun xs r e => by
    subst e
    obtain ⟨p, vs, rfl, h1, n1, r1⟩ := r.list_inv
    exact ⟨p, vs, rfl, .of h1, fun q hq w' => hp4.val hr3 w' (same_new hq) (new_nw w' hr3.zt hr3.h0 hq (cut_reps i j r1))⟩
  unfold slcV at e
  split at e
  · cases e; exact .inl (lst _ rx3 rfl)
  · cases e; exact .inl (lst _ (RepV.get rx3 rfl) rfl)
  · cases e
    obtain ⟨p, vs, rfl, h1, n1, r1⟩ := Rep.tup_inv rx3
    refine .inr ⟨p, vs, rfl, .of h1, fun ⟨g1, g2⟩ w' => hp4.val hr3 w' (Same.refl H3) (.tup h1 n1 ?_), fun _ q hq w' => hp4.val hr3 w' (same_new hq) (new_tup hr3.zt hq (cut_reps i j r1))⟩
    have := cut_reps i j r1
    unfold cutV at this
    rw [g1, g2] at this
    simpa using this
  · cases e
theorem s_rev {k : Nat} {p1 p2 p3 : Pos} (ha : PE X a (tE X.K Wc fa)) : PE X (.Subscript a (.Slice none none (some (.UnaryOp .USub (.Constant (.int 1) k p1) p2)) p3) pos) (tE X.K Wc (fun ρ M => (fa ρ M).bind fun x M => .lift (revV x) M)) := by
  refine PE.weak (pe_revL ha) fun σ H Q w ⟨H0, z, m, M, ρ, hr, hp⟩ => ?_
  refine step hr hp fun x M1 v1 H1 w1 hr1 f1 rx hp1 => ?_
  obtain ⟨l, e, hp2⟩ := hp1.lift
  unfold revV at e
  split at e
  · cases e
    obtain ⟨p, vs, rfl, h1, n1, r1⟩ := Rep.list_inv rx
    exact ⟨p, vs, rfl, .of h1, fun q hq w' => hp2.val hr1 w' (same_new hq) (new_nw w' hr1.zt hr1.h0 hq r1.reverse)⟩
  · cases e
    obtain ⟨p, vs, rfl, h1, n1, r1⟩ := Rep.list_inv (RepV.get rx rfl)
    exact ⟨p, vs, rfl, .of h1, fun q hq w' => hp2.val hr1 w' (same_new hq) (new_nw w' hr1.zt hr1.h0 hq r1.reverse)⟩
  · cases e
/-! built-ins -/
theorem s_bi {f : Value} {e : Expr} {g : List Vl → Option Vl} (mk : ∀ {r : List V → Hp → VK → Prop} {t : TA}, CallR X f r → PA X es t → PE X e (tCB r t)) (ho : CallS X f g) (hs : PA X es (tA X.K Wc fs)) : PE X e (tE X.K Wc (fun ρ M => (fs ρ M).bind fun vs M => .lift (g vs) M)) := by
  obtain ⟨r, h1, h2⟩ := ho.ex
  refine PE.weak (mk h1 hs) fun σ H Q w ⟨H0, z, m, M, ρ, hr, hp⟩ => ?_
  have hp := post_G.mp hp
  refine stepA hr hp fun ls M1 vs H1 w1 hr1 f1 rx hp1 => ?_
  obtain ⟨l, e, hp2⟩ := (post_G.mpr hp1).lift
  exact h2 H0 z m H1 vs ls l Q w1 hr1.zt hr1.h0 rx e fun v H' w' s r' => hp2.val hr1 w' s r'
theorem ty_ok {H : Hp} {z : Addr → Prop} {v : V} {d : Dt} (r : Rep X.K H z v d) (hd : ∀ kvs, d ≠ .dict kvs) : TyX X.K H v (.type (tyName d)) := by
  cases r with
  | non => exact .base .non
  | bl b => exact .base (.bl b)
  | int i => exact .base (.int i)
  | str s => exact .base (.str s)
  | lst h n r => exact .base (.lst h)
  | tup h n r => exact .base (.tup h)
  | dic _ _ _ => exact absurd rfl (hd _)
  | dit _ _ _ => exact absurd rfl (hd _)
theorem kit_all {K : PySem.W.Frag} {t : String} (ht : t = "int" ∨ t = "bool" ∨ t = "tuple" ∨ t = "list" ∨ t = "str") (d : Dt) : PySem.W.kitOne K (.type (tyName d)) (.type t) = some (tyName d == t || (tyName d == "bool" && t == "int")) := by
  refine kit_ty ?_
  rcases ht with rfl | rfl | rfl | rfl | rfl <;> cases d <;> (simp only [tyName]; decide +kernel)
theorem s_isi {t : String} {p pu : Pos} {u : Str} (ht : t = "int" ∨ t = "bool" ∨ t = "tuple" ∨ t = "list" ∨ t = "str") (hg : Gl X "isinstance") (hm : X.mg "isinstance" = none) (hgu : Gl X u) (hmu : X.mg u = none) (hu : bootBuiltins u = some (.type t)) (hun : u ≠ "__name__") (hud : (u == ("__debug__" : Str)) = false)
    (ha : PE X a (tE X.K Wc fa)) (hs : starEach [a, .Name u pu] X.env = (false, eval a X.env) :: starEach [.Name u pu] X.env) : PE X (.Call (.Name "isinstance" p) [a, .Name u pu] [] pos) (tE X.K Wc (fun ρ M => (fa ρ M).bind fun v M => .lift ((gets [v]).bind (isTy t)) M)) := by
  refine PE.weak (pe_callB call_isi hg hm (by decide +kernel) (pa_cons ha (pa_cons (pe_bltn (v := .ty t) hgu hmu hu rfl hun hud) pa_nil) hs) (by decide) (by decide) hs) fun σ H Q w ⟨H0, z, m, M, ρ, hr, hp⟩ => ?_
  refine step hr hp fun x M1 v1 H1 w1 hr1 f1 rx hp1 => ?_
  obtain ⟨l, e, hp2⟩ := hp1.lift
  simp only [gets] at e
  cases ex : x.get with
  | none => rw [ex] at e; cases e
  | some d =>
    rw [ex] at e
    have hd : ∀ kvs, d ≠ .dict kvs := by
      rintro kvs rfl
      cases e
    have e2 : isTy t [d] = some (.dat (.bool (tyName d == t || (tyName d == "bool" && t == "int")))) := by
      cases d <;> first | rfl | exact absurd rfl (hd _)
    have e : isTy t [d] = some l := e
    rw [e2] at e
    cases e
    exact ⟨v1, .ty t, _, _, _, rfl, .ty t, ty_ok (rx.get ex) hd, kit_all ht d, fun w' => hp2.val hr1 w' (Same.refl H1) (.bl _)⟩
end
end Co
end

section
set_option Elab.async false
set_option linter.all false
set_option maxRecDepth 100000
/-! calls, what is walked, comprehensions -/
namespace Co
open PySem L2
/-- the promise of a def that means f -/
def spOf (K : PySem.W.Frag) (cls : Nat → Addr) (np : Nat) (f : List Vl → Mem → Res Vl) : Sp := fun vs H Q E => vs.length = np ∧ ∃ z m M as, (∀ a ∈ m, z a) ∧ (∀ a, z a → (H a).isSome) ∧ (∀ a, z a → ∀ xs, H a ≠ some (.tup xs)) ∧ Cells K z m M H ∧ Paired (RepV K H z m H) vs as ∧
  Post K (fun j H' => E (.ref (cls j)) none H') H z m (f as M) H Q
def WE (cls : Nat → Addr) (Wc : Nat → Hp → Prop) : XK := fun c d H => ∃ j, c = .ref (cls j) ∧ d = none ∧ Wc j H
section
variable {X : Cx} {Wc : Nat → Hp → Prop} {fa fb fc : Rho → Mem → Res Vl} {a b c : Expr} {es : List Expr} {fs : Rho → Mem → Res (List Vl)} {pos : Pos}
theorem nrm_rep {K : PySem.W.Frag} {H0 H1 H : Hp} {z : Addr → Prop} {m : List Addr} {v : V} {l : Vl} (r : RepV K H0 z m H v l) : RepV K H1 z m H v l.nrm := by
  cases l with
  | nw xs => exact RepV.get r rfl
  | nwd t kvs => exact RepV.get (d := .dict (mkD t kvs)) r rfl
  | dat d => exact r
  | cell n => exact r
  | scr ns => exact r
  | _ => exact r.elim
theorem nrm_reps {K : PySem.W.Frag} {H0 H1 H : Hp} {z : Addr → Prop} {m : List Addr} : ∀ {vs : List V} {ls : List Vl}, Paired (RepV K H0 z m H) vs ls → Paired (RepV K H1 z m H) vs (ls.map Vl.nrm)
  | _, _, .nil => .nil
  | _, _, .cons r t => .cons (nrm_rep r) (nrm_reps t)
theorem RepV.old {K : PySem.W.Frag} {H0 H1 H : Hp} {z : Addr → Prop} {m : List Addr} {v : V} {l : Vl} (h : ∀ a, (H0 a).isSome → (H1 a).isSome) (r : RepV K H1 z m H v l) : RepV K H0 z m H v l := by
  cases l with
  | nw xs =>
    obtain ⟨p, vs, e, h1, h2, h3, h4⟩ := r
    exact ⟨p, vs, e, not_0 h h1, h2, h3, h4⟩
  | nwd t kvs =>
    obtain ⟨p, e, h1, h2, o⟩ := r
    exact ⟨p, e, not_0 h h1, h2, o⟩
  | dat d => exact r
  | cell n => exact r
  | scr ns => exact r
  | _ => exact r.elim
theorem call_rd {cls : Nat → Addr} {np : Nat} {cf : List Vl → Mem → Res Vl} (hlen : ∀ as M, as.length ≠ np → cf as M = .bad) {σ : L2.St} {H : Hp} {Q : VK} (w : Wf X.K H)
    (q : tE X.K Wc (fun ρ M => (fs ρ M).bind fun vs M => cf (vs.map Vl.nrm) M) σ H Q) : tCall (spOf X.K cls np cf) [] (WE cls Wc) (tA X.K Wc fs) σ H (fun v H' => Wf X.K H' → Q v H') := by
  obtain ⟨H0, z, m, M, ρ, hr, hp⟩ := q
  have hp := post_G.mp hp
  refine stepA hr hp fun ls M1 vs H1 w1 hr1 f1 rx hp1 => ?_
  have hp1 := post_G.mpr hp1
  rw [List.append_nil]
  refine ⟨?_, z, m, M1, ls.map Vl.nrm, hr.zm, hr1.zt, hr1.nt, hr1.cells, nrm_reps rx, ?_⟩
  · rw [rx.length]
    refine Classical.byContradiction fun hn => ?_
    rw [hlen (ls.map Vl.nrm) M1 (by simpa using hn)] at hp1
    exact hp1
  · cases e : cf (ls.map Vl.nrm) M1 with
    | bad => rw [e] at hp1; exact hp1
    | exc j M2 => rw [e] at hp1; exact fun H' w' f' c' => ⟨j, rfl, rfl, hp1 H' w' f' c'⟩
    | ok l M2 => rw [e] at hp1; exact fun v H' w' f' c' r' w'' => hp1 v H' w' f' c' (r'.old hr1.h0)
theorem plain_star {e : Expr} (h : plain e = true) (env : Env) : starEach (e :: es) env = (false, eval e env) :: starEach es env := by cases e <;> first | rfl | cases h
theorem plain_any : ∀ {es : List Expr}, (∀ e ∈ es, plain e = true) → ∀ env pos, (backTo pos (starEach es env)).any (·.1) = false
  | [], _, _, _ => rfl
  | e :: es, h, env, pos => by
    rw [plain_star (h e List.mem_cons_self)]
    show (false || (backTo pos (starEach es env)).any (·.1)) = false
    rw [plain_any (fun x hx => h x (List.mem_cons_of_mem _ hx)), Bool.or_self]
theorem s_call {cls : Nat → Addr} {ps : List Str} {cf : List Vl → Mem → Res Vl} {x : Str} {p : Pos} {k : Nat} {fa : Addr} {fd : FuncData} (F : FnOk X.prog X.w X.K X.mg X.base (CX X.prog X.w) k fa fd ps (spOf X.K cls ps.length cf)) (hlen : ∀ as M, as.length ≠ ps.length → cf as M = .bad)
    (hr : Room k X.A) (hg : Gl X x) (hm : X.mg x = some (.ref fa)) (hk : PySem.W.keepIn X.K (.ref fa) = true) (hb : Binds X.K fd ps []) (hx : Passes (CX X.prog X.w) X (WE cls Wc)) (hd : (x == ("__debug__" : Str)) = false) (hpl : ∀ e ∈ es, plain e = true) (hne : es ≠ []) (hs : PA X es (tA X.K Wc fs)) :
    PE X (.Call (.Name x p) es [] pos) (tE X.K Wc (fun ρ M => (fs ρ M).bind fun vs M => cf (vs.map Vl.nrm) M)) := by
  cases es with
  | cons e es =>
    exact PE.weak (pe_call F hr hg hm hk hb .nil hx hs hd (plain_star (hpl e List.mem_cons_self) _) (plain_any (fun x hx => hpl x (List.mem_cons_of_mem _ hx)) _ _)) fun σ H Q w q => call_rd hlen w q
  | nil => exact absurd rfl hne
theorem s_call0 {cls : Nat → Addr} {ps : List Str} {cf : List Vl → Mem → Res Vl} {x : Str} {p : Pos} {k : Nat} {fa : Addr} {fd : FuncData} (F : FnOk X.prog X.w X.K X.mg X.base (CX X.prog X.w) k fa fd ps (spOf X.K cls ps.length cf)) (hlen : ∀ as M, as.length ≠ ps.length → cf as M = .bad)
    (hr : Room k X.A) (hg : Gl X x) (hm : X.mg x = some (.ref fa)) (hk : PySem.W.keepIn X.K (.ref fa) = true) (hb : Binds X.K fd ps []) (hx : Passes (CX X.prog X.w) X (WE cls Wc)) (hd : (x == ("__debug__" : Str)) = false) :
    PE X (.Call (.Name x p) [] [] pos) (tE X.K Wc (fun ρ M => (Res.ok ([] : List Vl) M).bind fun vs M => cf (vs.map Vl.nrm) M)) := by
  refine PE.weak (pe_call0 F hr hg hm hk hb .nil hx hd) fun σ H Q w q => ?_
  have h := call_rd (cls := cls) (fs := fun ρ M => .ok [] M) hlen w q
  obtain ⟨H0, z, m, M, ρ, hr, hp⟩ := h
  exact hp H w Fz.refl hr.cells [] .nil

/-! ### what is walked -/
def kin : Bool → Kin
  | false => kinL
  | true => kinT
def sqO : Bool → List V → HO
  | false, xs => .lst xs
  | true, xs => .tup xs
theorem kin_of {K : PySem.W.Frag} {H : Hp} {a : Addr} {vs : List V} {t : Bool} (h : H a = some (sqO t vs)) : (kin t).Sq K H a vs := by
  cases t with
  | false => exact SqL.of h
  | true => exact SqT.of h
inductive Src (K : PySem.W.Frag) (H : Hp) (z : Addr → Prop) : L2.It → List Dt → Prop where
  | lst {a : Addr} {vs : List V} {ds : List Dt} : H a = some (.lst vs) → ¬ z a → Reps K H z vs ds → Src K H z (Itl K a) ds
  | tup {a : Addr} {vs : List V} {ds : List Dt} : H a = some (.tup vs) → ¬ z a → Reps K H z vs ds → Src K H z (Itt K a) ds
  | rng (lo : Int) (n : Nat) : Src K H z (Itr lo n) (rngs lo n)
  | enu {t : Bool} {a : Addr} {vs : List V} {ds : List Dt} : H a = some (sqO t vs) → ¬ z a → Reps K H z vs ds → Src K H z (IteK (kin t) K a) (enuFrom 0 ds)
  | zip {t u : Bool} {a b : Addr} {vs us : List V} {ds es : List Dt} : H a = some (sqO t vs) → ¬ z a → Reps K H z vs ds → H b = some (sqO u us) → ¬ z b → Reps K H z us es → Src K H z (ItzK (kin t) (kin u) K a b) ((ds.zip es).map fun p => .tuple [p.1, p.2])
theorem Src.mono {K : PySem.W.Frag} {H H' : Hp} {z z' : Addr → Prop} {J : L2.It} {ds : List Dt} (v : Mv K H H' z z') : Src K H z J ds → Src K H' z' J ds
  | .lst h n r => .lst (v.keep _ _ h n).1 (v.keep _ _ h n).2 (Reps.mono v r)
  | .tup h n r => .tup (v.keep _ _ h n).1 (v.keep _ _ h n).2 (Reps.mono v r)
  | .rng lo n => .rng lo n
  | .enu h n r => .enu (v.keep _ _ h n).1 (v.keep _ _ h n).2 (Reps.mono v r)
  | .zip h n r h' n' r' => .zip (v.keep _ _ h n).1 (v.keep _ _ h n).2 (Reps.mono v r) (v.keep _ _ h' n').1 (v.keep _ _ h' n').2 (Reps.mono v r')
theorem enuFrom_get : ∀ (ds : List Dt) (k : Int) (i : Nat), (enuFrom k ds)[i]? = (ds[i]?).map fun d => .tuple [.int (k + i), d]
  | [], k, i => by simp [enuFrom]
  | d :: ds, k, 0 => by simp [enuFrom]
  | d :: ds, k, i + 1 => by
    simp only [enuFrom, List.getElem?_cons_succ]
    rw [enuFrom_get ds (k + 1) i]
    congr 2
    funext d
    rw [show k + 1 + (i : Int) = k + ((i + 1 : Nat) : Int) by omega]
theorem enuFrom_len : ∀ (ds : List Dt) (k : Int), (enuFrom k ds).length = ds.length
  | [], k => rfl
  | d :: ds, k => by simp [enuFrom, enuFrom_len ds (k + 1)]
theorem rngs_get {lo : Int} {n i : Nat} {d : Dt} (h : (rngs lo n)[i]? = some d) : i < n ∧ d = .int (lo + i) := by
  unfold rngs at h
  rw [List.getElem?_map] at h
  cases e : (List.range n)[i]? with
  | none => rw [e] at h; cases h
  | some j =>
    rw [e] at h
    cases h
    have hi : i < n := by have := (List.getElem?_eq_some_iff.mp e).1; simpa using this
    rw [List.getElem?_range hi] at e
    cases e
    exact ⟨hi, rfl⟩
theorem Src.go {K : PySem.W.Frag} {H : Hp} {z : Addr → Prop} {J : L2.It} {ds : List Dt} {i : Nat} {d : Dt} (zt : ∀ a, z a → (H a).isSome) (s : Src K H z J ds) (e : ds[i]? = some d) : J.go i H ∧ ∀ x H', J.yld i H x H' → Same H H' ∧ Rep K H' z x d := by
  cases s with
  | lst h n r =>
    obtain ⟨v, h1, h2⟩ := r.get e
    refine ⟨⟨_, v, .of h, h1⟩, fun x H' ⟨e1, e2⟩ => ?_⟩
    subst e1
    have := e2 _ (.of h)
    rw [h1] at this
    cases this
    exact ⟨Same.refl _, h2⟩
  | tup h n r =>
    obtain ⟨v, h1, h2⟩ := r.get e
    refine ⟨⟨_, v, .of h, h1⟩, fun x H' ⟨e1, e2⟩ => ?_⟩
    subst e1
    have := e2 _ (.of h)
    rw [h1] at this
    cases this
    exact ⟨Same.refl _, h2⟩
  | rng lo n =>
    obtain ⟨h1, rfl⟩ := rngs_get e
    refine ⟨h1, fun x H' ⟨e1, e2⟩ => ?_⟩
    subst e1 e2
    exact ⟨Same.refl _, .int _⟩
  | enu h n r =>
    rw [enuFrom_get] at e
    simp only [Option.map_eq_some_iff] at e
    obtain ⟨d', e, rfl⟩ := e
    obtain ⟨v, h1, h2⟩ := r.get e
    refine ⟨⟨_, v, kin_of h, h1⟩, fun x H' ⟨T, y, e0, e1, e2, e3⟩ => ?_⟩
    subst e0 e2
    have := e3 _ (kin_of h)
    rw [h1] at this
    cases this
    have hs := same_new (o := .tup [.int (i : Nat), v]) e1
    refine ⟨hs, .tup upd_same (not_z zt e1) ?_⟩
    rw [show (0 : Int) + (i : Int) = (i : Nat) by omega]
    exact .cons (.int _) (.cons (Rep.mono (Mv.same hs) h2) .nil)
  | zip h n r h' n' r' =>
    rw [List.getElem?_map] at e
    simp only [Option.map_eq_some_iff] at e
    obtain ⟨⟨d1, d2⟩, e, rfl⟩ := e
    obtain ⟨g1, g2⟩ := List.getElem?_zip_eq_some.mp e
    obtain ⟨v, h1, h2⟩ := r.get g1
    obtain ⟨v', h1', h2'⟩ := r'.get g2
    refine ⟨⟨_, _, v, v', kin_of h, kin_of h', h1, h1'⟩, fun x H' ⟨T, y, y', e0, e1, e2, e3, e4⟩ => ?_⟩
    subst e0 e2
    have q1 := e3 _ (kin_of h)
    have q2 := e4 _ (kin_of h')
    rw [h1] at q1
    rw [h1'] at q2
    cases q1
    cases q2
    have hs := same_new (o := .tup [v, v']) e1
    exact ⟨hs, .tup upd_same (not_z zt e1) (.cons (Rep.mono (Mv.same hs) h2) (.cons (Rep.mono (Mv.same hs) h2') .nil))⟩
theorem Src.stop {K : PySem.W.Frag} {H : Hp} {z : Addr → Prop} {J : L2.It} {ds : List Dt} {i : Nat} (s : Src K H z J ds) (e : ds.length = i) : J.stop i H := by
  cases s with
  | lst h n r => exact ⟨_, .of h, by rw [r.length]; exact Nat.le_of_eq e⟩
  | tup h n r => exact ⟨_, .of h, by rw [r.length]; exact Nat.le_of_eq e⟩
  | rng lo n => exact (show n ≤ i by have : n = i := by simpa [rngs] using e
                                     omega)
  | enu h n r => exact ⟨_, kin_of h, by rw [r.length]; rw [enuFrom_len] at e; exact e.symm⟩
  | zip h n r h' n' r' =>
    refine ⟨_, _, kin_of h, kin_of h', ?_⟩
    rw [r.length, r'.length]
    simp only [List.length_map, List.length_zip] at e
    exact e.symm
def tI (K : PySem.W.Frag) (Wc : Nat → Hp → Prop) (f : Rho → Mem → Res (List Dt)) : TI := fun σ H R => ∃ H0 z m M ρ, ERel K H0 z m M ρ σ H ∧ PostG K Wc z m (fun ds _ H' => ds.length ≤ sizeLine → ∀ J, Src K H' z J ds → R J H') (f ρ M) H
theorem PI.weak {tg it : Expr} {t t' : TI} (h : PI X tg it t) (hw : ∀ σ H R, Wf X.K H → t' σ H R → t σ H (fun J H' => Wf X.K H' → R J H')) : PI X tg it t' :=
  ⟨fun pins s σ H R I q => thn (h.run pins s σ H _ I (hw σ H R (Wf.of I) q)) fun u s' h' => thn h' fun u' s'' ⟨it, fp, tn, J, H', e, I', T, st, fr, q'⟩ => ⟨it, fp, tn, J, H', e, I', T, st, fr, q' (Wf.of I')⟩⟩
theorem stepI {α : Type} {σ : L2.St} {H H0 : Hp} {z : Addr → Prop} {m : List Addr} {M : Mem} {ρ : Rho} {f : Rho → Mem → Res (List Dt)} {k : List Dt → Mem → Res α} {R' : α → Mem → Hp → Prop} {R : L2.It → Hp → Prop} (hr : ERel X.K H0 z m M ρ σ H) (hp : PostG X.K Wc z m R' ((f ρ M).bind k) H)
    (next : ∀ ds M1 J H1, Wf X.K H1 → ERel X.K H0 z m M1 ρ σ H1 → Fz m H H1 → ds.length ≤ sizeLine → Src X.K H1 z J ds → PostG X.K Wc z m R' (k ds M1) H1 → R J H1) : tI X.K Wc f σ H R := by
  refine ⟨H0, z, m, M, ρ, hr, ?_⟩
  cases e : f ρ M with
  | ok ds M1 =>
    rw [e] at hp
    exact fun H1 w fz c hl J s => next ds M1 J H1 w (hr.go fz c) fz hl s (PostG.go (r := k ds M1) hp fz)
  | exc c M1 => rw [e] at hp; exact hp
  | bad => rw [e] at hp; exact hp
theorem pi_or {tg e : Expr} {w1 w2 : TI} (h1 : PI X tg e w1) (h2 : PI X tg e w2) : PI X tg e (fun σ H R => w1 σ H R ∨ w2 σ H R) := ⟨fun pins s σ H R I q => q.elim (h1.run pins s σ H R I) (h2.run pins s σ H R I)⟩
end
end Co
end

section
set_option Elab.async false
set_option linter.all false
set_option maxRecDepth 100000
/-! what is walked: the sources; targets; comprehensions -/
namespace Co
open PySem L2
section
variable {X : Cx} {Wc : Nat → Hp → Prop} {fa fb fc : Rho → Mem → Res Vl} {a b c : Expr} {es : List Expr} {fs : Rho → Mem → Res (List Vl)} {pos : Pos}
theorem seq_src {H0 H : Hp} {z : Addr → Prop} {m : List Addr} {v : V} {l : Vl} {ds : List Dt} (r : RepV X.K H0 z m H v l) (e : seq? l = some ds) :
    (∃ a vs, v = .ref a ∧ H a = some (.lst vs) ∧ ¬ z a ∧ Reps X.K H z vs ds ∧ ∀ ys, l ≠ .dat (.tuple ys)) ∨ (∃ a vs, v = .ref a ∧ H a = some (.tup vs) ∧ ¬ z a ∧ Reps X.K H z vs ds ∧ ∃ ys, l = .dat (.tuple ys)) := by
  unfold seq? at e
  split at e
  · cases e
    obtain ⟨a, vs, rfl, h1, n1, r1⟩ := Rep.list_inv r
    exact .inl ⟨a, vs, rfl, h1, n1, r1, fun ys q => by cases q⟩
  · cases e
    obtain ⟨a, vs, rfl, h1, n1, r1⟩ := Rep.tup_inv r
    exact .inr ⟨a, vs, rfl, h1, n1, r1, _, rfl⟩
  · cases e
    obtain ⟨a, vs, rfl, h1, n1, r1⟩ := Rep.list_inv (RepV.get r rfl)
    exact .inl ⟨a, vs, rfl, h1, n1, r1, fun ys q => by cases q⟩
  · cases e
theorem PostG.lift' {α : Type} {R : α → Mem → Hp → Prop} {z : Addr → Prop} {m : List Addr} {H : Hp} {o : Option α} {M : Mem} (hp : PostG X.K Wc z m R (.lift o M) H) : ∃ l, o = some l ∧ PostG X.K Wc z m R (.ok l M) H := by
  cases o with
  | none => exact hp.elim
  | some l => exact ⟨l, rfl, hp⟩
theorem PostG.fin {α : Type} {R : α → Mem → Hp → Prop} {z : Addr → Prop} {m : List Addr} {H H0 : Hp} {l : α} {M : Mem} {ρ : Rho} {σ : L2.St} (hp : PostG X.K Wc z m R (.ok l M) H) (w : Wf X.K H) (hr : ERel X.K H0 z m M ρ σ H) : R l M H := hp H w Fz.refl hr.cells
theorem stepE {α : Type} {σ : L2.St} {H H0 : Hp} {z : Addr → Prop} {m : List Addr} {M : Mem} {ρ : Rho} {f : Rho → Mem → Res Vl} {k : Vl → Mem → Res α} {R' : α → Mem → Hp → Prop} {R : VK} (hr : ERel X.K H0 z m M ρ σ H) (hp : PostG X.K Wc z m R' ((f ρ M).bind k) H)
    (next : ∀ vl M1 v H1, f ρ M = .ok vl M1 → Wf X.K H1 → ERel X.K H0 z m M1 ρ σ H1 → Fz m H H1 → RepV X.K H0 z m H1 v vl → PostG X.K Wc z m R' (k vl M1) H1 → R v H1) : tE X.K Wc f σ H R := by
  refine ⟨H0, z, m, M, ρ, hr, ?_⟩
  cases e : f ρ M with
  | ok vl M1 =>
    rw [e] at hp
    exact fun v H1 w fz c r => next vl M1 v H1 e w (hr.go fz c) fz r (PostG.go (r := k vl M1) hp fz)
  | exc c M1 => rw [e] at hp; exact hp
  | bad => rw [e] at hp; exact hp
def isTup : Vl → Bool
  | .dat (.tuple _) => true
  | _ => false
theorem isTup_f {l : Vl} (h : ∀ ys, l ≠ .dat (.tuple ys)) : isTup l = false := by
  unfold isTup; split
  · exact absurd rfl (h _)
  · rfl
/-- one value that is walked: a list or a tuple -/
theorem one_src {α : Type} {wl wt : TI} {σ : L2.St} {H H0 : Hp} {z : Addr → Prop} {m : List Addr} {M : Mem} {ρ : Rho} {R' : α → Mem → Hp → Prop} {R : L2.It → Hp → Prop} {k : Vl → Mem → Res α} (hr : ERel X.K H0 z m M ρ σ H) (hp : PostG X.K Wc z m R' ((fa ρ M).bind k) H)
    (hl : (∀ l M1, fa ρ M = .ok l M1 → isTup l = false) → wl σ H R) (ht : (∀ l M1, fa ρ M = .ok l M1 → isTup l = true) → wt σ H R) : wl σ H R ∨ wt σ H R := by
  cases e : fa ρ M with
  | bad => exact .inl (hl fun l M1 q => by rw [e] at q; cases q)
  | exc c M1 => exact .inl (hl fun l M1 q => by rw [e] at q; cases q)
  | ok l M1 =>
    cases h : isTup l with
    | true => exact .inr (ht fun l' M1' q => by rw [e] at q; cases q; exact h)
    | false => exact .inl (hl fun l' M1' q => by rw [e] at q; cases q; exact h)
theorem i_seq {tg : Expr} (ha : PE X a (tE X.K Wc fa)) : PI X tg a (tI X.K Wc (fun ρ M => (fa ρ M).bind fun v M => .lift (seq? v) M)) := by
  refine PI.weak (pi_or (pi_list ha) (pi_tup ha)) fun σ H R w ⟨H0, z, m, M, ρ, hr, hp⟩ => ?_
  dsimp only at hp
  refine one_src (Wc := Wc) (fa := fa) (X := X) hr hp (fun ht => stepE hr hp fun l M1 v1 H1 e w1 hr1 f1 rx hp1 => ?_) (fun ht => stepE hr hp fun l M1 v1 H1 e w1 hr1 f1 rx hp1 => ?_)
  · obtain ⟨ds, e1, hp2⟩ := PostG.lift' hp1
    have hq := hp2.fin w1 hr1
    rcases seq_src rx e1 with ⟨a, vs, rfl, h1, n1, r1, q⟩ | ⟨a, vs, rfl, h1, n1, r1, ys, q⟩
    · exact ⟨a, rfl, ⟨vs, .of h1⟩, fun w' => hq (by rw [← r1.length]; exact w1.ll a vs (.of h1)) _ (.lst h1 n1 r1)⟩
    · have := ht _ _ e; rw [q] at this; cases this
  · obtain ⟨ds, e1, hp2⟩ := PostG.lift' hp1
    have hq := hp2.fin w1 hr1
    rcases seq_src rx e1 with ⟨a, vs, rfl, h1, n1, r1, q⟩ | ⟨a, vs, rfl, h1, n1, r1, ys, q⟩
    · have := ht _ _ e; rw [isTup_f q] at this; cases this
    · exact ⟨a, rfl, ⟨vs, .of h1⟩, fun w' => hq (by rw [← r1.length]; exact w1.lt a vs (.of h1)) _ (.tup h1 n1 r1)⟩
theorem rng_len {lo hi : Int} {ds : List Dt} (h : rng lo hi = some ds) : ds.length ≤ sizeLine ∧ ds = rngs lo (hi - lo).toNat ∧ -(2 ^ 62) ≤ lo ∧ lo < 2 ^ 62 ∧ -(2 ^ 62) ≤ hi ∧ hi < 2 ^ 62 := by
  unfold rng at h
  obtain ⟨⟨h1, h2, h3, h4, h5⟩, rfl⟩ := optIf h
  exact ⟨by simpa [rngs] using h5, rfl, h1, h2, h3, h4⟩
theorem i_rng1 {tg : Expr} {p : Pos} (hg : Gl X "range") (hm : X.mg "range" = none) (hpl : plain a = true) (ha : PE X a (tE X.K Wc fa)) : PI X tg (.Call (.Name "range" p) [a] [] pos) (tI X.K Wc (fun ρ M => (fa ρ M).bind fun v M => match v with
    | .dat (.int j) => .lift (rng 0 j) M
    | _ => .bad)) := by
  refine PI.weak (pi_range1 hg hm (pa_cons ha pa_nil (plain_star hpl _)) (plain_star hpl _)) fun σ H R w ⟨H0, z, m, M, ρ, hr, hp⟩ => ?_
  dsimp only at hp
  refine stepE hr hp fun l M1 v1 H1 e w1 hr1 f1 rx hp1 => ?_
  split at hp1
  · rename_i j
    obtain ⟨ds, e1, hp2⟩ := PostG.lift' hp1
    obtain ⟨h1, rfl, h2, h3, h4, h5⟩ := rng_len e1
    refine ⟨j, by rw [Rep.int_inv rx], h4, h5, fun w' => ?_⟩
    have hq := hp2.fin w1 hr1
    rw [show j - 0 = j by omega] at hq h1
    exact hq h1 _ (.rng 0 _)
  · exact hp1.elim
theorem i_rng2 {tg : Expr} {p : Pos} (hg : Gl X "range") (hm : X.mg "range" = none) (hpl : plain a = true) (hpb : plain b = true) (ha : PE X a (tE X.K Wc fa)) (hb : PE X b (tE X.K Wc fb)) : PI X tg (.Call (.Name "range" p) [a, b] [] pos) (tI X.K Wc (fun ρ M => (fa ρ M).bind fun v M => (fb ρ M).bind fun u M => match v, u with
    | .dat (.int i), .dat (.int j) => .lift (rng i j) M
    | _, _ => .bad)) := by
  refine PI.weak (pi_range2 hg hm (pa_cons ha (pa_cons hb pa_nil (plain_star hpb _)) (plain_star hpl _)) (by rw [plain_star hpl, plain_star hpb]; rfl) (plain_star hpb _)) fun σ H R w ⟨H0, z, m, M, ρ, hr, hp⟩ => ?_
  dsimp only at hp
  refine stepE hr hp fun l M1 v1 H1 e w1 hr1 f1 rx hp1 => stepE hr1 hp1 fun l2 M2 v2 H2 e2 w2 hr2 f2 ry hp2 => ?_
  split at hp2
  · rename_i i j
    obtain ⟨ds, e1, hp3⟩ := PostG.lift' hp2
    obtain ⟨h1, rfl, h2, h3, h4, h5⟩ := rng_len e1
    refine ⟨i, j, by rw [Rep.int_inv rx, Rep.int_inv ry], ⟨h2, h3, h4, h5⟩, fun w' => ?_⟩
    exact (hp3.fin w2 hr2) h1 _ (.rng i _)
  · exact hp2.elim
theorem seq_kin {H0 H : Hp} {z : Addr → Prop} {m : List Addr} {v : V} {l : Vl} {ds : List Dt} (r : RepV X.K H0 z m H v l) (e : seq? l = some ds) : ∃ t a vs, v = .ref a ∧ H a = some (sqO t vs) ∧ ¬ z a ∧ Reps X.K H z vs ds := by
  unfold seq? at e
  split at e
  · cases e; obtain ⟨a, vs, h1, h2, h3, h4⟩ := Rep.list_inv r; exact ⟨false, a, vs, h1, h2, h3, h4⟩
  · cases e; obtain ⟨a, vs, h1, h2, h3, h4⟩ := Rep.tup_inv r; exact ⟨true, a, vs, h1, h2, h3, h4⟩
  · cases e; obtain ⟨a, vs, h1, h2, h3, h4⟩ := Rep.list_inv (RepV.get r rfl); exact ⟨false, a, vs, h1, h2, h3, h4⟩
  · cases e
theorem sq_len {H : Hp} {a : Addr} {vs : List V} {t : Bool} (w : Wf X.K H) (h : H a = some (sqO t vs)) : vs.length ≤ sizeLine := by
  cases t with
  | false => exact w.ll a vs (.of h)
  | true => exact w.lt a vs (.of h)
theorem i_enu {elts : List Expr} {kk : Nat} {tpos p : Pos} (hg : Gl X "enumerate") (hm : X.mg "enumerate" = none) (hpl : plain a = true) (ha : PE X a (tE X.K Wc fa)) : PI X (.Tuple elts kk tpos) (.Call (.Name "enumerate" p) [a] [] pos) (tI X.K Wc (fun ρ M => (fa ρ M).bind fun v M => .lift ((seq? v).map (enuFrom 0)) M)) := by
  refine PI.weak (pi_enumK hg hm (pa_cons ha pa_nil (plain_star hpl _)) (plain_star hpl _)) fun σ H R w ⟨H0, z, m, M, ρ, hr, hp⟩ => ?_
  dsimp only at hp
  refine stepE hr hp fun l M1 v1 H1 e w1 hr1 f1 rx hp1 => ?_
  obtain ⟨ds, e1, hp2⟩ := PostG.lift' hp1
  simp only [Option.map_eq_some_iff] at e1
  obtain ⟨ds, e1, rfl⟩ := e1
  obtain ⟨t, a, vs, rfl, h1, n1, r1⟩ := seq_kin rx e1
  exact ⟨kin t, a, vs, rfl, kin_of h1, fun w' => (hp2.fin w1 hr1) (by rw [enuFrom_len, ← r1.length]; exact sq_len w1 h1) _ (.enu h1 n1 r1)⟩
theorem zip_some {v u : Vl} {qs : List Dt} (h : zip? v u = some qs) : ∃ xs ys, seq? v = some xs ∧ seq? u = some ys ∧ qs = (xs.zip ys).map fun p => .tuple [p.1, p.2] := by
  unfold zip? at h
  split at h
  · rename_i xs ys e1 e2
    cases h
    exact ⟨xs, ys, e1, e2, rfl⟩
  · cases h
theorem i_zip {elts : List Expr} {kk : Nat} {tpos p : Pos} (hg : Gl X "zip") (hm : X.mg "zip" = none) (hpl : plain a = true) (hpb : plain b = true) (ha : PE X a (tE X.K Wc fa)) (hb : PE X b (tE X.K Wc fb)) :
    PI X (.Tuple elts kk tpos) (.Call (.Name "zip" p) [a, b] [] pos) (tI X.K Wc (fun ρ M => (fa ρ M).bind fun v M => (fb ρ M).bind fun u M => .lift (zip? v u) M)) := by
  refine PI.weak (pi_zipK hg hm (pa_cons ha (pa_cons hb pa_nil (plain_star hpb _)) (plain_star hpl _)) (plain_star hpl _) (plain_any (fun x hx => by rw [List.mem_singleton.mp hx]; exact hpb) _ _)) fun σ H R w ⟨H0, z, m, M, ρ, hr, hp⟩ => ?_
  dsimp only at hp
  refine stepE hr hp fun l M1 v1 H1 e w1 hr1 f1 rx hp1 => stepE hr1 hp1 fun l2 M2 v2 H2 e2 w2 hr2 f2 ry hp2 => ?_
  obtain ⟨qs, e1, hp3⟩ := PostG.lift' hp2
  obtain ⟨xs, ys, g1, g2, rfl⟩ := zip_some e1
  obtain ⟨t, a, vs, rfl, h1, n1, r1⟩ := seq_kin (rx.mono f2 hr.zm) g1
  obtain ⟨u, b, us, rfl, h2, n2, r2⟩ := seq_kin ry g2
  refine ⟨kin t, kin u, a, b, vs, us, rfl, kin_of h1, kin_of h2, fun w' => hp3.fin w2 hr2 ?_ _ (.zip h1 n1 r1 h2 n2 r2)⟩
  have := sq_len w2 h1
  rw [List.length_map, List.length_zip, ← r1.length]
  omega

/-! ### targets -/
theorem says_set {ρ : Rho} {i j : Nat} {l vl : Vl} (h : (ρ.set i l)[j]? = some vl) : (j = i ∧ vl = l ∧ i < ρ.length) ∨ (j ≠ i ∧ ρ[j]? = some vl) := by
  by_cases hj : j = i
  · subst hj
    by_cases hl : j < ρ.length
    · rw [List.getElem?_set_self hl] at h; cases h; exact .inl ⟨rfl, rfl, hl⟩
    · rw [List.getElem?_eq_none (by simpa using hl)] at h; cases h
  · rw [List.getElem?_set_ne (Ne.symm hj)] at h
    exact .inr ⟨hj, h⟩
theorem ERel.set {K : PySem.W.Frag} {H0 H : Hp} {z : Addr → Prop} {m : List Addr} {M : Mem} {ρ : Rho} {σ : L2.St} {i : Nat} {l : Vl} {v : V} (hr : ERel K H0 z m M ρ σ H) (r : RepV K H0 z m H v l) : ERel K H0 z m M (ρ.set i l) (σ.set i (some v)) H :=
  ⟨hr.zm, hr.zt, hr.h0, hr.cells, by simp [hr.len], fun j vl e s => by
    rcases says_set e with ⟨rfl, rfl, hl⟩ | ⟨hj, e⟩
    · exact ⟨v, by rw [List.getElem?_set_self (by rw [← hr.len]; exact hl)], r⟩
    · obtain ⟨v', h1, h2⟩ := hr.env j vl e s
      exact ⟨v', by rw [List.getElem?_set_ne (Ne.symm hj)]; exact h1, h2⟩, hr.nt⟩
/-- the reading of a target -/
def GOk (K : PySem.W.Frag) (tg : Tg) (g : TG) : Prop := ∀ (H0 : Hp) (z : Addr → Prop) (m : List Addr) (M : Mem) (ρ ρ' : Rho) (σ : L2.St) (H : Hp) (v : V) (d : Dt) (Q : L2.St → Hp → Prop), ERel K H0 z m M ρ σ H → Rep K H z v d → bindT tg d ρ = some ρ' →
  (∀ σ', ERel K H0 z m M ρ' σ' H → (∀ own : List Nat, (∀ i ∈ slots tg, i ∈ own) → wipe σ' own = wipe σ own) → Q σ' H) → g v σ H Q
end
end Co
end

section
set_option Elab.async false
set_option linter.all false
set_option maxRecDepth 100000
/-! targets; comprehensions -/
namespace Co
open PySem L2
def WF : Nat → Hp → Prop := fun _ _ => False
section
variable {X : Cx} {Wc : Nat → Hp → Prop} {fa fb fc fe : Rho → Mem → Res Vl} {a b c : Expr} {es : List Expr} {fs : Rho → Mem → Res (List Vl)} {pos : Pos}
theorem wipe_set : ∀ {own : List Nat} {i : Nat} {σ : L2.St} {v : Option V}, i ∈ own → wipe (σ.set i v) own = wipe σ own
  | [], _, _, _, h => by cases h
  | o :: own, i, σ, v, h => by
    show (wipe (σ.set i v) own).set o none = (wipe σ own).set o none
    by_cases hi : i ∈ own
    · rw [wipe_set hi]
    · have e : i = o := by
        rcases List.mem_cons.mp h with e | e
        · exact e
        · exact absurd e hi
      subst e
      have : wipe (σ.set i v) own = (wipe σ own).set i v := by
        clear h
        induction own with
        | nil => rfl
        | cons p own ih =>
          have hp : p ≠ i := fun e => hi (by rw [e]; exact List.mem_cons_self)
          show (wipe (σ.set i v) own).set p none = ((wipe σ own).set p none).set i v
          rw [ih fun z => hi (List.mem_cons_of_mem _ z), List.set_comm _ _ hp]
      rw [this, List.set_set]
theorem g_nm (i : Nat) : GOk X.K (.nm i) (gName i) := fun H0 z m M ρ ρ' σ H v d Q hr r e q => by
  cases e
  exact q _ (hr.set r) fun own h => wipe_set (h i (by simp [slots]))
def GsOk (K : PySem.W.Frag) (tgs : Tgs) (g : TGs) : Prop := ∀ (H0 : Hp) (z : Addr → Prop) (m : List Addr) (M : Mem) (ρ ρ' : Rho) (σ : L2.St) (H : Hp) (vs : List V) (ds : List Dt) (Q : L2.St → Hp → Prop), ERel K H0 z m M ρ σ H → Reps K H z vs ds → bindTs tgs ds ρ = some ρ' →
  (∀ σ', ERel K H0 z m M ρ' σ' H → (∀ own : List Nat, (∀ i ∈ slotss tgs, i ∈ own) → wipe σ' own = wipe σ own) → Q σ' H) → g vs σ H Q
theorem gs_nil : GsOk X.K .nil gNil := fun H0 z m M ρ ρ' σ H vs ds Q hr r e q => by
  cases r with
  | nil => cases e; exact ⟨rfl, q _ hr fun _ _ => rfl⟩
  | cons _ _ => cases e
theorem gs_cons {t : Tg} {ts : Tgs} {g : TG} {gs : TGs} (h1 : GOk X.K t g) (h2 : GsOk X.K ts gs) : GsOk X.K (.cons t ts) (gCons g gs) := fun H0 z m M ρ ρ' σ H vs ds Q hr r e q => by
  cases r with
  | nil => cases e
  | cons r0 rr =>
    simp only [bindTs, Option.bind_eq_some_iff] at e
    obtain ⟨ρ1, e1, e2⟩ := e
    refine ⟨_, _, rfl, h1 H0 z m M ρ ρ1 σ H _ _ _ hr r0 e1 fun σ1 hr1 k1 => ?_⟩
    refine h2 H0 z m M ρ1 ρ' σ1 H _ _ _ hr1 rr e2 fun σ2 hr2 k2 => q σ2 hr2 fun own hs => ?_
    rw [k2 own fun i hi => hs i (by simp [slotss, hi]), k1 own fun i hi => hs i (by simp [slotss, hi])]
theorem tgs_len : ∀ (ts : Tgs) (ds : List Dt) (ρ ρ' : Rho) (N : List Str) (sc : Scope) (es : List Expr), bindTs ts ds ρ = some ρ' → chkGs N ts sc es = true → ds.length = es.length
  | .nil, [], ρ, ρ', N, sc, [], e, h => rfl
  | .nil, [], ρ, ρ', N, sc, x :: xs, e, h => by simp [chkGs] at h
  | .nil, d :: ds, ρ, ρ', N, sc, xs, e, h => by simp [bindTs] at e
  | .cons t ts, [], ρ, ρ', N, sc, xs, e, h => by simp [bindTs] at e
  | .cons t ts, d :: ds, ρ, ρ', N, sc, [], e, h => by simp [chkGs] at h
  | .cons t ts, d :: ds, ρ, ρ', N, sc, x :: xs, e, h => by
    simp only [bindTs, Option.bind_eq_some_iff] at e
    obtain ⟨ρ1, e1, e2⟩ := e
    simp only [chkGs, Bool.and_eq_true] at h
    rw [List.length_cons, List.length_cons, tgs_len ts ds ρ1 ρ' N sc xs e2 h.2]
theorem g_tp {ts : Tgs} {gs : TGs} {n : Nat} (h : GsOk X.K ts gs) (hn : ∀ ds ρ ρ', bindTs ts ds ρ = some ρ' → ds.length = n) : GOk X.K (.tp ts) (gTup X.K n gs) := fun H0 z m M ρ ρ' σ H v d Q hr r e q => by
  cases r with
  | tup h1 n1 r1 =>
    simp only [bindT] at e
    refine ⟨_, _, rfl, .of h1, by rw [r1.length]; exact hn _ _ _ e, h H0 z m M ρ ρ' σ H _ _ _ hr r1 e fun σ' hr' k => q σ' hr' fun own hs => k own hs⟩
  | _ => simp [bindT] at e
theorem plain_assign : ∀ {es : List Expr}, (∀ e ∈ es, plain e = true) → ∀ env, assignEach es env = es.map fun e => (false, assign e env)
  | [], _, _ => rfl
  | e :: es, h, env => by
    have : assignEach (e :: es) env = (false, assign e env) :: assignEach es env := by
      have := h e List.mem_cons_self
      cases e <;> first | rfl | cases this
    rw [this, plain_assign (fun x hx => h x (List.mem_cons_of_mem _ hx))]
    rfl
/-- what a def's or a block's names must be -/
structure Nm (N : List Str) (sc : Scope) (X : Cx) : Prop where
  nd : X.N.Nodup
  n : X.N = N
  nm : ∀ x kd, sc.names.lookup x = some kd → X.env.scope.names.lookup x = some kd ∨ (kd = .free ∧ X.env.scope.names.lookup x = some .cell)
  fnc : ∀ x, sc.names.lookup x = some .cell → X.fn x = true
  calm : X.calm = true
theorem isLoc_ok {sc : Scope} {x : Str} (h : isLoc sc x = true) : sc.names.lookup x = some .local ∨ sc.names.lookup x = some .cell := by
  unfold isLoc at h
  split at h
  · exact .inl (by assumption)
  · exact .inr (by assumption)
  · cases h
mutual
theorem sG {N : List Str} {sc : Scope} (nm : Nm N sc X) : ∀ (t : Tg) (e : Expr), chkG N t sc e = true → ∃ g, PG X e g ∧ GOk X.K t g
  | .nm i, e, h => by
    cases e <;> first | cases h | skip
    rename_i x p
    simp only [chkG, Bool.and_eq_true, decide_eq_true_eq] at h
    obtain ⟨h1, h2⟩ := h
    refine ⟨gName i, ?_, g_nm i⟩
    rw [← nm.n] at h2
    rcases isLoc_ok h1 with k | k
    · rcases nm.nm _ _ k with q | q
      · exact pg_name nm.nd h2 (.inl q) (.inr q)
      · cases q.1
    · rcases nm.nm _ _ k with q | q
      · exact pg_name nm.nd h2 (.inr q) (.inl (nm.fnc _ k))
      · cases q.1
  | .tp ts, e, h => by
    cases e <;> first | cases h | skip
    rename_i es k p
    simp only [chkG] at h
    obtain ⟨gs, h1, h2, h3⟩ := sGs nm ts es h
    refine ⟨_, pg_tup nm.calm h1 (n := es.length) ?_ ?_, g_tp h2 fun ds ρ ρ' e => tgs_len ts ds ρ ρ' N sc es e h⟩
    · rw [plain_assign h3, List.length_map]
    · rw [plain_assign h3, List.findIdx?_map]
      simp [List.findIdx?_eq_none_iff]
theorem sGs {N : List Str} {sc : Scope} (nm : Nm N sc X) : ∀ (ts : Tgs) (es : List Expr), chkGs N ts sc es = true → ∃ g, PGs X es g ∧ GsOk X.K ts g ∧ ∀ e ∈ es, plain e = true
  | .nil, es, h => by
    cases es with
    | nil => exact ⟨_, pgs_nil, gs_nil, fun _ h => nomatch h⟩
    | cons _ _ => simp [chkGs] at h
  | .cons t ts, es, h => by
    cases es with
    | nil => simp [chkGs] at h
    | cons e es =>
      simp only [chkGs, Bool.and_eq_true] at h
      obtain ⟨⟨h0, h1⟩, h2⟩ := h
      obtain ⟨g, a1, a2⟩ := sG nm t e h1
      obtain ⟨gs, b1, b2, b3⟩ := sGs nm ts es h2
      have hp : ∀ x ∈ e :: es, plain x = true := fun x hx => (List.mem_cons.mp hx).elim (fun q => by rw [q]; exact h0) (b3 x)
      exact ⟨_, pgs_cons a1 b1 (by rw [plain_assign hp, plain_assign b3]; rfl), gs_cons a2 b2, hp⟩
end
/-! ### a place more that is forbidden -/
theorem RepV.add {K : PySem.W.Frag} {H0 H H' : Hp} {z : Addr → Prop} {m : List Addr} {v : V} {l : Vl} {D : Addr} (r : RepV K H0 z m H v l) (hD : H D = none) (f : Fz m H H') (h : ∀ a ∈ m, z a) : RepV K H0 (fun a => z a ∨ a = D) m H' v l := by
  cases l with
  | dat d => exact Rep.mono (Mv.add hD f h) r
  | nw xs =>
    obtain ⟨p, vs, e, h1, h2, h3, h4⟩ := r
    have hp : p ≠ D := ne_of_none h3 hD
    refine ⟨p, vs, e, h1, fun q => q.elim h2 hp, f.keep p _ h3 fun q => h2 (h p q), Reps.mono ⟨fun a o e n => ⟨f.keep a o e fun q => n (.inl (h a q)), fun q => ?_⟩⟩ h4⟩
    rcases q with (q | q) | q
    · exact n (.inl q)
    · rw [q, hD] at e; cases e
    · exact n (.inr q)
  | nwd t kvs =>
    obtain ⟨p, e, h1, h2, o⟩ := r
    have hp0 : ∃ o, H p = some o := by cases t <;> (obtain ⟨ks, h3, _⟩ := o; exact ⟨_, h3⟩)
    obtain ⟨o1, h3⟩ := hp0
    have hp : p ≠ D := ne_of_none h3 hD
    refine ⟨p, e, h1, fun q => q.elim h2 hp, o.mono ⟨fun a o e n => ⟨f.keep a o e fun q => n (.inl (h a q)), fun q => ?_⟩⟩ fun o e => f.keep p o e fun q => h2 (h p q)⟩
    rcases q with (q | q) | q
    · exact n (.inl q)
    · rw [q, hD] at e; cases e
    · exact n (.inr q)
  | cell n => exact r
  | scr ns =>
    obtain ⟨a, e, h1⟩ := r
    exact ⟨a, e, h1.mono (Mv.add hD f h)⟩
  | _ => exact r.elim
theorem Cells.add {K : PySem.W.Frag} {H H' : Hp} {z : Addr → Prop} {m : List Addr} {M : Mem} {D : Addr} (c : Cells K z m M H) (hD : H D = none) (s : Same H H') (h : ∀ a ∈ m, z a) : Cells K (fun a => z a ∨ a = D) m M H' :=
  ⟨c.1, c.2.1, fun n a xs e1 e2 => let ⟨vs, h1, h2, h3⟩ := c.2.2 n a xs e1 e2; ⟨vs, s _ _ h1, Reps.mono (Mv.add hD (Fz.of_same s) h) h2, h3⟩⟩
theorem ERel.add {K : PySem.W.Frag} {H0 H H' : Hp} {z : Addr → Prop} {m : List Addr} {M : Mem} {ρ : Rho} {σ : L2.St} {D : Addr} (r : ERel K H0 z m M ρ σ H) (hD : H D = none) (hD' : (H' D).isSome) (s : Same H H') (hD2 : ∀ xs, H' D ≠ some (.tup xs)) : ERel K H0 (fun a => z a ∨ a = D) m M ρ σ H' :=
  ⟨fun a h => .inl (r.zm a h), fun a h => h.elim (fun h => (Fz.of_same (m := m) s).some (r.zt a h)) (fun h => by rw [h]; exact hD'), fun a h => (Fz.of_same (m := m) s).some (r.h0 a h), r.cells.add hD s r.zm, r.len,
    fun i vl e q => let ⟨v, h1, h2⟩ := r.env i vl e q; ⟨v, h1, h2.add hD (Fz.of_same s) r.zm⟩, fun a h xs q => by
      rcases h with h | rfl
      · cases e : H a with
        | none => have := r.zt a h; rw [e] at this; cases this
        | some o =>
          have := s a o e
          rw [q] at this; cases this
          exact r.nt a h xs e
      · exact hD2 xs q⟩
theorem wipeD_get : ∀ {own : List Nat} {ρ : Rho} {i : Nat} {l : Vl}, (wipeD ρ own)[i]? = some l → says l = true → ρ[i]? = some l ∧ i ∉ own
  | [], ρ, i, l, e, s => ⟨e, fun h => nomatch h⟩
  | o :: own, ρ, i, l, e, s => by
    rcases says_set (show ((wipeD ρ own).set o .und)[i]? = some l from e) with ⟨rfl, rfl, _⟩ | ⟨h1, h2⟩
    · cases s
    · obtain ⟨a, b⟩ := wipeD_get h2 s
      exact ⟨a, fun h => (List.mem_cons.mp h).elim h1 b⟩
theorem wipe_get : ∀ {own : List Nat} {σ : L2.St} {i : Nat}, i ∉ own → (wipe σ own)[i]? = σ[i]?
  | [], _, _, _ => rfl
  | o :: own, σ, i, h => by
    show ((wipe σ own).set o none)[i]? = σ[i]?
    rw [List.getElem?_set_ne fun e => h (by rw [e]; exact List.mem_cons_self)]
    exact wipe_get fun e => h (List.mem_cons_of_mem _ e)
theorem wipeD_len : ∀ (own : List Nat) (ρ : Rho), (wipeD ρ own).length = ρ.length
  | [], _ => rfl
  | o :: own, ρ => by show ((wipeD ρ own).set o .und).length = _; rw [List.length_set, wipeD_len own]
theorem ERel.wipe {K : PySem.W.Frag} {H0 H : Hp} {z : Addr → Prop} {m : List Addr} {M : Mem} {ρ : Rho} {σ : L2.St} (own : List Nat) (r : ERel K H0 z m M ρ σ H) : ERel K H0 z m M (wipeD ρ own) (L2.wipe σ own) H :=
  ⟨r.zm, r.zt, r.h0, r.cells, by rw [wipeD_len, L2.wipe_length, r.len], fun i vl e s => by
    obtain ⟨h1, h2⟩ := wipeD_get e s
    obtain ⟨v, h3, h4⟩ := r.env i vl h1 s
    exact ⟨v, by rw [wipe_get h2]; exact h3, h4⟩, r.nt⟩
theorem Mv.upd {K : PySem.W.Frag} {H : Hp} {z : Addr → Prop} {D : Addr} {o : HO} (h : z D) : Mv K H (upd H D o) z z := ⟨fun a u e n => ⟨by rw [upd_ne fun q => n (by rw [q]; exact h)]; exact e, n⟩⟩
theorem RepV.upd {K : PySem.W.Frag} {H0 H : Hp} {z : Addr → Prop} {m : List Addr} {v : V} {l : Vl} {D : Addr} {o : HO} (r : RepV K H0 z m H v l) (h : z D) : RepV K H0 z m (upd H D o) v l := by
  cases l with
  | dat d => exact Rep.mono (Mv.upd h) r
  | nw xs =>
    obtain ⟨p, vs, e, h1, h2, h3, h4⟩ := r
    exact ⟨p, vs, e, h1, h2, by rw [upd_ne fun q => h2 (by rw [q]; exact h)]; exact h3, Reps.mono (Mv.upd (.inl h)) h4⟩
  | nwd t kvs =>
    obtain ⟨p, e, h1, h2, o⟩ := r
    exact ⟨p, e, h1, h2, o.mono (Mv.upd (.inl h)) fun o e => by rw [upd_ne fun q => h2 (by rw [q]; exact h)]; exact e⟩
  | cell n => exact r
  | scr ns =>
    obtain ⟨a, e, h1⟩ := r
    exact ⟨a, e, h1.mono (Mv.upd h)⟩
  | _ => exact r.elim
theorem upd_some {H : Hp} {D b : Addr} {o : HO} (h : (H b).isSome) : (upd H D o b).isSome := by
  by_cases e : b = D
  · rw [e, upd_same]; rfl
  · rw [upd_ne e]; exact h
/-- a forbidden place that is no cell is written -/
theorem ERel.upd {K : PySem.W.Frag} {H0 H : Hp} {z : Addr → Prop} {m : List Addr} {M : Mem} {ρ : Rho} {σ : L2.St} {D : Addr} {o : HO} (r : ERel K H0 z m M ρ σ H) (h : z D) (hm : D ∉ m) (ho : ∀ xs, o ≠ .tup xs) : ERel K H0 z m M ρ σ (upd H D o) :=
  ⟨r.zm, fun a q => upd_some (r.zt a q), fun a q => upd_some (r.h0 a q), ⟨r.cells.1, r.cells.2.1, fun n a xs e1 e2 => by
    obtain ⟨vs, h1, h2, h3⟩ := r.cells.2.2 n a xs e1 e2
    have ha : a ≠ D := fun q => hm (by rw [← q]; exact List.mem_of_getElem? e1)
    exact ⟨vs, by rw [upd_ne ha]; exact h1, Reps.mono (Mv.upd h) h2, h3⟩⟩, r.len, fun i vl e s => let ⟨v, h1, h2⟩ := r.env i vl e s; ⟨v, h1, h2.upd h⟩, fun a q xs e => by
    by_cases ha : a = D
    · rw [ha, upd_same] at e; cases e; exact ho _ rfl
    · rw [upd_ne ha] at e; exact r.nt a q xs e⟩
end
end Co
end

section
set_option Elab.async false
set_option linter.all false
set_option maxRecDepth 100000
/-! comprehensions -/
namespace Co
open PySem L2
/-- one turn of a comprehension -/
def turn (tg : Tg) (own : List Nat) (ρ : Rho) (fc fe : Rho → Mem → Res Vl) (x : Dt) (M : Mem) : Res (Option Dt) := match bindT tg x (wipeD ρ own) with
  | none => .bad
  | some ρ' => (fc ρ' M).bind fun k M => ifB k ((fe ρ' M).bind fun v M => .lift (v.get.map some) M) (.ok none M)
section
variable {X : Cx} {Wc : Nat → Hp → Prop} {fa fb fc fe : Rho → Mem → Res Vl} {fI : Rho → Mem → Res (List Dt)} {pos : Pos}
theorem nx_ok {α : Type} {r : Res α} {β : Type} {k : α → Mem → Res β} {R : β → Mem → Hp → Prop} {z : Addr → Prop} {m : List Addr} {H : Hp} (hp : PostG X.K Wc z m R ((nx r).bind k) H) : ∃ a M, r = .ok a M ∧ PostG X.K Wc z m R (k a M) H := by
  cases r with
  | ok a M => exact ⟨a, M, rfl, hp⟩
  | exc c M => exact hp.elim
  | bad => exact hp.elim
theorem bind_ok {α β : Type} {r : Res α} {k : α → Mem → Res β} {b : β} {M : Mem} (h : r.bind k = .ok b M) : ∃ a M1, r = .ok a M1 ∧ k a M1 = .ok b M := by
  cases r with
  | ok a M1 => exact ⟨a, M1, rfl, h⟩
  | exc c M1 => cases h
  | bad => cases h
theorem lift_ok {α : Type} {o : Option α} {M M' : Mem} {a : α} (h : Res.lift o M = .ok a M') : o = some a ∧ M' = M := by
  cases o with
  | none => cases h
  | some b => cases h; exact ⟨rfl, rfl⟩
theorem ifB_ok {α : Type} {k : Vl} {x y : Res α} {b : α} {M : Mem} (h : ifB k x y = .ok b M) : (k = .dat (.bool true) ∧ x = .ok b M) ∨ (k = .dat (.bool false) ∧ y = .ok b M) := by
  unfold ifB at h
  split at h
  · exact .inl ⟨rfl, h⟩
  · exact .inr ⟨rfl, h⟩
  · cases h
/-- what a turn did, if it came to an end -/
theorem turn_ok {tg : Tg} {own : List Nat} {ρ : Rho} {x : Dt} {M M' : Mem} {o : Option Dt} (h : turn tg own ρ fc fe x M = .ok o M') : ∃ ρ' M1, bindT tg x (wipeD ρ own) = some ρ' ∧
    ((fc ρ' M = .ok (.dat (.bool true)) M1 ∧ ∃ l d, fe ρ' M1 = .ok l M' ∧ l.get = some d ∧ o = some d) ∨ (fc ρ' M = .ok (.dat (.bool false)) M1 ∧ M' = M1 ∧ o = none)) := by
  unfold turn at h
  split at h
  · cases h
  · rename_i ρ' e
    obtain ⟨k, M1, h1, h2⟩ := bind_ok h
    refine ⟨ρ', M1, e, ?_⟩
    rcases ifB_ok h2 with ⟨rfl, h3⟩ | ⟨rfl, h3⟩
    · obtain ⟨l, M2, h4, h5⟩ := bind_ok h3
      obtain ⟨h6, rfl⟩ := lift_ok h5
      simp only [Option.map_eq_some_iff] at h6
      obtain ⟨d, h6, rfl⟩ := h6
      exact .inl ⟨h1, l, d, h4, h6, rfl⟩
    · cases h3; exact .inr ⟨h1, rfl, rfl⟩
theorem cLoop_cons {body : Dt → Mem → Res (Option Dt)} {x : Dt} {xs : List Dt} {M M' : Mem} {r : List Dt} (h : cLoop body (x :: xs) M = .ok r M') : ∃ o M1 r', body x M = .ok o M1 ∧ cLoop body xs M1 = .ok r' M' ∧ r = o.toList ++ r' := by
  unfold cLoop at h
  obtain ⟨o, M1, h1, h2⟩ := bind_ok h
  obtain ⟨r', M2, h3, h4⟩ := bind_ok h2
  refine ⟨o, M1, r', h1, ?_⟩
  cases o with
  | none => cases h4; exact ⟨h3, rfl⟩
  | some d => cases h4; exact ⟨h3, rfl⟩
/-- the state of a comprehension's loop -/
structure CSt (K : PySem.W.Frag) (H0 : Hp) (z : Addr → Prop) (m : List Addr) (ρ : Rho) (σ : L2.St) (own : List Nat) (body : Dt → Mem → Res (Option Dt)) (ds : List Dt) (J : L2.It) (H1 : Hp) (D : Addr) (out : List Dt) (M2 : Mem) (i : Nat) (H : Hp) : Prop where
  ex : ∃ M' acc vs rest, i ≤ ds.length ∧ cLoop body (ds.drop i) M' = .ok rest M2 ∧ out = acc ++ rest ∧ H D = some (.lst vs) ∧ Reps K H z vs acc ∧ vs.length ≤ i ∧ ERel K H0 z m M' (wipeD ρ own) (wipe σ own) H ∧ Src K H z J ds
  keep : ∀ a o, H1 a = some o → a ∉ m → H a = some o
  there : ∀ a ∈ m, (H a).isSome
theorem tT_at {σ : L2.St} {H H0 : Hp} {z : Addr → Prop} {m : List Addr} {M M1 : Mem} {ρ : Rho} {b : Bool} {f : Rho → Mem → Res Vl} {R : Bool → Hp → Prop} (hr : ERel X.K H0 z m M ρ σ H) (e : f ρ M = .ok (.dat (.bool b)) M1)
    (next : ∀ H1, Wf X.K H1 → ERel X.K H0 z m M1 ρ σ H1 → Fz m H H1 → R b H1) : tT X.K WF f σ H R := by
  refine ⟨H0, z, m, M, ρ, hr, ?_⟩
  rw [e]
  intro v H1 w fz c r
  exact ⟨b, Rep.bool_inv r, next H1 w (hr.go fz c) fz⟩
theorem tE_at {σ : L2.St} {H H0 : Hp} {z : Addr → Prop} {m : List Addr} {M M1 : Mem} {ρ : Rho} {l : Vl} {f : Rho → Mem → Res Vl} {R : VK} (hr : ERel X.K H0 z m M ρ σ H) (e : f ρ M = .ok l M1)
    (next : ∀ v H1, Wf X.K H1 → ERel X.K H0 z m M1 ρ σ H1 → Fz m H H1 → RepV X.K H0 z m H1 v l → R v H1) : tE X.K WF f σ H R := by
  refine ⟨H0, z, m, M, ρ, hr, ?_⟩
  rw [e]
  intro v H1 w fz c r
  exact next v H1 w (hr.go fz c) fz r
theorem drop_cons {α : Type} {ds : List α} {i : Nat} {d : α} (h : ds[i]? = some d) : ds.drop i = d :: ds.drop (i + 1) := by
  obtain ⟨hi, e⟩ := List.getElem?_eq_some_iff.mp h
  rw [List.drop_eq_getElem_cons hi, e]
/-- one clause's turn within a loop's state: what the element's reading must do with the new item -/
theorem comp_turn {tg : Tg} {own : List Nat} {ρ : Rho} {σ : L2.St} {g : TG} {H0 H' : Hp} {z : Addr → Prop} {m : List Addr} {M' M3 : Mem} {o : Option Dt} {d : Dt} {x : V} {D : Addr} {vs : List V} {acc : List Dt} {Nx : Hp → Prop}
    (gok : GOk X.K tg g) (hsl : ∀ i ∈ slots tg, i ∈ own) (hr : ERel X.K H0 z m M' (wipeD ρ own) (wipe σ own) H') (rx : Rep X.K H' z x d) (hzD : z D) (hDm : D ∉ m) (hD : H' D = some (.lst vs)) (racc : Reps X.K H' z vs acc) (hlen : vs.length < sizeLine)
    (e : turn tg own ρ fc fe d M' = .ok o M3)
    (nx : ∀ H4 vs', Fz m H' H4 ∨ (∃ H3, Fz m H' H3 ∧ H4 = upd H3 D (.lst vs')) → H4 D = some (.lst vs') → Reps X.K H4 z vs' (acc ++ o.toList) → vs'.length ≤ vs.length + 1 → ERel X.K H0 z m M3 (wipeD ρ own) (wipe σ own) H4 → Nx H4) :
    g x (wipe σ own) H' fun σ2 H2 => wipe σ2 own = wipe σ own ∧ tT X.K WF fc σ2 H2 fun b H3 => if b = true then tE X.K WF fe σ2 H3 fun y H4 => ∃ acc, H4 D = some (.lst acc) ∧ acc.length < sizeLine ∧ Nx (upd H4 D (.lst (acc ++ [y]))) else Nx H3 := by
  obtain ⟨ρ', M1, e1, e2⟩ := turn_ok e
  have zm := hr.zm
  refine gok H0 z m M' _ ρ' _ H' x d _ hr rx e1 fun σ2 hr2 hw => ?_
  have hwσ : wipe σ2 own = wipe σ own := by
    rw [hw own hsl]
    have : ∀ (own : List Nat) (σ : L2.St), wipe (wipe σ own) own = wipe σ own := fun own σ => by
      refine List.ext_getElem? fun j => ?_
      by_cases hj : j ∈ own
      · have q : ∀ (own : List Nat) (τ : L2.St), τ.length = σ.length → j ∈ own → (wipe τ own)[j]? = if j < σ.length then some none else none := by
          intro own
          induction own with
          | nil => intro _ _ h; cases h
          | cons o own ih =>
            intro τ hl h
            show ((wipe τ own).set o none)[j]? = _
            by_cases ho : o = j
            · subst ho
              by_cases hlt : o < σ.length
              · rw [List.getElem?_set_self (by rw [L2.wipe_length, hl]; exact hlt), if_pos hlt]
              · rw [List.getElem?_eq_none (by rw [List.length_set, L2.wipe_length, hl]; omega), if_neg hlt]
            · rw [List.getElem?_set_ne ho]
              exact ih τ hl ((List.mem_cons.mp h).elim (fun q => absurd q.symm ho) id)
        rw [q own _ (L2.wipe_length σ own) hj, q own σ rfl hj]
      · rw [wipe_get hj]
    rw [this]
  refine ⟨hwσ, ?_⟩
  have back : ∀ {M : Mem} {H4 : Hp}, ERel X.K H0 z m M ρ' σ2 H4 → Fz m H' H4 → ERel X.K H0 z m M (wipeD ρ own) (wipe σ own) H4 := fun r f => hr.go f r.cells
  rcases e2 with ⟨h1, l, d', h2, h3, rfl⟩ | ⟨h1, rfl, rfl⟩
  · refine tT_at hr2 h1 fun H3 w3 hr3 f3 => ?_
    refine iteT (tE_at hr3 h2 fun y H4 w4 hr4 f4 ry => ?_)
    have f := f3.trans f4
    have hD4 : H4 D = some (.lst vs) := f.keep _ _ hD hDm
    refine ⟨vs, hD4, hlen, nx _ (vs ++ [y]) (.inr ⟨H4, f, rfl⟩) upd_same ?_ (by simp) ((back hr4 f).upd hzD hDm fun xs q => by cases q)⟩
    exact Reps.mono (Mv.upd hzD) ((Reps.mono (Mv.fz f zm) racc).append (.cons (ry.get h3) .nil))
  · refine tT_at hr2 h1 fun H3 w3 hr3 f3 => ?_
    have hD4 : H3 D = some (.lst vs) := f3.keep _ _ hD hDm
    refine iteF (nx H3 vs (.inl f3) hD4 ?_ (by omega) (back hr3 f3))
    simpa using Reps.mono (Mv.fz f3 zm) racc
theorem fz_there {m : List Addr} {H1 H H' : Hp} (k : ∀ a o, H1 a = some o → a ∉ m → H a = some o) (t : ∀ a ∈ m, (H a).isSome) (f : Fz m H H') : (∀ a o, H1 a = some o → a ∉ m → H' a = some o) ∧ ∀ a ∈ m, (H' a).isSome :=
  ⟨fun a o e n => f.keep a o (k a o e n) n, fun a h => f.there a h (t a h)⟩
theorem rd_comp {own : List (Str × Nat)} {tg : Tg} {g : TG} (gok : GOk X.K tg g) (hsl : ∀ i ∈ slots tg, i ∈ own.map (·.2)) (σ : L2.St) (H : Hp) (Q : VK) (w : Wf X.K H)
    (q : tE X.K Wc (fun ρ M => (fI ρ M).bind fun xs M => (nx (cLoop (turn tg (own.map (·.2)) ρ fc fe) xs M)).bind fun r M => .ok (.nw r) M) σ H Q) : tLc (tI X.K Wc fI) g (tT X.K WF fc) (tE X.K WF fe) (own.map (·.2)) σ H (fun v H' => Wf X.K H' → Q v H') := by
  obtain ⟨H0, z, m, M, ρ, hr, hp⟩ := q
  have hp := post_G.mp hp
  refine stepI hr hp fun ds M1 J H1 w1 hr1 f1 hl src hp1 => fun D hD => ?_
  obtain ⟨out, M2, e, hp2⟩ := nx_ok hp1
  have hp2 : PostG X.K Wc z m _ (.ok (Vl.nw out) M2) H1 := hp2
  have hDm : D ∉ m := fun h => by have := hr1.zt D (hr1.zm D h); rw [hD] at this; cases this
  generalize hown : own.map (·.2) = ow at *
  let z' : Addr → Prop := fun a => z a ∨ a = D
  have hz'D : z' D := .inr rfl
  have hz'm : ∀ a ∈ m, z' a := fun a h => .inl (hr1.zm a h)
  have s0 : Same H1 (upd H1 D (.lst [])) := same_new hD
  refine ⟨fun i n H => n = ds.length - i ∧ CSt X.K H0 z' m ρ σ ow (turn tg ow ρ fc fe) ds J H1 D out M2 i H, ⟨ds.length, by simp, ⟨M1, [], [], out, Nat.zero_le _, by rw [List.drop_zero]; exact e, rfl, upd_same, .nil, Nat.le_refl _, (hr1.add hD (by rw [upd_same]; rfl) s0 (fun xs q => by rw [upd_same] at q; cases q)).wipe ow, src.mono (Mv.add hD (Fz.of_same s0) hr1.zm)⟩, fun a o q _ => s0 _ _ q, fun a h => (Fz.of_same (m := m) s0).some (hr1.zt a (hr1.zm a h))⟩, ?_⟩
  rintro i n H ⟨rfl, ⟨M', acc, vs, rest, hi, e1, e2, h1, h2, h3, h4, h5⟩, kp, th⟩
  by_cases hlt : i < ds.length
  · have ed : ds[i]? = some ds[i] := List.getElem?_eq_getElem hlt
    obtain ⟨go, yl⟩ := h5.go h4.zt ed
    refine .inr ⟨go, fun H' => CSt X.K H0 z' m ρ σ ow (turn tg ow ρ fc fe) ds J H1 D out M2 (i + 1) H', fun H' c => ⟨_, by omega, rfl, c⟩, fun x H' y => ?_⟩
    obtain ⟨sm, rx⟩ := yl x H' y
    rw [drop_cons ed] at e1
    obtain ⟨o, M3, r', q1, q2, q3⟩ := cLoop_cons e1
    have hr' := h4.go (.of_same sm) (h4.cells.same sm h4.zm)
    have fs := fz_there kp th (Fz.of_same sm)
    refine comp_turn gok hsl hr' rx hz'D hDm (sm _ _ h1) (Reps.mono (Mv.same sm) h2) (by omega) q1 fun H4 vs' hf4 hD4 racc hlv hr4 => ?_
    have mv : Mv X.K H' H4 z' z' := by
      rcases hf4 with f | ⟨H3, f, rfl⟩
      · exact Mv.fz f hz'm
      · exact ⟨fun a o q n => ⟨((Mv.upd (K := X.K) hz'D).keep a o ((Mv.fz (K := X.K) f hz'm).keep a o q n).1 n).1, n⟩⟩
    have kt : (∀ a o, H1 a = some o → a ∉ m → H4 a = some o) ∧ ∀ a ∈ m, (H4 a).isSome := by
      rcases hf4 with f | ⟨H3, f, rfl⟩
      · exact fz_there fs.1 fs.2 f
      · have g := fz_there fs.1 fs.2 f
        refine ⟨fun a o q n => ?_, fun a h => upd_some (g.2 a h)⟩
        rw [upd_ne (ne_of_none q hD)]
        exact g.1 a o q n
    exact ⟨⟨M3, acc ++ o.toList, vs', r', hlt, q2, by rw [e2, q3, List.append_assoc], hD4, racc, by omega, hr4, (h5.mono (Mv.same sm)).mono mv⟩, kt.1, kt.2⟩
  · have hn : i = ds.length := by omega
    subst hn
    refine .inl ⟨h5.stop rfl, fun w' => ?_⟩
    rw [List.drop_length] at e1
    cases e1
    rw [List.append_nil] at e2
    subst e2
    refine hp2 H w' ⟨kp, fun a h _ => th a h⟩ ⟨h4.cells.1, h4.cells.2.1, fun n a xs q1 q2 => ?_⟩ _ ⟨D, vs, rfl, not_0 hr1.h0 hD, not_z hr1.zt hD, h1, h2⟩
    obtain ⟨us, g1, g2, g3⟩ := h4.cells.2.2 n a xs q1 q2
    exact ⟨us, g1, Reps.mono (Mv.sub fun a q => .inl q) g2, g3⟩
theorem s_comp {tgE iter elt : Expr} {ifs : List Expr} {scope : Scope} {own : List (Str × Nat)} {tg : Tg} {g : TG} (hc : X.calm = true) (hN : X.N.Nodup) (hi : PI X tgE iter (tI X.K Wc fI)) (ok : BlkOk X.N X.env.scope scope own)
    (hg : ∀ (s : Shared) (H : Hp) (C : Addr) (cl : List (Str × Addr)) (fp : List Addr), PG (X.blk s H scope (compEnvC scope cl C X.env) fp) tgE g) (gok : GOk X.K tg g) (hsl : ∀ i ∈ slots tg, i ∈ own.map (·.2))
    (ht : ∀ (s : Shared) (H : Hp) (C : Addr) (cl : List (Str × Addr)) (fp : List Addr), PTs (X.blk s H scope (compEnvC scope cl C X.env) fp) ifs (tT X.K WF fc))
    (he : ∀ (s : Shared) (H : Hp) (C : Addr) (cl : List (Str × Addr)) (fp : List Addr), PE (X.blk s H scope (compEnvC scope cl C X.env) fp) elt (tE X.K WF fe)) (hf : ∀ x, foldedSetIterable iter X.env x = pure x) :
    PE X (.ListComp elt [⟨tgE, iter, ifs, 0⟩] scope pos) (tE X.K Wc (fun ρ M => (fI ρ M).bind fun xs M => (nx (cLoop (turn tg (own.map (·.2)) ρ fc fe) xs M)).bind fun r M => .ok (.nw r) M)) := by
  exact PE.weak (pe_lc hc hN hi ok hg ht he hf) fun σ H Q w q => rd_comp gok hsl σ H Q w q
end
end Co
end

section
set_option Elab.async false
set_option linter.all false
set_option maxRecDepth 100000
set_option maxHeartbeats 1000000
/-! comprehensions of two clauses; dicts, list(zip), sorted(set), list(range) -/
namespace Co
open PySem L2
/-- the outer turn of a comprehension of two clauses -/
def turn2 (tg : Tg) (own : List Nat) (fI1 : Rho → Mem → Res (List Dt)) (tg1 : Tg) (own1 : List Nat) (ρ : Rho) (fc fe : Rho → Mem → Res Vl) (x : Dt) (M : Mem) : Res (List Dt) := match bindT tg x (wipeD ρ own) with
  | none => .bad
  | some ρ' => (fI1 ρ' M).bind fun ys M => cLoop (turn tg1 own1 ρ' fc fe) ys M
theorem cLoop2_cons {body : Dt → Mem → Res (List Dt)} {x : Dt} {xs : List Dt} {M M' : Mem} {r : List Dt} (h : cLoop2 body (x :: xs) M = .ok r M') : ∃ o M1 r', body x M = .ok o M1 ∧ cLoop2 body xs M1 = .ok r' M' ∧ r = o ++ r' := by
  unfold cLoop2 at h
  obtain ⟨o, M1, h1, h2⟩ := bind_ok h
  obtain ⟨r', M2, h3, h4⟩ := bind_ok h2
  cases h4
  exact ⟨o, M1, r', h1, h3, rfl⟩
section
variable {K : PySem.W.Frag} {H0 H H' : Hp} {z : Addr → Prop} {m : List Addr} {M M' : Mem} {ρ ρ2 : Rho} {σ σ2 : L2.St}
theorem RepV.mv {v : V} {l : Vl} (r : RepV K H0 z m H v l) (f : Mv K H H' z z) : RepV K H0 z m H' v l := by
  cases l with
  | dat d => exact Rep.mono f r
  | nw xs =>
    obtain ⟨p, vs, e, h1, h2, h3, h4⟩ := r
    exact ⟨p, vs, e, h1, h2, (f.keep p _ h3 h2).1, Reps.mono ⟨fun a o e n => ⟨(f.keep a o e fun q => n (.inl q)).1, n⟩⟩ h4⟩
  | nwd t kvs =>
    obtain ⟨p, e, h1, h2, o⟩ := r
    exact ⟨p, e, h1, h2, o.mono ⟨fun a o e n => ⟨(f.keep a o e fun q => n (.inl q)).1, n⟩⟩ fun o e => (f.keep p o e h2).1⟩
  | cell n => exact r
  | scr ns => obtain ⟨a, e, h1⟩ := r; exact ⟨a, e, h1.mono f⟩
  | _ => exact r.elim
theorem Mv.go2 {H1 H2 : Hp} {z1 z2 : Addr → Prop} (a : Mv K H H1 z z1) (b : Mv K H1 H2 z1 z2) : Mv K H H2 z z2 := ⟨fun c o e n => let ⟨e1, n1⟩ := a.keep c o e n; b.keep c o e1 n1⟩
/-- another frame's slots over the same heap -/
theorem ERel.beside (r : ERel K H0 z m M ρ σ H) (q : ERel K H0 z m M' ρ2 σ2 H') (f : Mv K H H' z z) : ERel K H0 z m M' ρ σ H' :=
  ⟨q.zm, q.zt, q.h0, q.cells, r.len, fun i vl e s => let ⟨v, h1, h2⟩ := r.env i vl e s; ⟨v, h1, h2.mv f⟩, q.nt⟩
/-- the state of an inner loop -/
structure CSi (K : PySem.W.Frag) (H0 : Hp) (z : Addr → Prop) (m : List Addr) (ρ : Rho) (σ : L2.St) (own : List Nat) (ρ' : Rho) (σ' : L2.St) (own1 : List Nat) (body : Dt → Mem → Res (Option Dt)) (ys : List Dt) (J : L2.It) (H1 : Hp) (D : Addr) (pre out : List Dt) (M2 : Mem) (j : Nat) (H : Hp) : Prop where
  ex : ∃ M' acc vs rest, j ≤ ys.length ∧ cLoop body (ys.drop j) M' = .ok rest M2 ∧ out = acc ++ rest ∧ H D = some (.lst vs) ∧ Reps K H z vs (pre ++ acc) ∧ ERel K H0 z m M' (wipeD ρ own) (wipe σ own) H ∧ ERel K H0 z m M' (wipeD ρ' own1) (wipe σ' own1) H ∧ Src K H z J ys
  keep : ∀ a o, H1 a = some o → a ∉ m → a ≠ D → H a = some o
  mv : Mv K H1 H z z
  there : ∀ a ∈ m, (H a).isSome
/-- the state of the outer loop -/
structure CSo (K : PySem.W.Frag) (H0 : Hp) (z : Addr → Prop) (m : List Addr) (ρ : Rho) (σ : L2.St) (own : List Nat) (body : Dt → Mem → Res (List Dt)) (ds : List Dt) (J : L2.It) (H1 : Hp) (D : Addr) (out : List Dt) (M2 : Mem) (i : Nat) (H : Hp) : Prop where
  ex : ∃ M' acc vs rest, i ≤ ds.length ∧ cLoop2 body (ds.drop i) M' = .ok rest M2 ∧ out = acc ++ rest ∧ H D = some (.lst vs) ∧ Reps K H z vs acc ∧ ERel K H0 z m M' (wipeD ρ own) (wipe σ own) H ∧ Src K H z J ds
  keep : ∀ a o, H1 a = some o → a ∉ m → H a = some o
  there : ∀ a ∈ m, (H a).isSome
end
section
variable {X : Cx} {Wc : Nat → Hp → Prop} {fa fb fc fe : Rho → Mem → Res Vl} {fI fI1 : Rho → Mem → Res (List Dt)} {pos : Pos} {a b c : Expr}
theorem wipe_wipe (own : List Nat) (σ : L2.St) : wipe (wipe σ own) own = wipe σ own := by
  refine List.ext_getElem? fun j => ?_
  by_cases hj : j ∈ own
  · have q : ∀ (own : List Nat) (τ : L2.St), τ.length = σ.length → j ∈ own → (wipe τ own)[j]? = if j < σ.length then some none else none := by
      intro own
      induction own with
      | nil => intro _ _ h; cases h
      | cons o own ih =>
        intro τ hl h
        show ((wipe τ own).set o none)[j]? = _
        by_cases ho : o = j
        · subst ho
          by_cases hlt : o < σ.length
          · rw [List.getElem?_set_self (by rw [L2.wipe_length, hl]; exact hlt), if_pos hlt]
          · rw [List.getElem?_eq_none (by rw [List.length_set, L2.wipe_length, hl]; omega), if_neg hlt]
        · rw [List.getElem?_set_ne ho]
          exact ih τ hl ((List.mem_cons.mp h).elim (fun q => absurd q.symm ho) id)
    rw [q own _ (L2.wipe_length σ own) hj, q own σ rfl hj]
  · rw [wipe_get hj]
theorem tI_at {σ : L2.St} {H H0 : Hp} {z : Addr → Prop} {m : List Addr} {M M1 : Mem} {ρ : Rho} {ds : List Dt} {f : Rho → Mem → Res (List Dt)} {R : L2.It → Hp → Prop} (hr : ERel X.K H0 z m M ρ σ H) (e : f ρ M = .ok ds M1)
    (next : ∀ J H1, Wf X.K H1 → ERel X.K H0 z m M1 ρ σ H1 → Fz m H H1 → ds.length ≤ sizeLine → Src X.K H1 z J ds → R J H1) : tI X.K WF f σ H R := by
  refine ⟨H0, z, m, M, ρ, hr, ?_⟩
  rw [e]
  exact fun H1 w fz c hl J s => next J H1 w (hr.go fz c) fz hl s
/-- a turn that gives nothing -/
theorem comp_turnN {tg : Tg} {own : List Nat} {ρ : Rho} {σ : L2.St} {g : TG} {H0 H' : Hp} {z : Addr → Prop} {m : List Addr} {M' M3 : Mem} {d : Dt} {x : V} {D : Addr} {Nx : Hp → Prop}
    (gok : GOk X.K tg g) (hsl : ∀ i ∈ slots tg, i ∈ own) (hr : ERel X.K H0 z m M' (wipeD ρ own) (wipe σ own) H') (rx : Rep X.K H' z x d) (hDm : D ∉ m) (e : turn tg own ρ fc fe d M' = .ok none M3)
    (nx : ∀ H4, Fz m H' H4 → ERel X.K H0 z m M3 (wipeD ρ own) (wipe σ own) H4 → Nx H4) :
    g x (wipe σ own) H' fun σ2 H2 => wipe σ2 own = wipe σ own ∧ tT X.K WF fc σ2 H2 fun b H3 => if b = true then tE X.K WF fe σ2 H3 fun y H4 => ∃ acc, H4 D = some (.lst acc) ∧ acc.length < sizeLine ∧ Nx (upd H4 D (.lst (acc ++ [y]))) else Nx H3 := by
  obtain ⟨ρ', M1, e1, e2⟩ := turn_ok e
  refine gok H0 z m M' _ ρ' _ H' x d _ hr rx e1 fun σ2 hr2 hw => ⟨by rw [hw own hsl, wipe_wipe], ?_⟩
  rcases e2 with ⟨h1, l, d', h2, h3, h4⟩ | ⟨h1, rfl, _⟩
  · cases h4
  · refine tT_at hr2 h1 fun H3 w3 hr3 f3 => iteF (nx H3 f3 (hr.go f3 hr3.cells))
theorem rd_comp2 {own : List (Str × Nat)} {own1 : List Nat} {tg tg1 : Tg} {g g1 : TG} {tt : TT} (gok : GOk X.K tg g) (gok1 : GOk X.K tg1 g1) (hsl : ∀ i ∈ slots tg, i ∈ own.map (·.2)) (hsl1 : ∀ i ∈ slots tg1, i ∈ own1) (htt : ∀ σ H (Q : Bool → Hp → Prop), Q true H → tt σ H Q) (σ : L2.St) (H : Hp) (Q : VK) (w : Wf X.K H)
    (q : tE X.K Wc (fun ρ M => (fI ρ M).bind fun xs M => (nx (cLoop2 (turn2 tg (own.map (·.2)) fI1 tg1 own1 ρ fc fe) xs M)).bind fun r M => if r.length ≤ lim then .ok (.nw r) M else .bad) σ H Q) :
    tLc2 (tI X.K Wc fI) g tt (tI X.K WF fI1) g1 (tT X.K WF fc) (tE X.K WF fe) (own.map (·.2)) own1 σ H (fun v H' => Wf X.K H' → Q v H') := by
  obtain ⟨H0, z, m, M, ρ, hr, hp⟩ := q
  have hp := post_G.mp hp
  refine stepI hr hp fun ds M1 J H1 w1 hr1 f1 hl src hp1 => fun D hD => ?_
  obtain ⟨out, M2, e, hp2⟩ := nx_ok hp1
  by_cases hol : out.length ≤ lim
  case neg => rw [if_neg hol] at hp2; exact hp2.elim
  rw [if_pos hol] at hp2
  have hDm : D ∉ m := fun h => by have := hr1.zt D (hr1.zm D h); rw [hD] at this; cases this
  generalize hown : own.map (·.2) = ow at *
  let z' : Addr → Prop := fun a => z a ∨ a = D
  have hz'D : z' D := .inr rfl
  have hz'm : ∀ a ∈ m, z' a := fun a h => .inl (hr1.zm a h)
  have s0 : Same H1 (upd H1 D (.lst [])) := same_new hD
  refine ⟨fun i n H => n = ds.length - i ∧ CSo X.K H0 z' m ρ σ ow (turn2 tg ow fI1 tg1 own1 ρ fc fe) ds J H1 D out M2 i H, ⟨ds.length, by simp, ⟨M1, [], [], out, Nat.zero_le _, by rw [List.drop_zero]; exact e, rfl, upd_same, .nil, (hr1.add hD (by rw [upd_same]; rfl) s0 (fun xs q => by rw [upd_same] at q; cases q)).wipe ow, src.mono (Mv.add hD (Fz.of_same s0) hr1.zm)⟩, fun a o q _ => s0 _ _ q, fun a h => (Fz.of_same (m := m) s0).some (hr1.zt a (hr1.zm a h))⟩, ?_⟩
  rintro i n H ⟨rfl, ⟨M', acc, vs, rest, hi, e1, e2, h1, h2, h4, h5⟩, kp, th⟩
  by_cases hlt : i < ds.length
  · have ed : ds[i]? = some ds[i] := List.getElem?_eq_getElem hlt
    obtain ⟨go, yl⟩ := h5.go h4.zt ed
    refine .inr ⟨go, fun H' => CSo X.K H0 z' m ρ σ ow (turn2 tg ow fI1 tg1 own1 ρ fc fe) ds J H1 D out M2 (i + 1) H', fun H' c => ⟨_, by omega, rfl, c⟩, fun x H' y => ?_⟩
    obtain ⟨sm, rx⟩ := yl x H' y
    rw [drop_cons ed] at e1
    obtain ⟨o, M3, r', q1, q2, q3⟩ := cLoop2_cons e1
    have hr' := h4.go (.of_same sm) (h4.cells.same sm h4.zm)
    have fs := fz_there kp th (Fz.of_same sm)
    unfold turn2 at q1
    split at q1
    · cases q1
    rename_i ρ' eb
    obtain ⟨ys, M4, g1', g2'⟩ := bind_ok q1
    refine gok H0 z' m M' _ ρ' _ H' x _ _ hr' rx eb fun σ2 hr2 hw => ⟨by rw [hw ow hsl, wipe_wipe], htt _ _ _ ?_⟩
    refine (if_pos rfl).mpr ?_
    refine tI_at hr2 g1' fun J1 H4 w4 hr4 f4 hl4 src4 => ?_
    have mv0 : Mv X.K H' H4 z' z' := Mv.fz f4 hz'm
    have hrO : ERel X.K H0 z' m M4 (wipeD ρ ow) (wipe σ ow) H4 := hr'.beside hr4 mv0
    have hD4 : H4 D = some (.lst vs) := f4.keep _ _ (sm _ _ h1) hDm
    refine ⟨fun j k H => k = ys.length - j ∧ CSi X.K H0 z' m ρ σ ow ρ' σ2 own1 (turn tg1 own1 ρ' fc fe) ys J1 H4 D acc o M3 j H, ⟨ys.length, by simp, ⟨M4, [], vs, o, Nat.zero_le _, by rw [List.drop_zero]; exact g2', rfl, hD4, by rw [List.append_nil]; exact Reps.mono (Mv.fz f4 hz'm) (Reps.mono (Mv.same sm) h2), hrO, hr4.wipe own1, src4⟩, fun a o q _ _ => q, Mv.sub fun a q => q, fun a h => hr4.zt a (hr4.zm a h)⟩, ?_⟩
    rintro j k Hj ⟨rfl, ⟨Mj, accj, vsj, restj, hj, ej1, ej2, hj1, hj2, hjO, hjI, hj5⟩, kpj, mvj, thj⟩
    by_cases hltj : j < ys.length
    · have edj : ys[j]? = some ys[j] := List.getElem?_eq_getElem hltj
      obtain ⟨goj, ylj⟩ := hj5.go hjI.zt edj
      refine .inr ⟨goj, fun H' => CSi X.K H0 z' m ρ σ ow ρ' σ2 own1 (turn tg1 own1 ρ' fc fe) ys J1 H4 D acc o M3 (j + 1) H', fun H' c => ⟨_, by omega, rfl, c⟩, fun xj Hj' yj => ?_⟩
      obtain ⟨smj, rxj⟩ := ylj xj Hj' yj
      rw [drop_cons edj] at ej1
      obtain ⟨oj, M5, r5, p1, p2, p3⟩ := cLoop_cons ej1
      have hrj := hjI.go (.of_same smj) (hjI.cells.same smj hjI.zm)
      have hlv : vsj.length + oj.toList.length ≤ sizeLine := by
        have l1 := hj2.length
        rw [List.length_append] at l1
        have l2 : out.length ≤ sizeLine := hol
        rw [e2, q3, ej2, p3, List.length_append, List.length_append, List.length_append, List.length_append] at l2
        omega
      by_cases hoj : oj.isSome
      · have hll : vsj.length < sizeLine := by
          cases oj with
          | none => cases hoj
          | some d => simp at hlv; omega
        refine comp_turn gok1 hsl1 hrj rxj hz'D hDm (smj _ _ hj1) (Reps.mono (Mv.same smj) hj2) hll p1 fun H6 vs' hf6 hD6 racc hlv6 hr6 => ?_
        have mv : Mv X.K Hj' H6 z' z' := by
          rcases hf6 with f | ⟨H3, f, rfl⟩
          · exact Mv.fz f hz'm
          · exact ⟨fun a o q n => ⟨((Mv.upd (K := X.K) hz'D).keep a o ((Mv.fz (K := X.K) f hz'm).keep a o q n).1 n).1, n⟩⟩
        have mv2 : Mv X.K Hj H6 z' z' := Mv.go2 (Mv.same smj) mv
        refine ⟨⟨M5, accj ++ oj.toList, vs', r5, hltj, p2, by rw [ej2, p3, List.append_assoc], hD6, by rw [← List.append_assoc]; exact racc, hjO.beside hr6 mv2, hr6, hj5.mono mv2⟩, fun a u q n nD => ?_, Mv.go2 mvj mv2, fun a h => hr6.zt a (hr6.zm a h)⟩
        have q1 := smj _ _ (kpj a u q n nD)
        rcases hf6 with f | ⟨H3, f, rfl⟩
        · exact f.keep a u q1 n
        · rw [upd_ne nD]; exact f.keep a u q1 n
      · have hon : oj = none := by cases oj with | none => rfl | some d => exact absurd rfl hoj
        subst hon
        refine comp_turnN gok1 hsl1 hrj rxj hDm p1 fun H6 f hr6 => ?_
        have mv2 : Mv X.K Hj H6 z' z' := Mv.go2 (Mv.same smj) (Mv.fz f hz'm)
        refine ⟨⟨M5, accj, vsj, r5, hltj, p2, by rw [ej2, p3]; rfl, f.keep _ _ (smj _ _ hj1) hDm, Reps.mono mv2 hj2, hjO.beside hr6 mv2, hr6, hj5.mono mv2⟩, fun a u q n nD => f.keep a u (smj _ _ (kpj a u q n nD)) n, Mv.go2 mvj mv2, fun a h => hr6.zt a (hr6.zm a h)⟩
    · have hnj : j = ys.length := by omega
      subst hnj
      refine .inl ⟨hj5.stop rfl, ?_⟩
      rw [List.drop_length] at ej1
      cases ej1
      rw [List.append_nil] at ej2
      subst ej2
      refine ⟨⟨_, acc ++ o, vsj, r', hlt, q2, by rw [e2, q3, List.append_assoc], hj1, hj2, hjO, ((h5.mono (Mv.same sm)).mono mv0).mono mvj⟩, fun a u q n => ?_, thj⟩
      exact kpj a u (f4.keep a u (fs.1 a u q n) n) n (ne_of_none q hD)
  · have hn : i = ds.length := by omega
    subst hn
    refine .inl ⟨h5.stop rfl, fun w' => ?_⟩
    rw [List.drop_length] at e1
    cases e1
    rw [List.append_nil] at e2
    subst e2
    refine hp2 H w' ⟨kp, fun a h _ => th a h⟩ ⟨h4.cells.1, h4.cells.2.1, fun n a xs q1 q2 => ?_⟩ _ ⟨D, vs, rfl, not_0 hr1.h0 hD, not_z hr1.zt hD, h1, h2⟩
    obtain ⟨us, g1, g2, g3⟩ := h4.cells.2.2 n a xs q1 q2
    exact ⟨us, g1, Reps.mono (Mv.sub fun a q => .inl q) g2, g3⟩
end
end Co
end

section
set_option Elab.async false
set_option linter.all false
set_option maxRecDepth 100000
set_option maxHeartbeats 1000000
/-! dicts, list(zip), sorted(set), list(range) -/
namespace Co
open PySem L2
section
variable {X : Cx} {Wc : Nat → Hp → Prop} {fa fb fc : Rho → Mem → Res Vl} {pos : Pos} {a b c : Expr}
theorem s_dnew (t : Bool) : PE X (.Dict [] [] pos) (tE X.K Wc (fun ρ M => .ok (.nwd t []) M)) := by
  cases t with
  | false =>
    refine PE.weak pe_dnewK fun σ H Q w ⟨H0, z, m, M, ρ, hr, hp⟩ p hp' w' => ?_
    exact Post.val hp hr w' (same_new hp') ⟨p, rfl, not_0 hr.h0 hp', not_z hr.zt hp', [], upd_same, .nil⟩
  | true =>
    refine PE.weak pe_dnewT fun σ H Q w ⟨H0, z, m, M, ρ, hr, hp⟩ p hp' w' => ?_
    exact Post.val hp hr w' (same_new hp') ⟨p, rfl, not_0 hr.h0 hp', not_z hr.zt hp', [], upd_same, .nil⟩
theorem s_dget {apos cpos : Pos} (hu : X.A.units + 1 < cLine) (hm : M2 X a "get" apos b c cpos) (ha : PE X a (tE X.K Wc fa)) (hb : PE X b (tE X.K Wc fb)) (hc : PE X c (tE X.K Wc fc)) :
    PE X (.Call (.Attribute a "get" apos) [b, c] [] cpos) (tE X.K Wc (fun ρ M => (fa ρ M).bind fun x M => (Res.lift (dict? x) M).bind fun kvs M => (fb ρ M).bind fun y M => (fc ρ M).bind fun z M => .lift (dgetV kvs y z) M)) := by
  refine PE.weak (pe_dget2 hu ha hb hc hm) fun σ H Q w ⟨H0, z, m, M, ρ, hr, hp⟩ => ?_
  refine step hr hp fun x M1 v1 H1 w1 hr1 f1 rx hp1 => ?_
  cases ed : dict? x with
  | none => rw [ed] at hp1; exact hp1.elim
  | some kvs =>
    rw [ed] at hp1
    have hp1 : Post X.K Wc H0 z m ((fb ρ M1).bind fun y M => (fc ρ M).bind fun z M => .lift (dgetV kvs y z) M) H1 Q := hp1
    obtain ⟨p, hp', isd, _⟩ := (dict_of rx ed).dict_inv
    refine ⟨p, hp', isd, ?_⟩
    refine step hr1 hp1 fun y M2 v2 H2 w2 hr2 f2 ry hp2 => step hr2 hp2 fun u M3 v3 H3 w3 hr3 f3 ru hp3 => ?_
    obtain ⟨l, e, hp4⟩ := hp3.lift
    unfold dgetV at e
    split at e
    · rename_i k d e1 e2
      simp only [Option.map_eq_some_iff] at e
      obtain ⟨o, e3, rfl⟩ := e
      have rx3 := (rx.mono f2 hr.zm).mono f3 hr.zm
      obtain ⟨p', hp'', _, g⟩ := (dict_of rx3 ed).dict_inv
      rw [hp'] at hp''
      cases hp''
      obtain ⟨q, g1, g2⟩ := g v2 k o ((ry.mono f3 hr.zm).get e1) e3
      exact ⟨q, g1, fun w' => hp4.val hr3 w' (Same.refl H3) (g2.getD (ru.get e2))⟩
    · cases e
theorem s_lzip {p p2 q0 : Pos} (hg : Gl X "list") (hm : X.mg "list" = none) (hg2 : Gl X "zip") (hm2 : X.mg "zip" = none) (hcm : X.calm = true) (hpl : plain a = true) (hpb : plain b = true) (ha : PE X a (tE X.K Wc fa)) (hb : PE X b (tE X.K Wc fb)) :
    PE X (.Call (.Name "list" p) [.Call (.Name "zip" p2) [a, b] [] q0] [] pos) (tE X.K Wc (fun ρ M => (fa ρ M).bind fun x M => (fb ρ M).bind fun y M => .lift ((zip? x y).map .nw) M)) := by
  refine PE.weak (pe_lzip hcm hg hm hg2 hm2 (pa_cons ha (pa_cons hb pa_nil (plain_star hpb _)) (plain_star hpl _)) (plain_star hpl _) (plain_any (fun x hx => by rw [List.mem_singleton.mp hx]; exact hpb) _ _)) fun σ H Q w ⟨H0, z, m, M, ρ, hr, hp⟩ => ?_
  refine step hr hp fun x M1 v1 H1 w1 hr1 f1 rx hp1 => step hr1 hp1 fun y M2 v2 H2 w2 hr2 f2 ry hp2 => ?_
  obtain ⟨l, e, hp3⟩ := hp2.lift
  simp only [Option.map_eq_some_iff] at e
  obtain ⟨qs, e1, rfl⟩ := e
  obtain ⟨xs, ys, g1, g2, rfl⟩ := zip_some e1
  obtain ⟨t, a, vs, rfl, h1, n1, r1⟩ := seq_kin (rx.mono f2 hr.zm) g1
  obtain ⟨u, b, us, rfl, h2, n2, r2⟩ := seq_kin ry g2
  refine ⟨kin t, kin u, a, b, vs, us, rfl, kin_of h1, kin_of h2, sq_len w2 h1, fun H' p ts mono np nt nin hp' hl hat w' => ?_⟩
  have sm : Same H2 H' := fun c o e => mono c o e
  refine hp3.val hr2 w' sm ⟨p, ts.map V.ref, rfl, not_0 hr2.h0 np, not_z hr2.zt np, hp', ?_⟩
  have z1 : ∀ c, H2 c = none → ¬ z c := fun c hc => not_z hr2.zt hc
  have ra : Reps X.K H' z vs xs := Reps.mono (Mv.same sm) r1
  have rb : Reps X.K H' z us ys := Reps.mono (Mv.same sm) r2
  have mvz : Mv X.K H2 H' z (fun c => z c ∨ c = p) := ⟨fun c o e n => ⟨sm _ _ e, fun q => q.elim n fun q => by rw [q, np] at e; cases e⟩⟩
  have ra : Reps X.K H' (fun c => z c ∨ c = p) vs xs := Reps.mono mvz r1
  have rb : Reps X.K H' (fun c => z c ∨ c = p) us ys := Reps.mono mvz r2
  have all : ∀ (ts : List Addr) (vs us : List V) (xs ys : List Dt), Reps X.K H' (fun c => z c ∨ c = p) vs xs → Reps X.K H' (fun c => z c ∨ c = p) us ys → ts.length = min vs.length us.length → (∀ t ∈ ts, ¬ (z t ∨ t = p)) → (∀ (j : Nat) (t : Addr), ts[j]? = some t → ∃ x y, vs[j]? = some x ∧ us[j]? = some y ∧ H' t = some (.tup [x, y])) →
      Reps X.K H' (fun c => z c ∨ c = p) (ts.map V.ref) ((xs.zip ys).map fun q => .tuple [q.1, q.2]) := by
    intro ts
    induction ts with
    | nil =>
      intro vs us xs ys h1 h2 hl _ _
      have l1 := h1.length
      have l2 := h2.length
      have : (xs.zip ys) = [] := by
        apply List.eq_nil_of_length_eq_zero
        rw [List.length_zip, ← l1, ← l2]; exact hl.symm
      rw [this]; exact .nil
    | cons t ts ih =>
      intro vs us xs ys h1 h2 hl hn hat
      cases h1 with
      | nil => simp at hl
      | cons ha ta =>
        cases h2 with
        | nil => simp at hl
        | cons hb tb =>
          obtain ⟨x, y, e1, e2, e3⟩ := hat 0 t rfl
          cases e1; cases e2
          refine .cons (.tup e3 (hn t List.mem_cons_self) (.cons ha (.cons hb .nil))) (ih _ _ _ _ ta tb (by simp at hl; omega) (fun u hu => hn u (List.mem_cons_of_mem _ hu)) fun j u hj => ?_)
          simpa using hat (j + 1) u (by simpa using hj)
  exact all ts vs us xs ys ra rb hl (fun t ht q => q.elim (z1 t (nt t ht)) fun q => nin (q ▸ ht)) hat
theorem s_srt {p p2 q0 : Pos} (hg : Gl X "sorted") (hm : X.mg "sorted" = none) (hg2 : Gl X "set") (hm2 : X.mg "set" = none) (hcm : X.calm = true) (hpl : plain a = true) (ha : PE X a (tE X.K Wc fa)) :
    PE X (.Call (.Name "sorted" p) [.Call (.Name "set" p2) [a] [] q0] [] pos) (tE X.K Wc (fun ρ M => (fa ρ M).bind fun x M => .lift (srtV x) M)) := by
  have inner := pe_callTy (p := p2) (pos := q0) (orC (cr_setI hcm) (cr_setIT hcm)) hg2 hm2 (by decide +kernel) (pa_cons ha pa_nil (plain_star hpl _)) (by decide) (by decide) (plain_star hpl _) rfl
  refine PE.weak (pe_callB (p := p) (pos := pos) (cr_sortedSet hcm) hg hm (by decide +kernel) (pa_cons inner pa_nil rfl) (by decide) (by decide) rfl rfl) fun σ H Q w ⟨H0, z, m, M, ρ, hr, hp⟩ => ?_
  refine step hr hp fun x M1 v1 H1 w1 hr1 f1 rx hp1 => ?_
  obtain ⟨l, e, hp2⟩ := hp1.lift
  unfold srtV at e
  simp only [Option.bind_eq_some_iff] at e
  obtain ⟨ns, ⟨ds, e1, e2⟩, e3⟩ := e
  obtain ⟨hl, rfl⟩ := optIf e3
  have rl : Rep X.K H1 z v1 (.list ds) ∨ Rep X.K H1 z v1 (.tuple ds) := by
    unfold seq? at e1
    split at e1
    · cases e1; exact .inl rx
    · cases e1; exact .inr rx
    · cases e1; exact .inl (RepV.get rx rfl)
    · cases e1
  have fin : ∀ (p : Addr) (c : Nat), H1 p = none → (∀ ms : List Int, ms.Nodup → (∀ k, k ∈ ms ↔ k ∈ ns) → ms.length = c) → rSortedSet X.w [.ref p] (upd H1 p (SetO X.w p (fun j => decide (j ∈ ns)) c)) (fun v H' => Wf X.K H' → Q v H') := fun p c np hc => ⟨p, fun j => decide (j ∈ ns), c, rfl, upd_same, by
    rw [← hc (srtU ns) ((srtU_lt ns).imp fun q e => by omega) fun k => mem_srtU k ns]; exact hl.2, fun out p' hs hmem hlen np' w' => by
    have : out = srtU ns := lt_uniq hs (srtU_lt ns) fun k => by rw [hmem k, mem_srtU]; simp
    subst this
    have np1 : H1 p' = none := by
      unfold upd at np'
      split at np'
      · cases np'
      · exact np'
    refine hp2.val hr1 w' (fun b x e => ?_) ⟨p', _, rfl, not_0 hr1.h0 np1, not_z hr1.zt np1, upd_same, Reps.of_ints _⟩
    rw [upd_ne (ne_of_none e np1), upd_ne (ne_of_none e np)]
    exact e⟩
  rcases rl with rl | rl
  · obtain ⟨q, vs, rfl, h1, n1, r1⟩ := rl.list_inv
    have := r1.ints e2
    subst this
    exact .inl ⟨q, ns, rfl, .of h1, hl.1, fin⟩
  · obtain ⟨q, vs, rfl, h1, n1, r1⟩ := rl.tup_inv
    have := r1.ints e2
    subst this
    exact .inr ⟨q, ns, rfl, .of h1, hl.1, fin⟩
theorem rgV_eq (i j : Int) : rgV i j = (rngs i (j - i).toNat).map fun d => match d with
    | .int k => V.int k
    | _ => .non := by
  unfold rgV rngs
  rw [List.map_map]
  rfl
theorem reps_rng {K : PySem.W.Frag} {H : Hp} {z : Addr → Prop} (i j : Int) : Reps K H z (rgV i j) (rngs i (j - i).toNat) := by
  rw [rgV_eq]
  unfold rngs
  generalize (j - i).toNat = n
  rw [List.map_map]
  generalize List.range n = l
  induction l with
  | nil => exact .nil
  | cons a l ih => exact .cons (.int _) ih
theorem s_lrg1 {p p2 q0 : Pos} (hg : Gl X "list") (hm : X.mg "list" = none) (hg2 : Gl X "range") (hm2 : X.mg "range" = none) (hcm : X.calm = true) (hpl : plain a = true) (ha : PE X a (tE X.K Wc fa)) :
    PE X (.Call (.Name "list" p) [.Call (.Name "range" p2) [a] [] q0] [] pos) (tE X.K Wc (fun ρ M => (fa ρ M).bind fun v M => match v with
      | .dat (.int j) => .lift ((rng 0 j).map .nw) M
      | _ => .bad)) := by
  refine PE.weak (pe_listRg hcm hg hm (prg_1 hg2 hm2 ha (plain_star hpl _)) rfl) fun σ H Q w ⟨H0, z, m, M, ρ, hr, hp⟩ => ?_
  refine step hr hp fun l M1 v1 H1 w1 hr1 f1 rx hp1 => ?_
  split at hp1
  · rename_i j
    obtain ⟨u, e, hp2⟩ := hp1.lift
    simp only [Option.map_eq_some_iff] at e
    obtain ⟨ds, e1, rfl⟩ := e
    obtain ⟨h1, rfl, h2, h3, h4, h5⟩ := rng_len e1
    have hl : (j - 0).toNat ≤ 2 ^ 24 := by
      have e : (rngs 0 (j - 0).toNat).length = (j - 0).toNat := by simp [rngs]
      rw [e, sizeLine_eq] at h1; exact h1
    refine ⟨j, Rep.int_inv rx, ⟨h2, h3, h4, h5, hl⟩, fun q hq w' => ?_⟩
    exact hp2.val hr1 w' (same_new hq) (new_nw w' hr1.zt hr1.h0 hq (reps_rng 0 j))
  · exact hp1.elim
theorem s_trg1 {p p2 q0 : Pos} (hg : Gl X "tuple") (hm : X.mg "tuple" = none) (hg2 : Gl X "range") (hm2 : X.mg "range" = none) (hcm : X.calm = true) (hpl : plain a = true) (ha : PE X a (tE X.K Wc fa)) :
    PE X (.Call (.Name "tuple" p) [.Call (.Name "range" p2) [a] [] q0] [] pos) (tE X.K Wc (fun ρ M => (fa ρ M).bind fun v M => match v with
      | .dat (.int j) => .lift ((rng 0 j).map fun ds => .dat (.tuple ds)) M
      | _ => .bad)) := by
  refine PE.weak (pe_tupRg hcm hg hm (prg_1 hg2 hm2 ha (plain_star hpl _)) rfl) fun σ H Q w ⟨H0, z, m, M, ρ, hr, hp⟩ => ?_
  refine step hr hp fun l M1 v1 H1 w1 hr1 f1 rx hp1 => ?_
  split at hp1
  · rename_i j
    obtain ⟨u, e, hp2⟩ := hp1.lift
    simp only [Option.map_eq_some_iff] at e
    obtain ⟨ds, e1, rfl⟩ := e
    obtain ⟨h1, rfl, h2, h3, h4, h5⟩ := rng_len e1
    have hl : (j - 0).toNat ≤ 2 ^ 24 := by
      have e : (rngs 0 (j - 0).toNat).length = (j - 0).toNat := by simp [rngs]
      rw [e, sizeLine_eq] at h1; exact h1
    refine ⟨j, Rep.int_inv rx, ⟨h2, h3, h4, h5, hl⟩, fun q hq w' => ?_⟩
    exact hp2.val hr1 w' (same_new hq) (new_tup hr1.zt hq (reps_rng 0 j))
  · exact hp1.elim
theorem s_lrg2 {p p2 q0 : Pos} (hg : Gl X "list") (hm : X.mg "list" = none) (hg2 : Gl X "range") (hm2 : X.mg "range" = none) (hcm : X.calm = true) (hpl : plain a = true) (hpb : plain b = true) (ha : PE X a (tE X.K Wc fa)) (hb : PE X b (tE X.K Wc fb)) :
    PE X (.Call (.Name "list" p) [.Call (.Name "range" p2) [a, b] [] q0] [] pos) (tE X.K Wc (fun ρ M => (fa ρ M).bind fun v M => (fb ρ M).bind fun u M => match v, u with
      | .dat (.int i), .dat (.int j) => .lift ((rng i j).map .nw) M
      | _, _ => .bad)) := by
  refine PE.weak (pe_listRg hcm hg hm (prg_2 hg2 hm2 ha hb (plain_star hpl _) (plain_star hpb _) (plain_any (fun x hx => by rw [List.mem_singleton.mp hx]; exact hpb) _ _)) rfl) fun σ H Q w ⟨H0, z, m, M, ρ, hr, hp⟩ => ?_
  refine step hr hp fun l M1 v1 H1 w1 hr1 f1 rx hp1 => step hr1 hp1 fun l2 M2 v2 H2 w2 hr2 f2 ry hp2 => ?_
  split at hp2
  · rename_i i j
    obtain ⟨u, e, hp3⟩ := hp2.lift
    simp only [Option.map_eq_some_iff] at e
    obtain ⟨ds, e1, rfl⟩ := e
    obtain ⟨h1, rfl, h2, h3, h4, h5⟩ := rng_len e1
    have hl : (j - i).toNat ≤ 2 ^ 24 := by
      have e : (rngs i (j - i).toNat).length = (j - i).toNat := by simp [rngs]
      rw [e, sizeLine_eq] at h1; exact h1
    refine ⟨i, j, Rep.int_inv rx, Rep.int_inv ry, ⟨h2, h3, h4, h5, hl⟩, fun q hq w' => ?_⟩
    exact hp3.val hr2 w' (same_new hq) (new_nw w' hr2.zt hr2.h0 hq (reps_rng i j))
  · exact hp2.elim
end
end Co
end

section
set_option Elab.async false
set_option linter.all false
set_option maxRecDepth 100000
set_option maxHeartbeats 2000000
/-! every expression -/
namespace Co
open PySem L2
structure Gd (N : List Str) (gv : List (Str × GV)) (cf : Nat → List Vl → Mem → Res Vl) (cls : Nat → Addr) (k : Nat) (Wc : Nat → Hp → Prop) (sc : Scope) (X : Cx) : Prop where
  nm : Nm N sc X
  room : Room k X.A
  fn : ∀ x i, gv.lookup x = some (.fn i) → ∃ fa fd ps, X.mg x = some (.ref fa) ∧ PySem.W.keepIn X.K (.ref fa) = true ∧ Binds X.K fd ps [] ∧ FnOk X.prog X.w X.K X.mg X.base (CX X.prog X.w) k fa fd ps (spOf X.K cls ps.length (cf i)) ∧ ∀ as M, as.length ≠ ps.length → cf i as M = .bad
  cst : ∀ x i, gv.lookup x = some (.cst i) → ∃ u, X.mg x = some u ∧ RelV (.int i) u
  blt : ∀ x, gv.lookup x = some .blt → X.mg x = none
  pass : Passes (CX X.prog X.w) X (WE cls Wc)
section
variable {N : List Str} {gv : List (Str × GV)} {cf : Nat → List Vl → Mem → Res Vl} {cls : Nat → Addr} {k : Nat} {Wc : Nat → Hp → Prop} {sc : Scope} {X : Cx}
theorem lookup_relab {f : Str → NameKind → NameKind} : ∀ {names : List (Str × NameKind)} {x : Str}, (names.map fun (n, k) => (n, f n k)).lookup x = (names.lookup x).map (f x)
  | [], _ => rfl
  | (n, k) :: r, x => by
    show List.lookup x ((n, f n k) :: (r.map _)) = _
    simp only [List.lookup_cons]
    cases h : x == n with
    | true =>
      have := eq_of_beq h
      subst this
      rfl
    | false => exact lookup_relab
theorem Gd.blk (G : Gd N gv cf cls k Wc sc X) (scope : Scope) (s : Shared) (H : Hp) (C : Addr) (cl : List (Str × Addr)) (fp : List Addr) : Gd N gv cf cls k WF scope (X.blk s H scope (compEnvC scope cl C X.env) fp) where
  nm := {
    nd := G.nm.nd
    n := G.nm.n
    nm := fun x kd h => by
      have e : (relabel scope X.env).names.lookup x = (scope.names.lookup x).map (fun k => if (k == .free && X.env.scope.kind == .function && X.env.kindOf x == some .cell) = true then .cell else k) := by
        unfold relabel
        rw [← lookup_relab (f := fun n k => if (k == .free && X.env.scope.kind == .function && X.env.kindOf n == some .cell) = true then .cell else k)]
        congr 1
        refine List.map_congr_left fun p _ => ?_
        obtain ⟨n, k⟩ := p
        show (if _ then _ else _) = (n, if _ then _ else _)
        split <;> rfl
      show (relabel scope X.env).names.lookup x = some kd ∨ _
      have e' : (compEnvC scope cl C X.env).scope.names.lookup x = _ := e
      rw [h] at e e'
      by_cases hc : (kd == .free && X.env.scope.kind == .function && X.env.kindOf x == some .cell) = true
      · right
        simp only [Option.map_some, hc, if_true] at e'
        refine ⟨?_, e'⟩
        simp only [Bool.and_eq_true] at hc
        exact eq_of_beq hc.1.1
      · left
        simp only [Option.map_some, if_neg hc] at e
        exact e
    fnc := fun x h => by
      show (scope.names.lookup x == some .cell) = true
      rw [h]; rfl
    calm := G.nm.calm }
  room := G.room
  fn := G.fn
  cst := G.cst
  blt := G.blt
  pass := fun pins σ H s e s' _ h => by
    obtain ⟨a, B, H', c, d, _, _, _, _, _, _, _, j, _, _, q⟩ := h
    exact q.elim
theorem isVis_ok (G : Nm N sc X) {x : Str} (h : isVis sc x = true) : Vis X.env.scope x := by
  unfold isVis at h
  split at h
  · rename_i q
    rcases G.nm _ _ q with q | q
    · exact .inl q
    · cases q.1
  · rename_i q
    rcases G.nm _ _ q with q | q
    · exact .inr (.inl q)
    · cases q.1
  · rename_i q
    rcases G.nm _ _ q with q | q
    · exact .inr (.inr q)
    · exact .inr (.inl q.2)
  · cases h
theorem isGl_ok (G : Nm N sc X) {x : Str} (h : isGl sc x = true) : Gl X x := by
  unfold isGl at h
  split at h
  · rename_i q
    rcases G.nm _ _ q with q | q
    · exact q
    · cases q.1
  · cases h
theorem nOk_ok {x : Str} (h : nOk x = true) : (x == ("__debug__" : Str)) = false ∧ (x == ("__classdict__" : Str)) = false ∧ x ≠ "__name__" := by
  unfold nOk at h
  simp only [Bool.and_eq_true, Bool.not_eq_true'] at h
  exact ⟨h.1.1, h.1.2, fun e => by rw [e] at h; simp at h⟩
theorem isBlt_ok (G : Gd N gv cf cls k Wc sc X) {x : Str} (h : isBlt gv sc x = true) : Gl X x ∧ X.mg x = none ∧ x ≠ "__name__" ∧ (x == ("__debug__" : Str)) = false := by
  unfold isBlt at h
  simp only [Bool.and_eq_true] at h
  obtain ⟨⟨h1, h2⟩, h3⟩ := h
  have n := nOk_ok h2
  split at h3
  · rename_i q
    exact ⟨isGl_ok G.nm h1, G.blt _ q, n.2.2, n.1⟩
  · cases h3
theorem foldedS {e : Expr} (h : plain e = true) (env : Env) (x : Value) : foldedSetIterable e env x = pure x := by cases e <;> first | rfl | cases h
theorem behind_ok {e : Expr} (h : plain e = true) (op : CmpOp) : behindInMarks op e = false := by cases e <;> first | rfl | cases h
theorem ownsOf_snd (own : List Nat) : (ownsOf N own).map (·.2) = own := by
  unfold ownsOf
  rw [List.map_map]
  exact List.map_id' own
theorem opS_of_is {o : Op} {op : Operator} (h : opIs o op = true) : OpS X (binaryOp op) (opV o) := by
  unfold opIs at h
  split at h
  · exact opS_add
  · exact opS_sub
  · exact opS_mul
  · exact opS_fdiv
  · exact opS_mod
  · exact opS_pow
  · cases h
theorem cpS_of_is {c : Cp} {op : CmpOp} (hr : Room k X.A) (h : cpIs c op = true) : OpS X (compareOp op) (cmpV c) := by
  have hu := hr.un
  have hu1 : X.A.units + 64 < cLine := by omega
  have hu2 : X.A.units + 65 < cLine := by omega
  have hu3 : X.A.units < cLine := by omega
  unfold cpIs at h
  split at h
  · exact cmpS_eq hu1
  · exact cmpS_ne hu1
  · exact cmpS_lt hu3
  · exact cmpS_le
  · exact cmpS_gt
  · exact cmpS_ge
  · exact cmpS_mem hu2
  · exact cmpS_nmem hu2
  · exact cmpS_is
  · exact cmpS_isn
  · cases h
theorem last_ok {op op' : CmpOp} {b c : Expr} (h : plain c = true) : lastMarks [op, op'] [b, c] = false := by
  show lastMarks [op'] [c] = false
  exact behind_ok h op'
theorem last3_ok {o1 o2 o3 : CmpOp} {b c d : Expr} (h : plain d = true) : lastMarks [o1, o2, o3] [b, c, d] = false := by
  show lastMarks [o3] [d] = false
  exact behind_ok h o3
theorem evs_len : ∀ (e : Exs) (es : List Expr) (ρ : Rho) (M M' : Mem) (ls : List Vl), chkEs N gv e sc es = true → evs cf e ρ M = .ok ls M' → ls.length = es.length
  | .nil, es, ρ, M, M', ls, h, e => by
    simp only [chkEs] at h
    simp only [evs] at e
    cases e
    have : es = [] := by simpa using h
    rw [this]
    rfl
  | .cons x xs, es, ρ, M, M', ls, h, e => by
    cases es with
    | nil => simp [chkEs] at h
    | cons y ys =>
      simp only [chkEs, Bool.and_eq_true] at h
      simp only [evs] at e
      obtain ⟨v, M1, e1, e2⟩ := bind_ok e
      obtain ⟨vs, M2, e3, e4⟩ := bind_ok e2
      cases e4
      rw [List.length_cons, List.length_cons, evs_len xs ys ρ M1 M' vs h.2 e3]
theorem chkEs_plain : ∀ (e : Exs) (es : List Expr), chkEs N gv e sc es = true → ∀ x ∈ es, plain x = true
  | .nil, es, h, x, hx => by
    simp only [chkEs] at h
    cases es with
    | nil => cases hx
    | cons _ _ => simp at h
  | .cons y ys, es, h, x, hx => by
    cases es with
    | nil => cases hx
    | cons e es =>
      simp only [chkEs, Bool.and_eq_true] at h
      rcases List.mem_cons.mp hx with q | q
      · rw [q]; exact h.1.1
      · exact chkEs_plain ys es h.2 x q
theorem callB_ok (G : Gd N gv cf cls k Wc sc X) {x : Str} (h : isBlt gv sc x = true) {id : String} (hv : bootBuiltins x = some (.builtin id)) {e : Expr} {es : List Expr} {p pos : Pos} (hp : ∀ y ∈ e :: es, plain y = true) : ∀ {r : List V → Hp → VK → Prop} {t : TA}, CallR X (.builtin id) r → PA X (e :: es) t → PE X (.Call (.Name x p) (e :: es) [] pos) (tCB r t) := fun hc ha =>
  let ⟨h1, h2, h3, h4⟩ := isBlt_ok G h
  pe_callB hc h1 h2 hv ha h3 h4 (plain_star (hp e List.mem_cons_self) _) (plain_any (fun x hx => hp x (List.mem_cons_of_mem _ hx)) _ _)
theorem callT_ok (G : Gd N gv cf cls k Wc sc X) {x : Str} (h : isBlt gv sc x = true) {T : String} (hv : bootBuiltins x = some (.type T)) {e : Expr} {es : List Expr} {p pos : Pos} (hp : ∀ y ∈ e :: es, plain y = true) : ∀ {r : List V → Hp → VK → Prop} {t : TA}, CallR X (.type T) r → PA X (e :: es) t → PE X (.Call (.Name x p) (e :: es) [] pos) (tCB r t) := fun hc ha =>
  let ⟨h1, h2, h3, h4⟩ := isBlt_ok G h
  pe_callTy hc h1 h2 hv ha h3 h4 (plain_star (hp e List.mem_cons_self) _) (plain_any (fun x hx => hp x (List.mem_cons_of_mem _ hx)) _ _)
theorem biS (G : Gd N gv cf cls k Wc sc X) {b : Bi} (ht : biTy b = none) {x : Str} (h : isBlt gv sc x = true) (hx : x = biName b) {e : Expr} {es : List Expr} {p pos : Pos} {fs : Rho → Mem → Res (List Vl)} (hp : ∀ y ∈ e :: es, plain y = true) (ha : PA X (e :: es) (tA X.K Wc fs)) :
    PE X (.Call (.Name x p) (e :: es) [] pos) (tE X.K Wc (fun ρ M => (fs ρ M).bind fun vs M => .lift (biV b vs) M)) := by
  have hc := G.nm.calm
  subst hx
  cases b with
  | len => exact s_bi (callB_ok G h (by decide +kernel) hp) callS_len ha
  | max => exact s_bi (callB_ok G h (by decide +kernel) hp) (callS_max hc) ha
  | min => exact s_bi (callB_ok G h (by decide +kernel) hp) (callS_min hc) ha
  | sum => exact s_bi (callB_ok G h (by decide +kernel) hp) (callS_sum hc) ha
  | all => exact s_bi (callB_ok G h (by decide +kernel) hp) (callS_all hc) ha
  | any => exact s_bi (callB_ok G h (by decide +kernel) hp) (callS_any hc) ha
  | tuple => exact s_bi (callT_ok G h (by decide +kernel) hp) callS_tuple ha
  | list => exact s_bi (callT_ok G h (by decide +kernel) hp) callS_list ha
  | sorted => exact s_bi (callB_ok G h (by decide +kernel) hp) (callS_sorted hc) ha
  | int => exact s_bi (callT_ok G h (by decide +kernel) hp) callS_int ha
  | _ => cases ht
theorem isiS (G : Gd N gv cf cls k Wc sc X) {b : Bi} {t : Str} (ht : biTy b = some t) {x u : Str} (h : isBlt gv sc x = true) (hx : x = biName b) (hu : isBlt gv sc u = true) (hut : u = t) {e : Expr} {p pu pos : Pos} {fa : Rho → Mem → Res Vl} (hp : plain e = true) (ha : PE X e (tE X.K Wc fa)) :
    PE X (.Call (.Name x p) [e, .Name u pu] [] pos) (tE X.K Wc (fun ρ M => (fa ρ M).bind fun v M => .lift (biV b [v]) M)) := by
  obtain ⟨h1, h2, h3, h4⟩ := isBlt_ok G h
  obtain ⟨u1, u2, u3, u4⟩ := isBlt_ok G hu
  have hs : starEach [e, .Name u pu] X.env = (false, eval e X.env) :: starEach [.Name u pu] X.env := plain_star hp _
  cases b with
  | isInt => cases ht; subst hx hut; exact s_isi (t := "int") (by decide) h1 h2 u1 u2 (by decide +kernel) u3 u4 ha hs
  | isBool => cases ht; subst hx hut; exact s_isi (t := "bool") (by decide) h1 h2 u1 u2 (by decide +kernel) u3 u4 ha hs
  | isTuple => cases ht; subst hx hut; exact s_isi (t := "tuple") (by decide) h1 h2 u1 u2 (by decide +kernel) u3 u4 ha hs
  | isList => cases ht; subst hx hut; exact s_isi (t := "list") (by decide) h1 h2 u1 u2 (by decide +kernel) u3 u4 ha hs
  | isStr => cases ht; subst hx hut; exact s_isi (t := "str") (by decide) h1 h2 u1 u2 (by decide +kernel) u3 u4 ha hs
  | _ => cases ht
theorem eqE {e : Expr} {f g : Rho → Mem → Res Vl} (h : PE X e (tE X.K Wc f)) (hfg : ∀ ρ M, g ρ M = f ρ M) : PE X e (tE X.K Wc g) := by
  have : g = f := funext fun ρ => funext fun M => hfg ρ M
  rw [this]; exact h
theorem eqT {e : Expr} {f g : Rho → Mem → Res Vl} (h : PT X e (tT X.K Wc f)) (hfg : ∀ ρ M, g ρ M = f ρ M) : PT X e (tT X.K Wc g) := by
  have : g = f := funext fun ρ => funext fun M => hfg ρ M
  rw [this]; exact h
theorem eqW {e : Expr} {f g : Rho → Mem → Res Vl} (h : PW X e (tT X.K Wc f)) (hfg : ∀ ρ M, g ρ M = f ρ M) : PW X e (tT X.K Wc g) := by
  have : g = f := funext fun ρ => funext fun M => hfg ρ M
  rw [this]; exact h
theorem eqA {e : List Expr} {f g : Rho → Mem → Res (List Vl)} (h : PA X e (tA X.K Wc f)) (hfg : ∀ ρ M, g ρ M = f ρ M) : PA X e (tA X.K Wc g) := by
  have : g = f := funext fun ρ => funext fun M => hfg ρ M
  rw [this]; exact h
theorem eqI {tg e : Expr} {f g : Rho → Mem → Res (List Dt)} (h : PI X tg e (tI X.K Wc f)) (hfg : ∀ ρ M, g ρ M = f ρ M) : PI X tg e (tI X.K Wc g) := by
  have : g = f := funext fun ρ => funext fun M => hfg ρ M
  rw [this]; exact h
theorem plain_ix {e : Expr} (h : plain e = true) : PlainIx e := by cases e <;> first | exact fun _ _ => rfl | cases h
end
theorem blk_relS {N : List Str} {own : List (Str × Nat)} {sc scope : Scope} {X : Cx} (nm : Nm N sc X) (h : BlkOk N sc scope own) : BlkOk N X.env.scope scope own :=
  ⟨h.kind, h.uniq, h.ix, fun y hy e => by
    rcases h.free y hy e with q | q
    · rcases nm.nm _ _ q with q | q
      · exact .inl q
      · cases q.1
    · rcases nm.nm _ _ q with q | q
      · exact .inr q
      · exact .inl q.2, h.own⟩
mutual
theorem sGb {N : List Str} {scope : Scope} {X : Cx} (nm : ∀ (s : Shared) (H : Hp) (C : Addr) (cl : List (Str × Addr)) (fp : List Addr), Nm N scope (X.blk s H scope (compEnvC scope cl C X.env) fp)) : ∀ (t : Tg) (e : Expr), chkG N t scope e = true → ∃ g, (∀ (s : Shared) (H : Hp) (C : Addr) (cl : List (Str × Addr)) (fp : List Addr), PG (X.blk s H scope (compEnvC scope cl C X.env) fp) e g) ∧ GOk X.K t g
  | .nm i, e, h => by
    unfold chkG at h
    split at h
    · rename_i x p
      simp only [Bool.and_eq_true, decide_eq_true_eq] at h
      obtain ⟨h1, h2⟩ := h
      refine ⟨gName i, fun s H C cl fp => ?_, g_nm i⟩
      have n := nm s H C cl fp
      have h2 : (X.blk s H scope (compEnvC scope cl C X.env) fp).N[i]? = some x := by rw [n.n]; exact h2
      rcases isLoc_ok h1 with k | k
      · rcases n.nm _ _ k with q | q
        · exact pg_name n.nd h2 (.inl q) (.inr q)
        · cases q.1
      · rcases n.nm _ _ k with q | q
        · exact pg_name n.nd h2 (.inr q) (.inl (n.fnc _ k))
        · cases q.1
    · cases h
  | .tp ts, e, h => by
    unfold chkG at h
    split at h
    · rename_i es k p
      obtain ⟨gs, h1, h2, h3⟩ := sGbs nm ts es h
      refine ⟨gTup X.K es.length gs, fun s H C cl fp => pg_tup (nm s H C cl fp).calm (h1 s H C cl fp) (n := es.length) ?_ ?_, g_tp h2 fun ds ρ ρ' e => tgs_len ts ds ρ ρ' N scope es e h⟩
      · rw [plain_assign h3, List.length_map]
      · rw [plain_assign h3, List.findIdx?_map]
        simp [List.findIdx?_eq_none_iff]
    · cases h
theorem sGbs {N : List Str} {scope : Scope} {X : Cx} (nm : ∀ (s : Shared) (H : Hp) (C : Addr) (cl : List (Str × Addr)) (fp : List Addr), Nm N scope (X.blk s H scope (compEnvC scope cl C X.env) fp)) : ∀ (ts : Tgs) (es : List Expr), chkGs N ts scope es = true → ∃ g, (∀ (s : Shared) (H : Hp) (C : Addr) (cl : List (Str × Addr)) (fp : List Addr), PGs (X.blk s H scope (compEnvC scope cl C X.env) fp) es g) ∧ GsOk X.K ts g ∧ ∀ e ∈ es, plain e = true
  | .nil, es, h => by
    unfold chkGs at h
    split at h
    · exact ⟨gNil, fun s H C cl fp => pgs_nil, gs_nil, fun _ h => nomatch h⟩
    · cases h
  | .cons t ts, es, h => by
    unfold chkGs at h
    split at h
    · rename_i e es
      simp only [Bool.and_eq_true] at h
      obtain ⟨⟨h0, h1⟩, h2⟩ := h
      obtain ⟨g, a1, a2⟩ := sGb nm t e h1
      obtain ⟨gs, b1, b2, b3⟩ := sGbs nm ts es h2
      have hp : ∀ x ∈ e :: es, plain x = true := fun x hx => (List.mem_cons.mp hx).elim (fun q => by rw [q]; exact h0) (b3 x)
      exact ⟨gCons g gs, fun s H C cl fp => pgs_cons (a1 s H C cl fp) (b1 s H C cl fp) (by rw [plain_assign hp, plain_assign b3]; rfl), gs_cons a2 b2, hp⟩
    · cases h
end
theorem mkBi {N : List Str} {gv : List (Str × GV)} {cf : Nat → List Vl → Mem → Res Vl} {cls : Nat → Addr} {k : Nat} {Wc : Nat → Hp → Prop} {sc : Scope} {X : Cx} (G : Gd N gv cf cls k Wc sc X) {b : Bi} {es : Exs} {x : Str} {xs : List Expr} {p pos : Pos}
    (h : (isBlt gv sc x && decide (x = biName b) && (match biTy b with
      | some t => (match es, xs with
        | .cons a .nil, [y, .Name u _] => plain y && isBlt gv sc u && decide (u = t) && chkE N gv a sc y
        | _, _ => false)
      | none => !xs.isEmpty && chkEs N gv es sc xs)) = true)
    (h1 : ∀ a y, es = .cons a .nil → chkE N gv a sc y = true → PE X y (tE X.K Wc (ev cf a))) (h2 : chkEs N gv es sc xs = true → PA X xs (tA X.K Wc (evs cf es))) : PE X (.Call (.Name x p) xs [] pos) (tE X.K Wc (ev cf (.bi b es))) := by
  simp only [Bool.and_eq_true, decide_eq_true_eq] at h
  obtain ⟨⟨g1, g2⟩, h3⟩ := h
  split at h3
  · rename_i t ht
    split at h3
    · simp only [Bool.and_eq_true, decide_eq_true_eq] at h3
      obtain ⟨⟨⟨k1, k2⟩, k3⟩, k4⟩ := h3
      refine eqE (isiS G ht g1 g2 k2 k3 k1 (h1 _ _ rfl k4)) fun ρ M => ?_
      simp only [ev, evs]
      cases ev cf _ ρ M <;> rfl
    · cases h3
  · rename_i ht
    simp only [Bool.and_eq_true, Bool.not_eq_true'] at h3
    cases xs with
    | nil => exact absurd h3.1 (by simp)
    | cons y ys => exact eqE (biS G ht g1 g2 (chkEs_plain es _ h3.2) (h2 h3.2)) fun ρ M => by simp only [ev]
theorem mkCall {N : List Str} {gv : List (Str × GV)} {cf : Nat → List Vl → Mem → Res Vl} {cls : Nat → Addr} {k : Nat} {Wc : Nat → Hp → Prop} {sc : Scope} {X : Cx} (G : Gd N gv cf cls k Wc sc X) {f : Nat} {es : Exs} {x : Str} {xs : List Expr} {p pos : Pos}
    (h : (isGl sc x && nOk x && (match gv.lookup x with
      | some (.fn j) => decide (f = j)
      | _ => false) && chkEs N gv es sc xs) = true) (hs : chkEs N gv es sc xs = true → PA X xs (tA X.K Wc (evs cf es))) : PE X (.Call (.Name x p) xs [] pos) (tE X.K Wc (ev cf (.call f es))) := by
  simp only [Bool.and_eq_true] at h
  obtain ⟨⟨⟨h1, h2⟩, h3⟩, h4⟩ := h
  have n := nOk_ok h2
  split at h3
  · rename_i j q
    simp only [decide_eq_true_eq] at h3
    subst h3
    obtain ⟨fa, fd, ps, a1, a2, a3, a4, a5⟩ := G.fn _ _ q
    cases xs with
    | nil =>
      have he : ∀ ρ M, evs cf es ρ M = .ok [] M := by
        cases es with
        | nil => intro ρ M; simp only [evs]
        | cons _ _ => unfold chkEs at h4; cases h4
      exact eqE (s_call0 a4 a5 G.room (isGl_ok G.nm h1) a1 a2 a3 G.pass n.1) fun ρ M => by simp only [ev, he]
    | cons y ys => exact eqE (s_call a4 a5 G.room (isGl_ok G.nm h1) a1 a2 a3 G.pass n.1 (chkEs_plain es _ h4) (by simp) (hs h4)) fun ρ M => by simp only [ev]
  · cases h3
theorem he_call {X : Cx} {x : Str} {p pos : Pos} {xs : List Expr} : ∀ whole, isTrue (.Call (.Name x p) xs [] pos) X.env whole = (do let v ← whole; standAt (Expr.Call (.Name x p) xs [] pos).pos; holding [v] (truthy v)) := by intro _; rfl
theorem he_name {X : Cx} {x : Str} {p : Pos} : ∀ whole, isTrue (.Name x p) X.env whole = (do let v ← whole; standAt (Expr.Name x p).pos; holding [v] (truthy v)) := by intro _; rfl
theorem ifs_tr {X : Cx} {cf : Nat → List Vl → Mem → Res Vl} : PTs X [] (tT X.K WF (ev cf (.cst (.bool true)))) := by
  refine ⟨fun pins s σ H Q I q => pts_nil.run pins s σ H Q I ?_⟩
  obtain ⟨H0, z, m, M, ρ, hr, hp⟩ := q
  simp only [ev] at hp
  obtain ⟨b, e, q⟩ := hp.val hr (Wf.of I) (Same.refl H) (.bl true)
  cases e
  exact q
mutual
theorem sE {N : List Str} {gv : List (Str × GV)} {cf : Nat → List Vl → Mem → Res Vl} {cls : Nat → Addr} {k : Nat} : ∀ (x : Ex) (sc : Scope) (X : Cx) (Wc : Nat → Hp → Prop) (e : Expr), Gd N gv cf cls k Wc sc X → chkE N gv x sc e = true → PE X e (tE X.K Wc (ev cf x))
  | .var i, sc, X, Wc, e, G, h => by
    unfold chkE at h
    split at h
    · simp only [Bool.and_eq_true, decide_eq_true_eq] at h
      obtain ⟨⟨h1, h2⟩, h3⟩ := h
      have n := nOk_ok h2
      exact s_var (by rw [G.nm.n]; exact h3) (isVis_ok G.nm h1) n.1 n.2.1 cf
    · cases h
  | .cst d, sc, X, Wc, e, G, h => by
    unfold chkE at h
    split at h
    · split at h
      · simp only [decide_eq_true_eq] at h; subst h; exact s_cst pe_int (fun _ _ => .int _) cf
      · simp only [decide_eq_true_eq] at h; subst h; exact s_cst pe_str (fun _ _ => .str _) cf
      · simp only [decide_eq_true_eq] at h; subst h; exact s_cst pe_bl (fun _ _ => .bl _) cf
      · exact s_cst pe_non (fun _ _ => .non) cf
      · cases h
    · simp only [Bool.and_eq_true] at h
      obtain ⟨⟨h1, h2⟩, h3⟩ := h
      have n := nOk_ok h2
      split at h3
      · rename_i q
        simp only [decide_eq_true_eq] at h3
        subst h3
        obtain ⟨u, hm, r⟩ := G.cst _ _ q
        exact s_cst (pe_glob (isGl_ok G.nm h1) hm r n.1) (fun _ _ => .int _) cf
      · cases h3
    · cases h
  | .op o a b, sc, X, Wc, e, G, h => by
    unfold chkE at h
    split at h
    · simp only [Bool.and_eq_true] at h
      obtain ⟨⟨h1, h2⟩, h3⟩ := h
      exact eqE (s_op2 (fun ho ha hb => pe_op ho ha hb) (opS_of_is h1) (sE a sc X Wc _ G h2) (sE b sc X Wc _ G h3)) fun ρ M => by simp only [ev]
    · cases h
  | .neg a, sc, X, Wc, e, G, h => by
    unfold chkE at h
    split at h
    · exact eqE (s_neg (sE a sc X Wc _ G h)) fun ρ M => by simp only [ev]
    · cases h
  | .not a, sc, X, Wc, e, G, h => by
    unfold chkE at h
    split at h
    · exact eqE (s_not (sE a sc X Wc _ G h)) fun ρ M => by simp only [ev]
    · cases h
  | .cmp c a b, sc, X, Wc, e, G, h => by
    unfold chkE at h
    split at h
    · simp only [Bool.and_eq_true] at h
      obtain ⟨⟨⟨h1, h2⟩, h3⟩, h4⟩ := h
      exact eqE (s_op2 (fun ho ha hb => pe_cmpR ho ha hb (behind_ok h2 _)) (cpS_of_is G.room h1) (sE a sc X Wc _ G h3) (sE b sc X Wc _ G h4)) fun ρ M => by simp only [ev]
    · cases h
  | .chain c c' a b d, sc, X, Wc, e, G, h => by
    unfold chkE at h
    split at h
    · simp only [Bool.and_eq_true] at h
      obtain ⟨⟨⟨⟨⟨⟨h1, h2⟩, h3⟩, h4⟩, h5⟩, h6⟩, h7⟩ := h
      exact eqE (s_chain (cpS_of_is G.room h1) (cpS_of_is G.room h2) (sE a sc X Wc _ G h5) (sE b sc X Wc _ G h6) (sE d sc X Wc _ G h7) (last_ok h4)) fun ρ M => by simp only [ev]
    · cases h
  | .and a b, sc, X, Wc, e, G, h => by
    unfold chkE at h
    split at h
    · simp only [Bool.and_eq_true] at h
      exact eqE (s_and (sE a sc X Wc _ G h.1) (pe_one (sE b sc X Wc _ G h.2))) fun ρ M => by simp only [ev]
    · simp only [Bool.and_eq_true] at h
      exact eqE (s_and (sE a sc X Wc _ G h.1) (sE b sc X Wc _ G h.2)) fun ρ M => by simp only [ev]
    · cases h
  | .or a b, sc, X, Wc, e, G, h => by
    unfold chkE at h
    split at h
    · simp only [Bool.and_eq_true] at h
      exact eqE (s_or (sE a sc X Wc _ G h.1) (pe_one (sE b sc X Wc _ G h.2))) fun ρ M => by simp only [ev]
    · simp only [Bool.and_eq_true] at h
      exact eqE (s_or (sE a sc X Wc _ G h.1) (sE b sc X Wc _ G h.2)) fun ρ M => by simp only [ev]
    · cases h
  | .ite t a b, sc, X, Wc, e, G, h => by
    unfold chkE at h
    split at h
    · simp only [Bool.and_eq_true] at h
      exact eqE (s_ite (sT t sc X Wc _ G h.1.1) (sE a sc X Wc _ G h.1.2) (sE b sc X Wc _ G h.2)) fun ρ M => by simp only [ev]
    · cases h
  | .tup es, sc, X, Wc, e, G, h => by
    unfold chkE at h
    split at h
    · simp only [Bool.and_eq_true, decide_eq_true_eq] at h
      refine eqE (s_tup (sEs es sc X Wc _ G h.2) fun ρ M ls M' q => ?_) fun ρ M => by simp only [ev]
      rw [evs_len es _ ρ M M' ls h.2 q]
      exact Nat.le_trans h.1 (by decide)
    · cases h
  | .lst es, sc, X, Wc, e, G, h => by
    unfold chkE at h
    split at h
    · simp only [Bool.and_eq_true, decide_eq_true_eq] at h
      refine eqE (s_lst (sEs es sc X Wc _ G h.2) fun ρ M ls M' q => ?_) fun ρ M => by simp only [ev]
      rw [evs_len es _ ρ M M' ls h.2 q]
      exact Nat.le_trans h.1 (by decide)
    · cases h
  | .idx a b, sc, X, Wc, e, G, h => by
    unfold chkE at h
    split at h
    · simp only [Bool.and_eq_true] at h
      exact eqE (s_idx (by have := G.room.un; omega) (sE a sc X Wc _ G h.1.2) (sE b sc X Wc _ G h.2) (plain_ix h.1.1)) fun ρ M => by simp only [ev]
    · cases h
  | .slc a fl fh lo hi, sc, X, Wc, e, G, h => by
    unfold chkE at h
    split at h
    · rename_i x l u p2 pos
      simp only [Bool.and_eq_true] at h
      obtain ⟨⟨h1, h2⟩, h3⟩ := h
      have hl : PO X l (tP X.K Wc fl (ev cf lo)) := by
        cases l with
        | none =>
          simp only [Bool.and_eq_true, Bool.not_eq_true'] at h2
          obtain ⟨q, h2⟩ := h2
          subst q
          split at h2
          · exact p_none cf
          · cases h2
        | some l =>
          simp only [Bool.and_eq_true] at h2
          obtain ⟨q, h2⟩ := h2
          subst q
          exact p_some (sE lo sc X Wc _ G h2)
      have hh : PO X u (tP X.K Wc fh (ev cf hi)) := by
        cases u with
        | none =>
          simp only [Bool.and_eq_true, Bool.not_eq_true'] at h3
          obtain ⟨q, h3⟩ := h3
          subst q
          split at h3
          · exact p_none cf
          · cases h3
        | some l =>
          simp only [Bool.and_eq_true] at h3
          obtain ⟨q, h3⟩ := h3
          subst q
          exact p_some (sE hi sc X Wc _ G h3)
      exact eqE (s_slc (sE a sc X Wc _ G h1) hl hh) fun ρ M => by simp only [ev]
    · cases h
  | .rev a, sc, X, Wc, e, G, h => by
    unfold chkE at h
    split at h
    · exact eqE (s_rev (sE a sc X Wc _ G h)) fun ρ M => by simp only [ev]
    · cases h
  | .bi b es, sc, X, Wc, e, G, h => by
    unfold chkE at h
    split at h
    · exact mkBi G h (fun a y e1 e2 => by subst e1; exact sE a sc X Wc y G e2) (fun e1 => sEs es sc X Wc _ G e1)
    · cases h
  | .call f es, sc, X, Wc, e, G, h => by
    unfold chkE at h
    split at h
    · exact mkCall G h (fun e1 => sEs es sc X Wc _ G e1)
    · cases h
  | .dget a b c, sc, X, Wc, e, G, h => by
    unfold chkE at h
    split at h
    · rename_i x p at_ apos k' d' cpos
      simp only [Bool.and_eq_true, decide_eq_true_eq] at h
      obtain ⟨⟨⟨⟨⟨⟨h1, h2⟩, h3⟩, h4⟩, h5⟩, h6⟩, h7⟩ := h
      subst h1
      have st : starEach [k', d'] X.env = [(false, eval k' X.env), (false, eval d' X.env)] := by rw [plain_star h2, plain_star h3]; rfl
      exact eqE (s_dget (by have := G.room.un; omega) ⟨rfl, by rw [st]; rfl, h4, by rw [st]; rfl⟩ (sE a sc X Wc _ G h5) (sE b sc X Wc _ G h6) (sE c sc X Wc _ G h7)) fun ρ M => by simp only [ev]
    · cases h
  | .dnew t, sc, X, Wc, e, G, h => by
    unfold chkE at h
    split at h
    · exact eqE (s_dnew t) fun ρ M => by simp only [ev]
    · cases h
  | .lzip a b, sc, X, Wc, e, G, h => by
    unfold chkE at h
    split at h
    · simp only [Bool.and_eq_true, decide_eq_true_eq] at h
      obtain ⟨⟨⟨⟨⟨⟨⟨h1, h2⟩, h3⟩, h4⟩, h5⟩, h6⟩, h7⟩, h8⟩ := h
      subst h2 h4
      obtain ⟨g1, g2, _, _⟩ := isBlt_ok G h1
      obtain ⟨g3, g4, _, _⟩ := isBlt_ok G h3
      exact eqE (s_lzip g1 g2 g3 g4 G.nm.calm h5 h6 (sE a sc X Wc _ G h7) (sE b sc X Wc _ G h8)) fun ρ M => by simp only [ev]
    · cases h
  | .srt a, sc, X, Wc, e, G, h => by
    unfold chkE at h
    split at h
    · simp only [Bool.and_eq_true, decide_eq_true_eq] at h
      obtain ⟨⟨⟨⟨⟨h1, h2⟩, h3⟩, h4⟩, h5⟩, h6⟩ := h
      subst h2 h4
      obtain ⟨g1, g2, _, _⟩ := isBlt_ok G h1
      obtain ⟨g3, g4, _, _⟩ := isBlt_ok G h3
      exact eqE (s_srt g1 g2 g3 g4 G.nm.calm h5 (sE a sc X Wc _ G h6)) fun ρ M => by simp only [ev]
    · cases h
  | .lrg1 a, sc, X, Wc, e, G, h => by
    unfold chkE at h
    split at h
    · simp only [Bool.and_eq_true, decide_eq_true_eq] at h
      obtain ⟨⟨⟨⟨⟨h1, h2⟩, h3⟩, h4⟩, h5⟩, h6⟩ := h
      subst h2 h4
      obtain ⟨g1, g2, _, _⟩ := isBlt_ok G h1
      obtain ⟨g3, g4, _, _⟩ := isBlt_ok G h3
      exact eqE (s_lrg1 g1 g2 g3 g4 G.nm.calm h5 (sE a sc X Wc _ G h6)) fun ρ M => by simp only [ev] <;> rfl
    · cases h
  | .lrg2 a b, sc, X, Wc, e, G, h => by
    unfold chkE at h
    split at h
    · simp only [Bool.and_eq_true, decide_eq_true_eq] at h
      obtain ⟨⟨⟨⟨⟨⟨⟨h1, h2⟩, h3⟩, h4⟩, h5⟩, h6⟩, h7⟩, h8⟩ := h
      subst h2 h4
      obtain ⟨g1, g2, _, _⟩ := isBlt_ok G h1
      obtain ⟨g3, g4, _, _⟩ := isBlt_ok G h3
      exact eqE (s_lrg2 g1 g2 g3 g4 G.nm.calm h5 h6 (sE a sc X Wc _ G h7) (sE b sc X Wc _ G h8)) fun ρ M => by simp only [ev] <;> rfl
    · cases h
  | .chn3 c1 c2 c3 a b d u, sc, X, Wc, e, G, h => by
    unfold chkE at h
    split at h
    · simp only [Bool.and_eq_true] at h
      obtain ⟨⟨⟨⟨⟨⟨⟨⟨⟨h1, h2⟩, h3⟩, h4⟩, h5⟩, h6⟩, h7⟩, h8⟩, h9⟩, h10⟩ := h
      exact eqE (s_chain3 (cpS_of_is G.room h1) (cpS_of_is G.room h2) (cpS_of_is G.room h3) (sE a sc X Wc _ G h7) (sE b sc X Wc _ G h8) (sE d sc X Wc _ G h9) (sE u sc X Wc _ G h10) (last3_ok h6)) fun ρ M => by simp only [ev]
    · cases h
  | .comp own tg it c d, sc, X, Wc, e, G, h => by
    unfold chkE at h
    split at h
    · rename_i elt t iter ifs scope pos
      simp only [Bool.and_eq_true, List.all_eq_true, decide_eq_true_eq] at h
      obtain ⟨⟨⟨⟨⟨⟨h1, h2⟩, h3⟩, h4⟩, h5⟩, h6⟩, h7⟩ := h
      have hb := blkOk_by h2
      have nG : ∀ (s : Shared) (H : Hp) (C : Addr) (cl : List (Str × Addr)) (fp : List Addr), Gd N gv cf cls k WF scope (X.blk s H scope (compEnvC scope cl C X.env) fp) := fun s H C cl fp => G.blk scope s H C cl fp
      obtain ⟨g, hg, gok⟩ := sGb (N := N) (scope := scope) (fun s H C cl fp => (nG s H C cl fp).nm) tg t h4
      have ht : ∀ (s : Shared) (H : Hp) (C : Addr) (cl : List (Str × Addr)) (fp : List Addr), PTs (X.blk s H scope (compEnvC scope cl C X.env) fp) ifs (tT X.K WF (ev cf c)) := fun s H C cl fp => by
        split at h6
        · split at h6
          · exact ifs_tr
          · cases h6
        · exact pts_one (sT c scope _ WF _ (nG s H C cl fp) h6)
        · cases h6
      refine eqE (s_comp (fI := evI cf it) (own := ownsOf N own) (fc := ev cf c) (fe := ev cf d) G.nm.calm G.nm.nd (sI it sc X Wc t iter G h5) (by rw [G.nm.n]; exact blk_relS G.nm hb) hg gok (by rw [ownsOf_snd]; exact h3) ht (fun s H C cl fp => sE d scope _ WF _ (nG s H C cl fp) h7) (foldedS h1 _)) fun ρ M => ?_
      rw [ownsOf_snd]
      simp only [ev]
      rfl
    · cases h
  | .comp2 own own1 tg it tg1 it1 c d, sc, X, Wc, e, G, h => by
    unfold chkE at h
    split at h
    · rename_i elt t iter ifs t1 iter1 ifs1 scope pos
      simp only [Bool.and_eq_true, List.all_eq_true, decide_eq_true_eq, List.isEmpty_iff] at h
      obtain ⟨⟨⟨⟨⟨⟨⟨⟨⟨⟨⟨⟨h1, h1b⟩, h2⟩, h3⟩, h3b⟩, h3c⟩, h4⟩, h5⟩, h5b⟩, h4b⟩, h5c⟩, h6⟩, h7⟩ := h
      subst h5b
      have hb := blkOk_by h2
      have nG : ∀ (s : Shared) (H : Hp) (C : Addr) (cl : List (Str × Addr)) (fp : List Addr), Gd N gv cf cls k WF scope (X.blk s H scope (compEnvC scope cl C X.env) fp) := fun s H C cl fp => G.blk scope s H C cl fp
      obtain ⟨g, hg, gok⟩ := sGb (N := N) (scope := scope) (fun s H C cl fp => (nG s H C cl fp).nm) tg t h4
      obtain ⟨g1, hg1, gok1⟩ := sGb (N := N) (scope := scope) (fun s H C cl fp => (nG s H C cl fp).nm) tg1 t1 h4b
      have ht : ∀ (s : Shared) (H : Hp) (C : Addr) (cl : List (Str × Addr)) (fp : List Addr), PTs (X.blk s H scope (compEnvC scope cl C X.env) fp) ifs1 (tT X.K WF (ev cf c)) := fun s H C cl fp => by
        split at h6
        · split at h6
          · exact ifs_tr
          · cases h6
        · exact pts_one (sT c scope _ WF _ (nG s H C cl fp) h6)
        · cases h6
      refine eqE (PE.weak (pe_lc2 (vs1 := own1) G.nm.calm G.nm.nd (sI it sc X Wc t iter G h5) (by rw [G.nm.n]; exact blk_relS G.nm hb) (by rw [ownsOf_snd]; exact h3) hg (fun s H C cl fp => pts_nil) (fun s H C cl fp => sI it1 scope _ WF t1 iter1 (nG s H C cl fp) h5c) hg1 ht (fun s H C cl fp => sE d scope _ WF _ (nG s H C cl fp) h7) (foldedS h1 _) (fun env => foldedS h1b env)) fun σ H Q w q => rd_comp2 (own := ownsOf N own) (fI := evI cf it) (fI1 := evI cf it1) (fc := ev cf c) (fe := ev cf d) gok gok1 (by rw [ownsOf_snd]; exact h3b) h3c (fun σ H Q q => q) σ H Q w q) fun ρ M => ?_
      rw [ownsOf_snd]
      simp only [ev]
      rfl
    · cases h
  | .trg1 a, sc, X, Wc, e, G, h => by
    unfold chkE at h
    split at h
    · simp only [Bool.and_eq_true, decide_eq_true_eq] at h
      obtain ⟨⟨⟨⟨⟨h1, h2⟩, h3⟩, h4⟩, h5⟩, h6⟩ := h
      subst h2 h4
      obtain ⟨g1, g2, _, _⟩ := isBlt_ok G h1
      obtain ⟨g3, g4, _, _⟩ := isBlt_ok G h3
      exact eqE (s_trg1 g1 g2 g3 g4 G.nm.calm h5 (sE a sc X Wc _ G h6)) fun ρ M => by simp only [ev] <;> rfl
    · cases h
theorem sT {N : List Str} {gv : List (Str × GV)} {cf : Nat → List Vl → Mem → Res Vl} {cls : Nat → Addr} {k : Nat} : ∀ (x : Ex) (sc : Scope) (X : Cx) (Wc : Nat → Hp → Prop) (e : Expr), Gd N gv cf cls k Wc sc X → chkT N gv x sc e = true → PT X e (tT X.K Wc (ev cf x))
  | .and a b, sc, X, Wc, e, G, h => by
    unfold chkT at h
    split at h
    · simp only [Bool.and_eq_true] at h
      exact eqT (PW.pt (t_and (sT a sc X Wc _ G h.1) (pw_and1 (sT b sc X Wc _ G h.2)))) fun ρ M => by simp only [ev]
    · simp only [Bool.and_eq_true] at h
      exact eqT (PW.pt (t_and (sT a sc X Wc _ G h.1) (sW b sc X Wc _ _ _ G h.2))) fun ρ M => by simp only [ev]
    · cases h
  | .or a b, sc, X, Wc, e, G, h => by
    unfold chkT at h
    split at h
    · simp only [Bool.and_eq_true] at h
      exact eqT (PW.pt (t_or (sT a sc X Wc _ G h.1) (pw_or1 (sT b sc X Wc _ G h.2)))) fun ρ M => by simp only [ev]
    · simp only [Bool.and_eq_true] at h
      exact eqT (PW.pt (t_or (sT a sc X Wc _ G h.1) (sW b sc X Wc _ _ _ G h.2))) fun ρ M => by simp only [ev]
    · cases h
  | .not a, sc, X, Wc, e, G, h => by
    unfold chkT at h
    split at h
    · exact eqT (t_not (sT a sc X Wc _ G h)) fun ρ M => by simp only [ev]
    · cases h
  | .cmp c a b, sc, X, Wc, e, G, h => by
    unfold chkT at h
    split at h
    · simp only [Bool.and_eq_true] at h
      obtain ⟨⟨⟨h1, h2⟩, h3⟩, h4⟩ := h
      exact eqT (t_cmp (cpS_of_is G.room h1) (sE a sc X Wc _ G h3) (sE b sc X Wc _ G h4) (behind_ok h2 _)) fun ρ M => by simp only [ev]
    · cases h
  | .chain c c' a b d, sc, X, Wc, e, G, h => by
    unfold chkT at h
    split at h
    · simp only [Bool.and_eq_true] at h
      obtain ⟨⟨⟨⟨⟨⟨h1, h2⟩, h3⟩, h4⟩, h5⟩, h6⟩, h7⟩ := h
      exact eqT (t_chain (cpS_of_is G.room h1) (cpS_of_is G.room h2) (sE a sc X Wc _ G h5) (sE b sc X Wc _ G h6) (sE d sc X Wc _ G h7) (last_ok h4)) fun ρ M => by simp only [ev]
    · cases h
  | .var i, sc, X, Wc, e, G, h => by
    unfold chkT at h
    split at h
    · simp only [Bool.and_eq_true, decide_eq_true_eq] at h
      obtain ⟨⟨h1, h2⟩, h3⟩ := h
      have n := nOk_ok h2
      exact t_val (s_var (by rw [G.nm.n]; exact h3) (isVis_ok G.nm h1) n.1 n.2.1 cf) he_name
    · cases h
  | .call f es, sc, X, Wc, e, G, h => by
    unfold chkT at h
    split at h
    · exact t_val (mkCall G h (fun e1 => sEs es sc X Wc _ G e1)) he_call
    · cases h
  | .bi b es, sc, X, Wc, e, G, h => by
    unfold chkT at h
    split at h
    · exact t_val (mkBi G h (fun a y e1 e2 => by subst e1; exact sE a sc X Wc y G e2) (fun e1 => sEs es sc X Wc _ G e1)) he_call
    · cases h
  | .cst d, sc, X, Wc, e, G, h => by unfold chkT at h; cases h
  | .op o a b, sc, X, Wc, e, G, h => by unfold chkT at h; cases h
  | .neg a, sc, X, Wc, e, G, h => by unfold chkT at h; cases h
  | .ite t a b, sc, X, Wc, e, G, h => by unfold chkT at h; cases h
  | .tup es, sc, X, Wc, e, G, h => by unfold chkT at h; cases h
  | .lst es, sc, X, Wc, e, G, h => by unfold chkT at h; cases h
  | .idx a b, sc, X, Wc, e, G, h => by unfold chkT at h; cases h
  | .slc a fl fh lo hi, sc, X, Wc, e, G, h => by unfold chkT at h; cases h
  | .rev a, sc, X, Wc, e, G, h => by unfold chkT at h; cases h
  | .dget a b c, sc, X, Wc, e, G, h => by unfold chkT at h; cases h
  | .dnew _, sc, X, Wc, e, G, h => by unfold chkT at h; cases h
  | .lzip _ _, sc, X, Wc, e, G, h => by unfold chkT at h; cases h
  | .srt _, sc, X, Wc, e, G, h => by unfold chkT at h; cases h
  | .lrg1 _, sc, X, Wc, e, G, h => by unfold chkT at h; cases h
  | .lrg2 _ _, sc, X, Wc, e, G, h => by unfold chkT at h; cases h
  | .chn3 _ _ _ _ _ _ _, sc, X, Wc, e, G, h => by unfold chkT at h; cases h
  | .comp _ _ _ _ _, sc, X, Wc, e, G, h => by unfold chkT at h; cases h
  | .comp2 _ _ _ _ _ _ _ _, sc, X, Wc, e, G, h => by unfold chkT at h; cases h
  | .trg1 _, sc, X, Wc, e, G, h => by unfold chkT at h; cases h
theorem sW {N : List Str} {gv : List (Str × GV)} {cf : Nat → List Vl → Mem → Res Vl} {cls : Nat → Addr} {k : Nat} : ∀ (x : Ex) (sc : Scope) (X : Cx) (Wc : Nat → Hp → Prop) (op : BoolOp) (vs : List Expr) (p : Pos), Gd N gv cf cls k Wc sc X → chkT N gv x sc (.BoolOp op vs p) = true → PW X (.BoolOp op vs p) (tT X.K Wc (ev cf x))
  | .and a b, sc, X, Wc, op, vs, p, G, h => by
    unfold chkT at h
    split at h
    · rename_i e
      cases e
      simp only [Bool.and_eq_true] at h
      exact eqW (t_and (sT a sc X Wc _ G h.1) (pw_and1 (sT b sc X Wc _ G h.2))) fun ρ M => by simp only [ev]
    · rename_i e
      cases e
      simp only [Bool.and_eq_true] at h
      exact eqW (t_and (sT a sc X Wc _ G h.1) (sW b sc X Wc _ _ _ G h.2)) fun ρ M => by simp only [ev]
    · cases h
  | .or a b, sc, X, Wc, op, vs, p, G, h => by
    unfold chkT at h
    split at h
    · rename_i e
      cases e
      simp only [Bool.and_eq_true] at h
      exact eqW (t_or (sT a sc X Wc _ G h.1) (pw_or1 (sT b sc X Wc _ G h.2))) fun ρ M => by simp only [ev]
    · rename_i e
      cases e
      simp only [Bool.and_eq_true] at h
      exact eqW (t_or (sT a sc X Wc _ G h.1) (sW b sc X Wc _ _ _ G h.2)) fun ρ M => by simp only [ev]
    · cases h
  | .not a, sc, X, Wc, op, vs, p, G, h => by unfold chkT at h; cases h
  | .cmp c a b, sc, X, Wc, op, vs, p, G, h => by unfold chkT at h; cases h
  | .chain c c' a b d, sc, X, Wc, op, vs, p, G, h => by unfold chkT at h; cases h
  | .var i, sc, X, Wc, op, vs, p, G, h => by unfold chkT at h; cases h
  | .call f es, sc, X, Wc, op, vs, p, G, h => by unfold chkT at h; cases h
  | .bi b es, sc, X, Wc, op, vs, p, G, h => by unfold chkT at h; cases h
  | .cst d, sc, X, Wc, op, vs, p, G, h => by unfold chkT at h; cases h
  | .op o a b, sc, X, Wc, op, vs, p, G, h => by unfold chkT at h; cases h
  | .neg a, sc, X, Wc, op, vs, p, G, h => by unfold chkT at h; cases h
  | .ite t a b, sc, X, Wc, op, vs, p, G, h => by unfold chkT at h; cases h
  | .tup es, sc, X, Wc, op, vs, p, G, h => by unfold chkT at h; cases h
  | .lst es, sc, X, Wc, op, vs, p, G, h => by unfold chkT at h; cases h
  | .idx a b, sc, X, Wc, op, vs, p, G, h => by unfold chkT at h; cases h
  | .slc a fl fh lo hi, sc, X, Wc, op, vs, p, G, h => by unfold chkT at h; cases h
  | .rev a, sc, X, Wc, op, vs, p, G, h => by unfold chkT at h; cases h
  | .dget a b c, sc, X, Wc, op, vs, p, G, h => by unfold chkT at h; cases h
  | .dnew _, sc, X, Wc, op, vs, p, G, h => by unfold chkT at h; cases h
  | .lzip _ _, sc, X, Wc, op, vs, p, G, h => by unfold chkT at h; cases h
  | .srt _, sc, X, Wc, op, vs, p, G, h => by unfold chkT at h; cases h
  | .lrg1 _, sc, X, Wc, op, vs, p, G, h => by unfold chkT at h; cases h
  | .lrg2 _ _, sc, X, Wc, op, vs, p, G, h => by unfold chkT at h; cases h
  | .chn3 _ _ _ _ _ _ _, sc, X, Wc, op, vs, p, G, h => by unfold chkT at h; cases h
  | .comp _ _ _ _ _, sc, X, Wc, op, vs, p, G, h => by unfold chkT at h; cases h
  | .comp2 _ _ _ _ _ _ _ _, sc, X, Wc, op, vs, p, G, h => by unfold chkT at h; cases h
  | .trg1 _, sc, X, Wc, op, vs, p, G, h => by unfold chkT at h; cases h
theorem sEs {N : List Str} {gv : List (Str × GV)} {cf : Nat → List Vl → Mem → Res Vl} {cls : Nat → Addr} {k : Nat} : ∀ (x : Exs) (sc : Scope) (X : Cx) (Wc : Nat → Hp → Prop) (es : List Expr), Gd N gv cf cls k Wc sc X → chkEs N gv x sc es = true → PA X es (tA X.K Wc (evs cf x))
  | .nil, sc, X, Wc, es, G, h => by
    unfold chkEs at h
    cases es with
    | nil => exact eqA a_nil fun ρ M => by simp only [evs]
    | cons _ _ => cases h
  | .cons x xs, sc, X, Wc, es, G, h => by
    unfold chkEs at h
    split at h
    · simp only [Bool.and_eq_true] at h
      exact eqA (a_cons (sE x sc X Wc _ G h.1.2) (sEs xs sc X Wc _ G h.2) (plain_star h.1.1 _)) fun ρ M => by simp only [evs]
    · cases h
theorem sI {N : List Str} {gv : List (Str × GV)} {cf : Nat → List Vl → Mem → Res Vl} {cls : Nat → Addr} {k : Nat} : ∀ (x : Co.It) (sc : Scope) (X : Cx) (Wc : Nat → Hp → Prop) (t e : Expr), Gd N gv cf cls k Wc sc X → chkI N gv x sc t e = true → PI X t e (tI X.K Wc (evI cf x))
  | .seq x, sc, X, Wc, t, e, G, h => by
    unfold chkI at h
    exact eqI (i_seq (sE x sc X Wc e G h)) fun ρ M => by simp only [evI]
  | .rng1 x, sc, X, Wc, t, e, G, h => by
    unfold chkI at h
    split at h
    · simp only [Bool.and_eq_true, decide_eq_true_eq] at h
      obtain ⟨⟨⟨h1, h2⟩, h3⟩, h4⟩ := h
      subst h2
      obtain ⟨g1, g2, _, _⟩ := isBlt_ok G h1
      exact eqI (i_rng1 g1 g2 h3 (sE x sc X Wc _ G h4)) fun ρ M => by simp only [evI] <;> rfl
    · cases h
  | .rng2 x y, sc, X, Wc, t, e, G, h => by
    unfold chkI at h
    split at h
    · simp only [Bool.and_eq_true, decide_eq_true_eq] at h
      obtain ⟨⟨⟨⟨⟨h1, h2⟩, h3⟩, h4⟩, h5⟩, h6⟩ := h
      subst h2
      obtain ⟨g1, g2, _, _⟩ := isBlt_ok G h1
      exact eqI (i_rng2 g1 g2 h3 h4 (sE x sc X Wc _ G h5) (sE y sc X Wc _ G h6)) fun ρ M => by simp only [evI] <;> rfl
    · cases h
  | .enu x, sc, X, Wc, t, e, G, h => by
    unfold chkI at h
    split at h
    · simp only [Bool.and_eq_true, decide_eq_true_eq] at h
      obtain ⟨⟨⟨h1, h2⟩, h3⟩, h4⟩ := h
      subst h2
      obtain ⟨g1, g2, _, _⟩ := isBlt_ok G h1
      exact eqI (i_enu g1 g2 h3 (sE x sc X Wc _ G h4)) fun ρ M => by simp only [evI]
    · cases h
  | .zip x y, sc, X, Wc, t, e, G, h => by
    unfold chkI at h
    split at h
    · simp only [Bool.and_eq_true, decide_eq_true_eq] at h
      obtain ⟨⟨⟨⟨⟨h1, h2⟩, h3⟩, h4⟩, h5⟩, h6⟩ := h
      subst h2
      obtain ⟨g1, g2, _, _⟩ := isBlt_ok G h1
      exact eqI (i_zip g1 g2 h3 h4 (sE x sc X Wc _ G h5) (sE y sc X Wc _ G h6)) fun ρ M => by simp only [evI]
    · cases h
end
end Co
end

section
set_option Elab.async false
set_option linter.all false
set_option maxRecDepth 100000
set_option maxHeartbeats 1000000
/-! the state between statements -/
namespace Co
open PySem L2
def isOwn : Vl → Bool
  | .own _ => true
  | .odc _ _ => true
  | _ => false
def plainV : Vl → Bool
  | .dat _ => true
  | .cell _ => true
  | .scr _ => true
  | _ => false
/-- slots, cells and heap, relative to the def's entry: H0, the forbidden places z0 and the cells m0 there -/
structure SRel (K : PySem.W.Frag) (H0 : Hp) (z0 : Addr → Prop) (m0 : List Addr) (z : Addr → Prop) (m : List Addr) (ow : Nat → Addr) (M : Mem) (ρ : Rho) (σ : L2.St) (H : Hp) : Prop where
  z0t : ∀ a, z0 a → (H0 a).isSome
  m0z : ∀ a ∈ m0, z0 a
  z0z : ∀ a, z0 a → z a
  mz : ∀ a ∈ m, z a
  zt : ∀ a, z a → ∃ o, H a = some o ∧ ∀ xs, o ≠ .tup xs
  m0m : ∃ m1, m = m0 ++ m1 ∧ ∀ a ∈ m1, H0 a = none
  h0 : ∀ a, (H0 a).isSome → (H a).isSome
  cells : Cells K z m M H
  len : ρ.length = σ.length
  env : ∀ (i : Nat) (vl : Vl), ρ[i]? = some vl → plainV vl = true → ∃ v, σ[i]? = some (some v) ∧ RepV K H0 z m H v vl
  nonw : ∀ (i : Nat) (vl : Vl), ρ[i]? = some vl → plainV vl = true ∨ isOwn vl = true ∨ vl = .und
  own : ∀ (i : Nat) (l : Vl), ρ[i]? = some l → isOwn l = true → σ[i]? = some (some (.ref (ow i))) ∧ z (ow i) ∧ H0 (ow i) = none ∧ ow i ∉ m ∧ Own K H z (ow i) l
  inj : ∀ (i j : Nat) (l l' : Vl), ρ[i]? = some l → isOwn l = true → ρ[j]? = some l' → isOwn l' = true → ow i = ow j → i = j
  keep : ∀ a o, H0 a = some o → a ∉ m0 → H a = some o
section
variable {K : PySem.W.Frag} {H0 H H' : Hp} {z0 z z' : Addr → Prop} {m0 m : List Addr} {ow : Nat → Addr} {M M' : Mem} {ρ : Rho} {σ : L2.St}
theorem RepV.plainH {v : V} {l : Vl} {H1 : Hp} (r : RepV K H0 z m H v l) (h : plainV l = true) : RepV K H1 z m H v l := by
  cases l <;> first | exact r | cases h
theorem SRel.erel (r : SRel K H0 z0 m0 z m ow M ρ σ H) : ERel K H z m M ρ σ H :=
  ⟨r.mz, fun a h => let ⟨o, e, _⟩ := r.zt a h; by rw [e]; rfl, fun a h => h, r.cells, r.len, fun i vl e s => (by
    rcases r.nonw i vl e with p | p | p
    · obtain ⟨v, h1, h2⟩ := r.env i vl e p
      exact ⟨v, h1, h2.plainH p⟩
    · cases vl <;> simp_all [isOwn, says]
    · rw [p] at s; cases s), fun a h xs q => by
      obtain ⟨o, e, n⟩ := r.zt a h
      rw [q] at e; cases e; exact n _ rfl⟩
/-- behind an expression -/
theorem SRel.after (r : SRel K H0 z0 m0 z m ow M ρ σ H) (f : Fz m H H') (c : Cells K z m M' H') : SRel K H0 z0 m0 z m ow M' ρ σ H' :=
  { r with
    zt := fun a h => by
      by_cases ha : a ∈ m
      · obtain ⟨n, e⟩ := List.mem_iff_getElem?.mp ha
        have hn : n < M'.length := by rw [← c.2.1]; exact (List.getElem?_eq_some_iff.mp e).1
        cases q : M'[n]? with
        | none => rw [List.getElem?_eq_none_iff] at q; omega
        | some cl =>
          obtain ⟨xs⟩ := cl
          obtain ⟨vs, h1, _⟩ := c.2.2 n a xs e q
          exact ⟨_, h1, fun xs q => by cases q⟩
      · obtain ⟨o, e, q⟩ := r.zt a h
        exact ⟨o, f.keep a o e ha, q⟩
    h0 := fun a h => f.some (r.h0 a h)
    cells := c
    env := fun i vl e s => let ⟨v, h1, h2⟩ := r.env i vl e s; ⟨v, h1, h2.mono f r.mz⟩
    own := fun i l e q => let ⟨h1, h2, h3, h4, h5⟩ := r.own i l e q; ⟨h1, h2, h3, h4, h5.mono (Mv.fz f r.mz) fun o e => f.keep _ _ e h4⟩
    keep := fun a o e n => f.keep a o (r.keep a o e n) fun h => by
      obtain ⟨m1, e1, e2⟩ := r.m0m
      rw [e1] at h
      rcases List.mem_append.mp h with h | h
      · exact n h
      · rw [e2 a h] at e; cases e }
def slotOf : Vl → Vl
  | .nw xs => .own xs
  | .nwd t kvs => .odc t kvs
  | l => l
theorem getApp {α : Type} {xs : List α} {x : α} {i : Nat} {y : α} (h : (xs ++ [x])[i]? = some y) : xs[i]? = some y ∨ (i = xs.length ∧ y = x) := by
  rcases Nat.lt_trichotomy i xs.length with h1 | h1 | h1
  · rw [List.getElem?_append_left h1] at h; exact .inl h
  · subst h1
    rw [List.getElem?_append_right (Nat.le_refl _)] at h
    simp at h
    exact .inr ⟨rfl, h.symm⟩
  · rw [List.getElem?_eq_none (by simp; omega)] at h; cases h
theorem notmem_of_none (r : SRel K H0 z0 m0 z m ow M ρ σ H) {p : Addr} (h : H p = none) : ¬ z p := fun q => by
  obtain ⟨o, e, _⟩ := r.zt p q
  rw [h] at e; cases e
/-- a value is kept in a slot more -/
theorem SRel.push (r : SRel K H0 z0 m0 z m ow M ρ σ H) (f : Fz m H H') (c : Cells K z m M' H') {v : V} {l : Vl} (q : RepV K H z m H' v l) : ∃ z' ow', Mv K H H' z z' ∧ SRel K H0 z0 m0 z' m ow' M' (ρ ++ [slotOf l]) (σ ++ [some v]) H' := by
  have r' := r.after f c
  by_cases hl : isOwn (slotOf l) = true
  · have nw : ∃ p, v = .ref p ∧ H p = none ∧ ¬ z p ∧ Own K H' (fun a => z a ∨ a = p) p (slotOf l) := by
      cases l with
      | nw xs => obtain ⟨p, vs, e, h1, h2, h3, h4⟩ := q; exact ⟨p, e, h1, h2, vs, h3, h4⟩
      | nwd t kvs => exact q
      | own xs => exact q.elim
      | odc t kvs => exact q.elim
      | _ => cases hl
    obtain ⟨p, rfl, hp, hnz, ho⟩ := nw
    have hp' : ∃ o, H' p = some o ∧ ∀ xs, o ≠ .tup xs := by
      generalize slotOf l = u at ho
      cases u with
      | own xs => obtain ⟨vs, e, _⟩ := ho; exact ⟨_, e, fun xs q => by cases q⟩
      | odc t kvs => cases t <;> (obtain ⟨vs, e, _⟩ := ho; exact ⟨_, e, fun xs q => by cases q⟩)
      | _ => exact ho.elim
    have h0p : H0 p = none := not_0 r.h0 hp
    have own_ne : ∀ i u, ρ[i]? = some u → isOwn u = true → ow i ≠ p := fun i u e hu q => by
      obtain ⟨_, h2, _⟩ := r.own i u e hu
      rw [q] at h2
      exact hnz h2
    have mv : Mv K H H' z (fun a => z a ∨ a = p) := Mv.add hp f r.mz
    have sl : ∀ i, ρ[i]? ≠ none → i ≠ ρ.length := fun i e q => e (List.getElem?_eq_none (by omega))
    refine ⟨fun a => z a ∨ a = p, fun i => if i = ρ.length then p else ow i, mv, ?_⟩
    refine { z0t := r.z0t, m0z := r.m0z, z0z := fun a h => .inl (r.z0z a h), mz := fun a h => .inl (r.mz a h), zt := fun a h => ?_, m0m := r.m0m, h0 := r'.h0, cells := ?_, len := by simp [r.len], env := fun i vl e s => ?_, nonw := fun i vl e => ?_, own := fun i ys e hy => ?_, inj := fun i j xs ys e1 g1 e2 g2 e3 => ?_, keep := r'.keep }
    · rcases h with h | rfl
      · exact r'.zt a h
      · exact hp'
    · refine ⟨c.1, c.2.1, fun n a ys e1 e2 => ?_⟩
      obtain ⟨us, g1, g2, g3⟩ := c.2.2 n a ys e1 e2
      refine ⟨us, g1, ?_, g3⟩
      exact noL_reps g3 g2 (fun b xs hb q => by
        rcases q with q | rfl
        · exact absurd hb (by obtain ⟨o, e, n⟩ := r'.zt b q; rw [e]; intro h; cases h; exact n _ rfl)
        · obtain ⟨o, e, n⟩ := hp'
          rw [hb] at e; cases e; exact n _ rfl)
    · rcases getApp e with e | ⟨rfl, rfl⟩
      · obtain ⟨u, h1, h2⟩ := r.env i vl e s
        refine ⟨u, ?_, h2.add hp f r.mz⟩
        rw [List.getElem?_append_left (List.getElem?_eq_some_iff.mp h1).1]; exact h1
      · generalize slotOf l = u at s hl
        cases u <;> first | (cases s; done) | (cases hl; done)
    · rcases getApp e with e | ⟨rfl, rfl⟩
      · exact r.nonw i vl e
      · exact .inr (.inl hl)
    · rcases getApp e with e | ⟨rfl, e5⟩
      · obtain ⟨h1, h2, h3, h4, h5⟩ := r.own i ys e hy
        have hi : i ≠ ρ.length := sl i (by rw [e]; simp)
        simp only [if_neg hi]
        exact ⟨by rw [List.getElem?_append_left (List.getElem?_eq_some_iff.mp h1).1]; exact h1, .inl h2, h3, h4, h5.mono mv fun o e => f.keep _ _ e h4⟩
      · subst e5
        simp only [if_pos]
        exact ⟨by rw [r.len]; simp, .inr trivial, h0p, fun h => hnz (r.mz p h), ho⟩
    · rcases getApp e1 with e1 | ⟨rfl, _⟩
      · rcases getApp e2 with e2 | ⟨rfl, _⟩
        · simp only [if_neg (sl i (by rw [e1]; simp)), if_neg (sl j (by rw [e2]; simp))] at e3
          exact r.inj i j xs ys e1 g1 e2 g2 e3
        · simp only [if_neg (sl i (by rw [e1]; simp)), if_pos] at e3
          exact absurd e3 (own_ne i xs e1 g1)
      · rcases getApp e2 with e2 | ⟨rfl, _⟩
        · simp only [if_neg (sl j (by rw [e2]; simp)), if_pos] at e3
          exact absurd e3.symm (own_ne j ys e2 g2)
        · rfl
  · have hs : slotOf l = l ∧ plainV l = true := by
      cases l with
      | nw xs => exact absurd rfl hl
      | nwd t kvs => exact absurd rfl hl
      | dat d => exact ⟨rfl, rfl⟩
      | cell n => exact ⟨rfl, rfl⟩
      | scr n => exact ⟨rfl, rfl⟩
      | _ => exact q.elim
    have sl : ∀ i u, (ρ ++ [slotOf l])[i]? = some u → isOwn u = true → ρ[i]? = some u := fun i u e hu => by
      rcases getApp e with e | ⟨rfl, e5⟩
      · exact e
      · rw [e5] at hu; exact absurd hu hl
    refine ⟨z, ow, Mv.fz f r.mz, { r' with len := by simp [r.len], env := fun i vl e s => ?_, nonw := fun i vl e => ?_, own := fun i ys e hy => ?_, inj := fun i j xs ys e1 g1 e2 g2 e3 => r.inj i j xs ys (sl i xs e1 g1) g1 (sl j ys e2 g2) g2 e3 }⟩
    · rcases getApp e with e | ⟨rfl, rfl⟩
      · obtain ⟨u, h1, h2⟩ := r'.env i vl e s
        exact ⟨u, by rw [List.getElem?_append_left (List.getElem?_eq_some_iff.mp h1).1]; exact h1, h2⟩
      · refine ⟨v, by rw [r.len]; simp, ?_⟩
        rw [hs.1]
        exact q.plainH hs.2
    · rcases getApp e with e | ⟨rfl, rfl⟩
      · exact r.nonw i vl e
      · rw [hs.1]; exact .inl hs.2
    · obtain ⟨h1, h2⟩ := r'.own i ys (sl i ys e hy) hy
      exact ⟨by rw [List.getElem?_append_left (List.getElem?_eq_some_iff.mp h1).1]; exact h1, h2⟩
/-- the last slot goes -/
theorem SRel.pop {l : Vl} {v : Option V} (r : SRel K H0 z0 m0 z m ow M (ρ ++ [l]) (σ ++ [v]) H) : SRel K H0 z0 m0 z m ow M ρ σ H := by
  have hl : ρ.length = σ.length := by have := r.len; simpa using this
  have up : ∀ {i : Nat} {vl : Vl}, ρ[i]? = some vl → (ρ ++ [l])[i]? = some vl := fun {i vl} e => by rw [List.getElem?_append_left (List.getElem?_eq_some_iff.mp e).1]; exact e
  have dn : ∀ {i : Nat} {vl : Vl} {u : V}, ρ[i]? = some vl → (σ ++ [v])[i]? = some (some u) → σ[i]? = some (some u) := fun {i vl u} e h => by
    have hi := (List.getElem?_eq_some_iff.mp e).1
    rw [List.getElem?_append_left (by omega)] at h; exact h
  exact { r with len := hl, env := fun i vl e s => let ⟨u, h1, h2⟩ := r.env i vl (up e) s; ⟨u, dn e h1, h2⟩, nonw := fun i vl e => r.nonw i vl (up e), own := fun i xs e hx => let ⟨h1, h2⟩ := r.own i xs (up e) hx; ⟨dn e h1, h2⟩, inj := fun i j xs ys e1 g1 e2 g2 => r.inj i j xs ys (up e1) g1 (up e2) g2 }
/-- a slot is forgotten, or takes a value that lies -/
theorem plain_not {l : Vl} (h : plainV l = true) (h2 : isOwn l = true) : False := by
  cases l <;> first | (cases h; done) | (cases h2; done)
theorem SRel.put (r : SRel K H0 z0 m0 z m ow M ρ σ H) (i : Nat) {l : Vl} {v : V} (hl : plainV l = true) (q : RepV K H0 z m H v l) : SRel K H0 z0 m0 z m ow M (ρ.set i l) (σ.set i (some v)) H := by
  refine { r with len := by simp [r.len], env := fun j vl e s => ?_, nonw := fun j vl e => ?_, own := fun j xs e hx => ?_, inj := fun j k xs ys e1 g1 e2 g2 => ?_ }
  · rcases says_set e with ⟨rfl, rfl, hi⟩ | ⟨hj, e⟩
    · exact ⟨v, by rw [List.getElem?_set_self (by rw [← r.len]; exact hi)], q⟩
    · obtain ⟨u, h1, h2⟩ := r.env j vl e s
      exact ⟨u, by rw [List.getElem?_set_ne (Ne.symm hj)]; exact h1, h2⟩
  · rcases says_set e with ⟨rfl, rfl, hi⟩ | ⟨hj, e⟩
    · exact .inl hl
    · exact r.nonw j vl e
  · rcases says_set e with ⟨rfl, e5, hi⟩ | ⟨hj, e⟩
    · rw [e5] at hx; exact (plain_not hl hx).elim
    · obtain ⟨h1, h2⟩ := r.own j xs e hx
      exact ⟨by rw [List.getElem?_set_ne (Ne.symm hj)]; exact h1, h2⟩
  · rcases says_set e1 with ⟨rfl, e5, hi⟩ | ⟨hj, e1⟩
    · rw [e5] at g1; exact (plain_not hl g1).elim
    · rcases says_set e2 with ⟨rfl, e5, hi⟩ | ⟨hk, e2⟩
      · rw [e5] at g2; exact (plain_not hl g2).elim
      · exact r.inj j k xs ys e1 g1 e2 g2
theorem SRel.und (r : SRel K H0 z0 m0 z m ow M ρ σ H) (i : Nat) : SRel K H0 z0 m0 z m ow M (ρ.set i .und) σ H := by
  refine { r with len := by simp [r.len], env := fun j vl e s => ?_, nonw := fun j vl e => ?_, own := fun j xs e hx => ?_, inj := fun j k xs ys e1 g1 e2 g2 => ?_ }
  · rcases says_set e with ⟨rfl, rfl, hi⟩ | ⟨hj, e⟩
    · cases s
    · exact r.env j vl e s
  · rcases says_set e with ⟨rfl, rfl, hi⟩ | ⟨hj, e⟩
    · exact .inr (.inr rfl)
    · exact r.nonw j vl e
  · rcases says_set e with ⟨rfl, e5, hi⟩ | ⟨hj, e⟩
    · rw [e5] at hx; cases hx
    · exact r.own j xs e hx
  · rcases says_set e1 with ⟨rfl, e5, hi⟩ | ⟨hj, e1⟩
    · rw [e5] at g1; cases g1
    · rcases says_set e2 with ⟨rfl, e5, hi⟩ | ⟨hk, e2⟩
      · rw [e5] at g2; cases g2
      · exact r.inj j k xs ys e1 g1 e2 g2
theorem SRel.wipe (r : SRel K H0 z0 m0 z m ow M ρ σ H) : ∀ own : List Nat, SRel K H0 z0 m0 z m ow M (wipeD ρ own) σ H
  | [] => r
  | o :: own => (SRel.wipe r own).und o
theorem bor_own {u : Vl} (h : isOwn u = true) : plainV (bor u) = true := by
  cases u <;> first | (cases h; done) | rfl
/-- what a slot owns becomes data -/
theorem SRel.frz1 (r : SRel K H0 z0 m0 z m ow M ρ σ H) {i : Nat} {l : Vl} (e : ρ[i]? = some l) (hl : isOwn l = true) : SRel K H0 z0 m0 (fun a => z a ∧ a ≠ ow i) m ow M (ρ.set i (bor l)) σ H := by
  obtain ⟨h1, h2, h3, h4, h5⟩ := r.own i l e hl
  have hi := (List.getElem?_eq_some_iff.mp e).1
  have mv : Mv K H H z (fun a => z a ∧ a ≠ ow i) := Mv.sub fun a h => h.1
  have pl := bor_own hl
  refine { r with z0z := fun a h => ⟨r.z0z a h, fun q => by have := r.z0t a h; rw [q, h3] at this; cases this⟩, mz := fun a h => ⟨r.mz a h, fun q => h4 (by rw [← q]; exact h)⟩, zt := fun a h => r.zt a h.1, cells := ⟨r.cells.1, r.cells.2.1, fun n a ys e1 e2 => let ⟨us, g1, g2, g3⟩ := r.cells.2.2 n a ys e1 e2; ⟨us, g1, Reps.mono mv g2, g3⟩⟩, len := by simp [r.len], env := fun j vl e' s => ?_, nonw := fun j vl e' => ?_, own := fun j ys e' hy => ?_, inj := fun j k ys zs e1 g1 e2 g2 => ?_ }
  · rcases says_set e' with ⟨rfl, rfl, _⟩ | ⟨hj, e'⟩
    · refine ⟨_, h1, ?_⟩
      cases l with
      | own xs => obtain ⟨vs, h5, h6⟩ := h5; exact .lst h5 (fun q => q.2 rfl) (h6.mono mv)
      | odc t kvs =>
        cases t with
        | false => obtain ⟨vs, h5, h6⟩ := h5; exact .dic h5 (fun q => q.2 rfl) (h6.mono mv)
        | true => obtain ⟨vs, h5, h6⟩ := h5; exact .dit h5 (fun q => q.2 rfl) (h6.mono mv)
      | _ => cases hl
    · obtain ⟨u, g1, g2⟩ := r.env j vl e' s
      refine ⟨u, g1, ?_⟩
      cases vl with
      | dat d => exact Rep.mono mv g2
      | cell n => exact g2
      | scr ns => obtain ⟨a, q, g⟩ := g2; exact ⟨a, q, g.mono mv⟩
      | _ => cases s
  · rcases says_set e' with ⟨rfl, rfl, _⟩ | ⟨hj, e'⟩
    · exact .inl pl
    · exact r.nonw j vl e'
  · rcases says_set e' with ⟨rfl, e5, _⟩ | ⟨hj, e'⟩
    · rw [e5] at hy; exact (plain_not pl hy).elim
    · obtain ⟨g1, g2, g3, g4, g5⟩ := r.own j ys e' hy
      exact ⟨g1, ⟨g2, fun q => hj (r.inj j i ys l e' hy e hl q)⟩, g3, g4, g5.mono mv fun o e => e⟩
  · rcases says_set e1 with ⟨rfl, e5, _⟩ | ⟨hj, e1⟩
    · rw [e5] at g1; exact (plain_not pl g1).elim
    · rcases says_set e2 with ⟨rfl, e5, _⟩ | ⟨hk, e2⟩
      · rw [e5] at g2; exact (plain_not pl g2).elim
      · exact r.inj j k ys zs e1 g1 e2 g2
theorem SRel.frz (r : SRel K H0 z0 m0 z m ow M ρ σ H) (i : Nat) : ∃ z', (∀ a, z' a → z a) ∧ SRel K H0 z0 m0 z' m ow M (ρ.set i (bor (ρ.getD i .und))) σ H := by
  cases e : ρ[i]? with
  | none =>
    refine ⟨z, fun a h => h, ?_⟩
    rw [List.set_eq_of_length_le (by rw [List.getElem?_eq_none_iff] at e; exact e)]
    exact r
  | some l =>
    rw [List.getD_eq_getElem?_getD, e]
    by_cases hl : isOwn l = true
    · exact ⟨_, fun a h => h.1, r.frz1 e hl⟩
    · have : bor l = l := by
        cases l <;> first | rfl | exact absurd rfl hl
      refine ⟨z, fun a h => h, ?_⟩
      show SRel K H0 z0 m0 z m ow M (ρ.set i (bor l)) σ H
      rw [this]
      have : ρ.set i l = ρ := by
        obtain ⟨hi, e⟩ := List.getElem?_eq_some_iff.mp e
        rw [← e]; exact List.set_getElem_self hi
      rw [this]; exact r
theorem SRel.view (r : SRel K H0 z0 m0 z m ow M ρ σ H) : ∀ vs : List Nat, ∃ z', (∀ a, z' a → z a) ∧ (vs = [] → z' = z) ∧ SRel K H0 z0 m0 z' m ow M (view ρ vs) σ H
  | [] => ⟨z, fun a h => h, fun _ => rfl, r⟩
  | v :: vs => by
    obtain ⟨z1, h1, h1b, r1⟩ := SRel.view r vs
    have : bor (ρ.getD v .und) = bor ((Co.view ρ vs).getD v .und) := by
      clear r1 h1b
      induction vs with
      | nil => rfl
      | cons w vs ih =>
        show _ = bor (((Co.view ρ vs).set w (bor (ρ.getD w .und))).getD v .und)
        by_cases hw : w = v
        · subst hw
          by_cases hl : w < (Co.view ρ vs).length
          · rw [List.getD_eq_getElem?_getD, List.getD_eq_getElem?_getD, List.getElem?_set_self hl]
            show bor ((ρ[w]?).getD .und) = bor (bor ((ρ[w]?).getD .und))
            cases (ρ[w]?).getD .und <;> rfl
          · rw [List.set_eq_of_length_le (by omega)]
            exact ih
        · rw [List.getD_eq_getElem?_getD (l := List.set _ _ _), List.getElem?_set_ne hw, ← List.getD_eq_getElem?_getD]
          exact ih
    obtain ⟨z2, h2, r2⟩ := r1.frz v
    refine ⟨z2, fun a h => h1 a (h2 a h), nofun, ?_⟩
    show SRel K H0 z0 m0 z2 m ow M ((Co.view ρ vs).set v (bor (ρ.getD v .und))) σ H
    rw [this]
    exact r2
theorem cells_up (r : SRel K H0 z0 m0 z m ow M ρ σ H) (f : Fz m H H') (c : Cells K z' m M' H') : Cells K z m M' H' := ⟨c.1, c.2.1, fun n a ys e1 e2 => by
  obtain ⟨us, g1, g2, g3⟩ := c.2.2 n a ys e1 e2
  refine ⟨us, g1, noL_reps g3 g2 fun b xs hb q => ?_, g3⟩
  by_cases hbm : b ∈ m
  · obtain ⟨k, e⟩ := List.mem_iff_getElem?.mp hbm
    have hn : k < M'.length := by rw [← c.2.1]; exact (List.getElem?_eq_some_iff.mp e).1
    cases q : M'[k]? with
    | none => rw [List.getElem?_eq_none_iff] at q; omega
    | some cl =>
      obtain ⟨xs⟩ := cl
      obtain ⟨vs, h1, _⟩ := c.2.2 k b xs e q
      rw [hb] at h1; cases h1
  · obtain ⟨o, e, n⟩ := r.zt b q
    have := f.keep b o e hbm
    rw [hb] at this
    cases this
    exact n _ rfl⟩
theorem noLk {z1 z2 : Addr → Prop} (f : ∀ b xs, H b = some (.tup xs) → ¬ z2 b) : ∀ {ks : List (Key × V)} {kvs : List (Dt × Dt)}, noLkv kvs = true → RepsK K H z1 ks kvs → RepsK K H z2 ks kvs
  | _, _, _, .nil => .nil
  | _, _, h, .cons r t => by
    unfold noLkv at h
    simp only [Bool.and_eq_true] at h
    exact .cons (noL_rep h.1.2 r f) (noLk f h.2 t)
theorem noLt {z1 z2 : Addr → Prop} (f : ∀ b xs, H b = some (.tup xs) → ¬ z2 b) : ∀ {ks : List (List Key × V)} {kvs : List (Dt × Dt)}, noLkv kvs = true → RepsT K H z1 ks kvs → RepsT K H z2 ks kvs
  | _, _, _, .nil => .nil
  | _, _, h, .cons r t => by
    unfold noLkv at h
    simp only [Bool.and_eq_true] at h
    exact .cons (noL_rep h.1.2 r f) (noLt f h.2 t)
/-- what a borrowed reading gives is fit for the state itself -/
theorem okv_up {vs : List Nat} {l : Vl} {v : V} (r : SRel K H0 z0 m0 z m ow M ρ σ H) (f : Fz m H H') (c : Cells K z' m M' H') (hk : (vs = [] → z' = z)) (h : okv vs l = true) (q : RepV K H z' m H' v l) : RepV K H z m H' v l := by
  by_cases hv : vs = []
  · rw [← hk hv]; exact q
  · have r' := r.after f (cells_up r f c)
    have nt : ∀ b xs, H' b = some (.tup xs) → ¬ z b := fun b xs hb q => by
      obtain ⟨o, e, n⟩ := r'.zt b q
      rw [hb] at e; cases e
      exact n _ rfl
    have h' : okv1 l = true := by
      unfold okv at h
      simp only [Bool.or_eq_true, List.isEmpty_iff] at h
      rcases h with h | h
      · exact absurd h hv
      · exact h
    cases l with
    | dat d => exact noL_rep h' q nt
    | cell n => exact q
    | nw xs =>
      obtain ⟨p, us, e, h1, h2, h3, h4⟩ := q
      have hp : ¬ z p := notmem_of_none r h1
      refine ⟨p, us, e, h1, hp, h3, noL_reps h' h4 fun b xs hb q => ?_⟩
      rcases q with q | rfl
      · exact nt b xs hb q
      · rw [h3] at hb; cases hb
    | nwd t kvs =>
      obtain ⟨p, e, h1, h2, o⟩ := q
      have hp : ¬ z p := notmem_of_none r h1
      refine ⟨p, e, h1, hp, ?_⟩
      cases t with
      | false =>
        obtain ⟨ks, h3, h4⟩ := o
        refine ⟨ks, h3, noLk (fun b xs hb q => ?_) h' h4⟩
        rcases q with q | rfl
        · exact nt b xs hb q
        · rw [h3] at hb; cases hb
      | true =>
        obtain ⟨ks, h3, h4⟩ := o
        refine ⟨ks, h3, noLt (fun b xs hb q => ?_) h' h4⟩
        rcases q with q | rfl
        · exact nt b xs hb q
        · rw [h3] at hb; cases hb
    | _ => cases h'
end
end Co
end

section
set_option Elab.async false
set_option linter.all false
set_option maxRecDepth 100000
set_option maxHeartbeats 1000000
/-! statements: the state's steps -/
namespace Co
open PySem L2
section
variable {K : PySem.W.Frag} {H0 H H' : Hp} {z0 z z' : Addr → Prop} {m0 m : List Addr} {ow : Nat → Addr} {M M' : Mem} {ρ : Rho} {σ : L2.St}
theorem Mv.trans {H1 H2 : Hp} {z1 z2 : Addr → Prop} (a : Mv K H H1 z z1) (b : Mv K H1 H2 z1 z2) : Mv K H H2 z z2 := ⟨fun c o e n => let ⟨e1, n1⟩ := a.keep c o e n; b.keep c o e1 n1⟩
theorem Mv.refl : Mv K H H z z := ⟨fun c o e n => ⟨e, n⟩⟩
theorem SRel.asg1 {l : Vl} {v : V} (r : SRel K H0 z0 m0 z m ow M (ρ ++ [l]) (σ ++ [some v]) H) (i : Nat) : ∃ ow', SRel K H0 z0 m0 z m ow' M (ρ.set i l) (σ.set i (some v)) H := by
  have hl : ρ.length = σ.length := by have := r.len; simpa using this
  have el : (ρ ++ [l])[ρ.length]? = some l := by simp
  have ev : ∀ {u : V}, (σ ++ [some v])[ρ.length]? = some (some u) → v = u := fun {u} h => by rw [hl] at h; simp at h; exact h
  have rp := r.pop
  by_cases hi : i < ρ.length
  · rcases r.nonw ρ.length l el with p | p | p
    · obtain ⟨u, h1, h2⟩ := r.env ρ.length l el p
      rw [← ev h1] at h2
      exact ⟨ow, rp.put i p h2⟩
    · obtain ⟨h1, h2, h3, h4, h5⟩ := r.own ρ.length l el p
      have hv : v = .ref (ow ρ.length) := ev h1
      subst hv
      have ne : ∀ j u, ρ[j]? = some u → isOwn u = true → ow j ≠ ow ρ.length := fun j u e hu q => by
        have hj := (List.getElem?_eq_some_iff.mp e).1
        have := r.inj j ρ.length u l (by rw [List.getElem?_append_left hj]; exact e) hu el p q
        omega
      refine ⟨fun j => if j = i then ow ρ.length else ow j, { rp with len := by simp [hl], env := fun j vl e s => ?_, nonw := fun j vl e => ?_, own := fun j ys e hy => ?_, inj := fun j k ys zs e1 f1 e2 f2 e3 => ?_ }⟩
      · rcases says_set e with ⟨rfl, rfl, _⟩ | ⟨hj, e⟩
        · exact (plain_not s p).elim
        · obtain ⟨u, g1, g2⟩ := rp.env j vl e s
          exact ⟨u, by rw [List.getElem?_set_ne (Ne.symm hj)]; exact g1, g2⟩
      · rcases says_set e with ⟨rfl, rfl, _⟩ | ⟨hj, e⟩
        · exact .inr (.inl p)
        · exact rp.nonw j vl e
      · rcases says_set e with ⟨a1, e5, _⟩ | ⟨hj, e⟩
        · subst a1 e5
          simp only [if_pos]
          exact ⟨by rw [List.getElem?_set_self (by omega)], h2, h3, h4, h5⟩
        · simp only [if_neg hj]
          obtain ⟨g1, g2⟩ := rp.own j ys e hy
          exact ⟨by rw [List.getElem?_set_ne (Ne.symm hj)]; exact g1, g2⟩
      · rcases says_set e1 with ⟨a1, e5, _⟩ | ⟨hj, g1⟩
        · rcases says_set e2 with ⟨a2, e6, _⟩ | ⟨hk, g2⟩
          · rw [a1, a2]
          · simp only [if_pos a1, if_neg hk] at e3
            exact absurd e3.symm (ne k zs g2 f2)
        · rcases says_set e2 with ⟨a2, e6, _⟩ | ⟨hk, g2⟩
          · simp only [if_pos a2, if_neg hj] at e3
            exact absurd e3 (ne j ys g1 f1)
          · simp only [if_neg hj, if_neg hk] at e3
            exact rp.inj j k ys zs g1 f1 g2 f2 e3
    · subst p
      refine ⟨ow, ?_⟩
      have r1 := rp.und i
      refine { r1 with len := by simp [hl], env := fun j vl e s => ?_, own := fun j ys e hy => ?_ }
      · rcases says_set e with ⟨rfl, rfl, _⟩ | ⟨hj, e⟩
        · cases s
        · obtain ⟨u, g1, g2⟩ := rp.env j vl e s
          exact ⟨u, by rw [List.getElem?_set_ne (Ne.symm hj)]; exact g1, g2⟩
      · rcases says_set e with ⟨rfl, e5, _⟩ | ⟨hj, e⟩
        · rw [e5] at hy; cases hy
        · obtain ⟨g1, g2⟩ := rp.own j ys e hy
          exact ⟨by rw [List.getElem?_set_ne (Ne.symm hj)]; exact g1, g2⟩
  · rw [List.set_eq_of_length_le (by omega), List.set_eq_of_length_le (by omega)]
    exact ⟨ow, rp⟩
/-- an own list becomes a cell -/
theorem SRel.tocell {i : Nat} {xs : List Dt} (r : SRel K H0 z0 m0 z m ow M ρ σ H) (e : ρ[i]? = some (.own xs)) (hn : noLs xs = true) : SRel K H0 z0 m0 z (m ++ [ow i]) ow (M ++ [.lst xs]) (ρ.set i (.cell M.length)) σ H := by
  obtain ⟨h1, h2, h3, h4, vs, h5, h6⟩ := r.own i _ e rfl
  have up : ∀ {n : Nat} {a : Addr}, m[n]? = some a → (m ++ [ow i])[n]? = some a := fun {n a} e => by rw [List.getElem?_append_left (List.getElem?_eq_some_iff.mp e).1]; exact e
  refine { r with mz := fun a h => ?_, m0m := ?_, cells := ⟨?_, by simp [r.cells.2.1], fun n a ys e1 e2 => ?_⟩, len := by simp [r.len], env := fun j vl e' s => ?_, nonw := fun j vl e' => ?_, own := fun j ys e' hy => ?_, inj := fun j k ys zs e1 f1 e2 f2 e3 => ?_ }
  · rcases List.mem_append.mp h with h | h
    · exact r.mz a h
    · rw [List.mem_singleton.mp h]; exact h2
  · obtain ⟨m1, q1, q2⟩ := r.m0m
    refine ⟨m1 ++ [ow i], by rw [q1, List.append_assoc], fun a h => ?_⟩
    rcases List.mem_append.mp h with h | h
    · exact q2 a h
    · rw [List.mem_singleton.mp h]; exact h3
  · exact List.nodup_append.mpr ⟨r.cells.1, by simp, fun a ha b hb => by rw [List.mem_singleton.mp hb]; exact fun q => h4 (by rw [← q]; exact ha)⟩
  · rcases getApp e1 with e1 | ⟨rfl, rfl⟩
    · have hn := (List.getElem?_eq_some_iff.mp e1).1
      rw [List.getElem?_append_left (by rw [← r.cells.2.1]; exact hn)] at e2
      exact r.cells.2.2 n a ys e1 e2
    · rw [r.cells.2.1] at e2
      simp at e2
      subst e2
      exact ⟨vs, h5, h6, hn⟩
  · rcases says_set e' with ⟨rfl, rfl, _⟩ | ⟨hj, e'⟩
    · exact ⟨_, h1, _, rfl, by rw [← r.cells.2.1]; simp⟩
    · obtain ⟨u, g1, g2⟩ := r.env j vl e' s
      refine ⟨u, g1, ?_⟩
      cases vl with
      | cell n => obtain ⟨a, q1, q2⟩ := g2; exact ⟨a, q1, up q2⟩
      | dat d => exact g2
      | scr ns => exact g2
      | _ => cases s
  · rcases says_set e' with ⟨rfl, rfl, _⟩ | ⟨hj, e'⟩
    · exact .inl rfl
    · exact r.nonw j vl e'
  · rcases says_set e' with ⟨rfl, e5, _⟩ | ⟨hj, e'⟩
    · rw [e5] at hy; cases hy
    · obtain ⟨g1, g2, g3, g4, g5⟩ := r.own j ys e' hy
      refine ⟨g1, g2, g3, fun h => ?_, g5⟩
      rcases List.mem_append.mp h with h | h
      · exact g4 h
      · exact hj (r.inj j i ys _ e' hy e rfl (List.mem_singleton.mp h))
  · rcases says_set e1 with ⟨rfl, e5, _⟩ | ⟨hj, e1⟩
    · rw [e5] at f1; cases f1
    · rcases says_set e2 with ⟨rfl, e5, _⟩ | ⟨hk, e2⟩
      · rw [e5] at f2; cases f2
      · exact r.inj j k ys zs e1 f1 e2 f2 e3
/-- what a slot owns is written -/
theorem SRel.ownw {i : Nat} {l l' : Vl} {o : HO} (r : SRel K H0 z0 m0 z m ow M ρ σ H) (e : ρ[i]? = some l) (hl : isOwn l = true) (hl' : isOwn l' = true) (ho : ∀ xs, o ≠ .tup xs) (q : Own K (upd H (ow i) o) z (ow i) l') : SRel K H0 z0 m0 z m ow M (ρ.set i l') σ (upd H (ow i) o) := by
  obtain ⟨h1, h2, h3, h4, h5⟩ := r.own i l e hl
  have mv : Mv K H (upd H (ow i) o) z z := Mv.upd h2
  refine { r with zt := fun a h => ?_, h0 := fun a h => upd_some (r.h0 a h), cells := ⟨r.cells.1, r.cells.2.1, fun n a ws e1 e2 => ?_⟩, len := by simp [r.len], env := fun j vl e' s => ?_, nonw := fun j vl e' => ?_, own := fun j ws e' hy => ?_, inj := fun j k ws zs e1 f1 e2 f2 e3 => ?_, keep := fun a o e' n => ?_ }
  · by_cases ha : a = ow i
    · rw [ha, upd_same]; exact ⟨_, rfl, ho⟩
    · rw [upd_ne ha]; exact r.zt a h
  · obtain ⟨ts, g1, g2, g3⟩ := r.cells.2.2 n a ws e1 e2
    exact ⟨ts, by rw [upd_ne fun q => h4 (by rw [← q]; exact List.mem_of_getElem? e1)]; exact g1, Reps.mono mv g2, g3⟩
  · rcases says_set e' with ⟨rfl, rfl, _⟩ | ⟨hj, e'⟩
    · exact (plain_not s hl').elim
    · obtain ⟨u, g1, g2⟩ := r.env j vl e' s
      exact ⟨u, g1, g2.upd h2⟩
  · rcases says_set e' with ⟨rfl, rfl, _⟩ | ⟨hj, e'⟩
    · exact .inr (.inl hl')
    · exact r.nonw j vl e'
  · rcases says_set e' with ⟨a1, e5, _⟩ | ⟨hj, e'⟩
    · subst a1 e5
      exact ⟨h1, h2, h3, h4, q⟩
    · obtain ⟨g1, g2, g3, g4, g5⟩ := r.own j ws e' hy
      have hne : ow j ≠ ow i := fun q => hj (r.inj j i ws l e' hy e hl q)
      exact ⟨g1, g2, g3, g4, g5.mono mv fun o e => by rw [upd_ne hne]; exact e⟩
  · have own : ∀ (j : Nat) (ws : Vl), (ρ.set i l')[j]? = some ws → isOwn ws = true → ∃ ws', ρ[j]? = some ws' ∧ isOwn ws' = true := fun j ws e' hw => by
      rcases says_set e' with ⟨rfl, e5, _⟩ | ⟨hj, e'⟩
      · exact ⟨l, e, hl⟩
      · exact ⟨ws, e', hw⟩
    obtain ⟨w1, g1, k1⟩ := own j ws e1 f1
    obtain ⟨w2, g2, k2⟩ := own k zs e2 f2
    exact r.inj j k w1 w2 g1 k1 g2 k2 e3
  · rw [upd_ne fun q => by rw [q, h3] at e'; cases e']
    exact r.keep a o e' n
/-- an own list is written -/
theorem SRel.lstw {i : Nat} {xs ys : List Dt} {us : List V} (r : SRel K H0 z0 m0 z m ow M ρ σ H) (e : ρ[i]? = some (.own xs)) (q : Reps K H z us ys) : SRel K H0 z0 m0 z m ow M (ρ.set i (.own ys)) σ (upd H (ow i) (.lst us)) :=
  r.ownw e rfl rfl (fun xs q => by cases q) ⟨us, upd_same, Reps.mono (Mv.upd (r.own i _ e rfl).2.1) q⟩
/-- a cell is written -/
theorem SRel.cellw {n : Nat} {a : Addr} {ys : List Dt} {us : List V} (r : SRel K H0 z0 m0 z m ow M ρ σ H) (e : m[n]? = some a) (q : Reps K H z us ys) (hn : noLs ys = true) : SRel K H0 z0 m0 z m ow (M.set n (.lst ys)) ρ σ (upd H a (.lst us)) := by
  have ham := List.mem_of_getElem? e
  have h2 := r.mz a ham
  have mv : Mv K H (upd H a (.lst us)) z z := Mv.upd h2
  have hM : n < M.length := by rw [← r.cells.2.1]; exact (List.getElem?_eq_some_iff.mp e).1
  have hz : ∀ xs, M[n]? = some (.lst xs) → ∃ vs, H a = some (.lst vs) := fun xs e2 => let ⟨vs, h, _⟩ := r.cells.2.2 n a xs e e2; ⟨vs, h⟩
  refine { r with zt := fun b h => ?_, h0 := fun b h => upd_some (r.h0 b h), cells := ⟨r.cells.1, by simp [r.cells.2.1], fun k b ws e1 e2 => ?_⟩, env := fun j vl e' s => ?_, own := fun j ws e' hy => ?_, keep := fun b o e' hb => ?_ }
  · by_cases ha : b = a
    · rw [ha, upd_same]; exact ⟨_, rfl, fun xs q => by cases q⟩
    · rw [upd_ne ha]; exact r.zt b h
  · by_cases hk : k = n
    · subst hk
      rw [e] at e1; cases e1
      rw [List.getElem?_set_self hM] at e2; cases e2
      exact ⟨us, upd_same, Reps.mono mv q, hn⟩
    · rw [List.getElem?_set_ne (Ne.symm hk)] at e2
      obtain ⟨ts, g1, g2, g3⟩ := r.cells.2.2 k b ws e1 e2
      have hne : b ≠ a := fun q => by
        subst q
        have h1 := (List.getElem?_eq_some_iff.mp e).1
        have h2 := (List.getElem?_eq_some_iff.mp e1).1
        have := (List.getElem_inj r.cells.1).mp ((List.getElem?_eq_some_iff.mp e1).2.trans (List.getElem?_eq_some_iff.mp e).2.symm)
        exact hk this
      exact ⟨ts, by rw [upd_ne hne]; exact g1, Reps.mono mv g2, g3⟩
  · obtain ⟨u, g1, g2⟩ := r.env j vl e' s
    exact ⟨u, g1, g2.upd h2⟩
  · obtain ⟨g1, g2, g3, g4, g5⟩ := r.own j ws e' hy
    exact ⟨g1, g2, g3, g4, g5.mono mv fun o e => by rw [upd_ne fun q => g4 (by rw [q]; exact ham)]; exact e⟩
  · by_cases hba : b = a
    · subst hba
      obtain ⟨m1, q1, q2⟩ := r.m0m
      rw [q1] at ham
      rcases List.mem_append.mp ham with h | h
      · exact absurd h hb
      · rw [q2 b h] at e'; cases e'
    · rw [upd_ne hba]; exact r.keep b o e' hb
/-- what a value assigned to a name makes of the state -/
theorem SRel.asg {l : Vl} {v : V} {k : Kd} {i : Nat} {ρ' : Rho} (r : SRel K H0 z0 m0 z m ow M (ρ ++ [slotOf l]) (σ ++ [some v]) H) (hl : plainV l = true ∨ isOwn (slotOf l) = true ∧ isOwn l = false) (e : Co.asg k i l ρ M = .ok ρ' M') :
    ∃ z' m' ow', (∀ a, z' a → z a) ∧ SRel K H0 z0 m0 z' m' ow' M' ρ' (σ.set i (some v)) H := by
  have hlen : ρ.length = σ.length := by have := r.len; simpa using this
  have own : ∀ u, slotOf l = u → M' = M → ρ' = ρ.set i u → ∃ z' m' ow', (∀ a, z' a → z a) ∧ SRel K H0 z0 m0 z' m' ow' M' ρ' (σ.set i (some v)) H := fun u hu h1 h2 => by
    rw [h1, h2]
    rw [hu] at r
    obtain ⟨ow', r'⟩ := r.asg1 i
    exact ⟨z, m, ow', fun a h => h, r'⟩
  have frz : isOwn (slotOf l) = true → M' = M → ρ' = ρ.set i (bor (slotOf l)) → ∃ z' m' ow', (∀ a, z' a → z a) ∧ SRel K H0 z0 m0 z' m' ow' M' ρ' (σ.set i (some v)) H := fun hu h1 h2 => by
    rw [h1, h2]
    have r1 := r.frz1 (i := ρ.length) (l := slotOf l) (by simp) hu
    have : (ρ ++ [slotOf l]).set ρ.length (bor (slotOf l)) = ρ ++ [bor (slotOf l)] := by simp
    rw [this] at r1
    obtain ⟨ow', r'⟩ := r1.asg1 i
    exact ⟨_, m, ow', fun a h => h.1, r'⟩
  unfold Co.asg at e
  split at e
  · cases e; exact own _ rfl rfl rfl
  · cases e; exact frz rfl rfl rfl
  · cases e; exact frz rfl rfl rfl
  · cases e; exact own _ rfl rfl rfl
  · cases e; exact own _ rfl rfl rfl
  · cases e; exact own _ rfl rfl rfl
  · cases e; exact own _ rfl rfl rfl
  · rename_i xs
    split at e
    · rename_i hn
      cases e
      have r1 := r.tocell (i := ρ.length) (xs := xs) (by simp [slotOf]) hn
      have : (ρ ++ [slotOf (.nw xs)]).set ρ.length (.cell M.length) = ρ ++ [.cell M.length] := by simp
      rw [this] at r1
      obtain ⟨ow', r'⟩ := r1.asg1 i
      exact ⟨z, _, ow', fun a h => h, r'⟩
    · cases e
  · cases e
end
end Co
end

section
set_option Elab.async false
set_option linter.all false
set_option maxRecDepth 100000
set_option maxHeartbeats 1000000
/-! statements: the readings -/
namespace Co
open PySem L2
section
variable {K : PySem.W.Frag} {H0 H H1 H' : Hp} {z0 z z1 z' : Addr → Prop} {m0 m m' : List Addr} {ow : Nat → Addr} {M M' : Mem} {ρ : Rho} {σ : L2.St} {Wc : Nat → Hp → Prop} {D : Ends}
structure Fin (K : PySem.W.Frag) (H0 : Hp) (z0 : Addr → Prop) (m0 : List Addr) (zR : Addr → Prop) (m : List Addr) (M : Mem) (H : Hp) : Prop where
  fz : Fz m0 H0 H
  cells : Cells K zR m M H
  z0z : ∀ a, z0 a → zR a
  mz : ∀ a ∈ m, zR a
  m0m : ∃ m1, m = m0 ++ m1 ∧ ∀ a ∈ m1, H0 a = none
def SPost (K : PySem.W.Frag) (Wc : Nat → Hp → Prop) (H0 : Hp) (z0 : Addr → Prop) (m0 : List Addr) (z : Addr → Prop) (H : Hp) (D : Ends) : Res Fl → Prop
  | .ok (.next ρ') M' => ∀ z' m' ow' σ' H', Wf K H' → Mv K H H' z z' → SRel K H0 z0 m0 z' m' ow' M' ρ' σ' H' → D.nx σ' H'
  | .ok (.ret l) M' => ∀ v zR m' H', Wf K H' → Fin K H0 z0 m0 zR m' M' H' → RepV K H0 zR m' H' v l → D.rt v H'
  | .exc c M' => ∀ zR m' H', Wf K H' → Fin K H0 z0 m0 zR m' M' H' → Wc c H'
  | .bad => False
theorem SRel.fin (r : SRel K H0 z0 m0 z m ow M ρ σ H) (f : Fz m H H') (c : Cells K z m M' H') : Fin K H0 z0 m0 z m M' H' :=
  ⟨⟨(r.after f c).keep, fun a h _ => f.some (r.h0 a (r.z0t a (r.m0z a h)))⟩, c, r.z0z, r.mz, r.m0m⟩
theorem SPost.go {x : Res Fl} (p : SPost K Wc H0 z0 m0 z H D x) (mv : Mv K H H1 z z1) : SPost K Wc H0 z0 m0 z1 H1 D x := by
  match x with
  | .ok (.next ρ') M' => exact fun z' m' ow' σ' H' w mv' s => p z' m' ow' σ' H' w (mv.trans mv') s
  | .ok (.ret l) M' => exact p
  | .exc c M' => exact p
  | .bad => exact p
theorem SPost.bind {x : Res Fl} {k : Fl → Mem → Res Fl} {N : L2.St → Hp → Prop} (p : SPost K Wc H0 z0 m0 z H D (x.bind k)) (hr : ∀ v M, k (.ret v) M = .ok (.ret v) M)
    (next : ∀ ρ' M', ∀ z' m' ow' σ' H', Wf K H' → Mv K H H' z z' → SRel K H0 z0 m0 z' m' ow' M' ρ' σ' H' → SPost K Wc H0 z0 m0 z' H' D (k (.next ρ') M') → N σ' H') : SPost K Wc H0 z0 m0 z H { D with nx := N, ct := N, bk := D.nx } x := by
  match x with
  | .ok (.next ρ') M' => exact fun z' m' ow' σ' H' w mv s => next ρ' M' z' m' ow' σ' H' w mv s (SPost.go (x := k (.next ρ') M') p mv)
  | .ok (.ret l) M' =>
    have p : SPost K Wc H0 z0 m0 z H D (k (.ret l) M') := p
    rw [hr] at p
    exact p
  | .exc c M' => exact p
  | .bad => exact p
theorem SPost.bind' {x : Res Fl} {k : Fl → Mem → Res Fl} {u : TS} (p : SPost K Wc H0 z0 m0 z H D (x.bind k)) (hr : ∀ v M, k (.ret v) M = .ok (.ret v) M)
    (next : ∀ ρ' M', ∀ z' m' ow' σ' H', Wf K H' → SRel K H0 z0 m0 z' m' ow' M' ρ' σ' H' → SPost K Wc H0 z0 m0 z' H' D (k (.next ρ') M') → u D σ' H') : SPost K Wc H0 z0 m0 z H { D with nx := u D } x := by
  match x with
  | .ok (.next ρ') M' => exact fun z' m' ow' σ' H' w mv s => next ρ' M' z' m' ow' σ' H' w s (SPost.go (x := k (.next ρ') M') p mv)
  | .ok (.ret l) M' =>
    have p : SPost K Wc H0 z0 m0 z H D (k (.ret l) M') := p
    rw [hr] at p
    exact p
  | .exc c M' => exact p
  | .bad => exact p
def tS (K : PySem.W.Frag) (Wc : Nat → Hp → Prop) (f : Rho → Mem → Res Fl) : TS := fun D σ H => ∃ H0 z0 m0 z m ow M ρ, SRel K H0 z0 m0 z m ow M ρ σ H ∧ SPost K Wc H0 z0 m0 z H D (f ρ M)
/-- an expression within a statement -/
theorem evS {f : Rho → Mem → Res Vl} {k : Vl → Mem → Res Fl} {R : VK} (vs : List Nat) (r : SRel K H0 z0 m0 z m ow M ρ σ H) (hp : SPost K Wc H0 z0 m0 z H D ((f (view ρ vs) M).bind k))
    (next : ∀ l M1 v H1, Wf K H1 → Fz m H H1 → Cells K z m M1 H1 → (okv vs l = true → RepV K H z m H1 v l) → SPost K Wc H0 z0 m0 z H D (k l M1) → R v H1) : tE K Wc f σ H R := by
  obtain ⟨z', hz, hk, r'⟩ := r.view vs
  refine ⟨H, z', m, M, Co.view ρ vs, r'.erel, ?_⟩
  cases e : f (Co.view ρ vs) M with
  | ok l M1 =>
    rw [e] at hp
    exact fun v H1 w fz c q => next l M1 v H1 w fz (cells_up r fz c) (fun ho => okv_up r fz c hk ho q) hp
  | exc c M1 =>
    rw [e] at hp
    exact fun H1 w fz c => hp z m H1 w (r.fin fz (cells_up r fz c))
  | bad => rw [e] at hp; exact hp
theorem evT {f : Rho → Mem → Res Vl} {A B : Mem → Res Fl} {R : Bool → Hp → Prop} (vs : List Nat) (r : SRel K H0 z0 m0 z m ow M ρ σ H) (hp : SPost K Wc H0 z0 m0 z H D ((f (view ρ vs) M).bind fun k M => ifB k (A M) (B M)))
    (next : ∀ b M1 H1, Wf K H1 → Fz m H H1 → Cells K z m M1 H1 → SPost K Wc H0 z0 m0 z H D (if b = true then A M1 else B M1) → R b H1) : tT K Wc f σ H R := by
  obtain ⟨z', hz, hk, r'⟩ := r.view vs
  refine ⟨H, z', m, M, Co.view ρ vs, r'.erel, ?_⟩
  cases e : f (Co.view ρ vs) M with
  | ok l M1 =>
    rw [e] at hp
    have hp : SPost K Wc H0 z0 m0 z H D (ifB l (A M1) (B M1)) := hp
    unfold ifB at hp
    split at hp
    · exact fun v H1 w fz c q => ⟨true, Rep.bool_inv q, next true M1 H1 w fz (cells_up r fz c) hp⟩
    · exact fun v H1 w fz c q => ⟨false, Rep.bool_inv q, next false M1 H1 w fz (cells_up r fz c) hp⟩
    · exact hp.elim
  | exc c M1 =>
    rw [e] at hp
    exact fun H1 w fz c => hp z m H1 w (r.fin fz (cells_up r fz c))
  | bad => rw [e] at hp; exact hp
theorem evIS {f : Rho → Mem → Res (List Dt)} {k : List Dt → Mem → Res Fl} {R : L2.It → Hp → Prop} (r : SRel K H0 z0 m0 z m ow M ρ σ H) (hp : SPost K Wc H0 z0 m0 z H D ((f ρ M).bind k))
    (next : ∀ ds M1 J H1, Wf K H1 → Fz m H H1 → Cells K z m M1 H1 → ds.length ≤ sizeLine → Src K H1 z J ds → SPost K Wc H0 z0 m0 z H D (k ds M1) → R J H1) : tI K Wc f σ H R := by
  refine ⟨H, z, m, M, ρ, r.erel, ?_⟩
  cases e : f ρ M with
  | ok l M1 =>
    rw [e] at hp
    exact fun H1 w fz c hl J s => next l M1 J H1 w fz c hl s hp
  | exc c M1 =>
    rw [e] at hp
    exact fun H1 w fz c => hp z m H1 w (r.fin fz c)
  | bad => rw [e] at hp; exact hp
/-- a range that is walked: no place is in it -/
def tIr (K : PySem.W.Frag) (Wc : Nat → Hp → Prop) (f : Rho → Mem → Res (List Dt)) : TI := fun σ H R => ∃ H0 z m M ρ, ERel K H0 z m M ρ σ H ∧ PostG K Wc z m (fun ds _ H' => ds.length ≤ sizeLine → ∀ J, (∀ z H, Src K H z J ds) → R J H') (f ρ M) H
theorem evIR {f : Rho → Mem → Res (List Dt)} {k : List Dt → Mem → Res Fl} {R : L2.It → Hp → Prop} (vs : List Nat) (r : SRel K H0 z0 m0 z m ow M ρ σ H) (hp : SPost K Wc H0 z0 m0 z H D ((f (view ρ vs) M).bind k))
    (next : ∀ ds M1 J H1, Wf K H1 → Fz m H H1 → Cells K z m M1 H1 → ds.length ≤ sizeLine → Src K H1 z J ds → SPost K Wc H0 z0 m0 z H D (k ds M1) → R J H1) : tIr K Wc f σ H R := by
  obtain ⟨z', hz, hk, r'⟩ := r.view vs
  refine ⟨H, z', m, M, Co.view ρ vs, r'.erel, ?_⟩
  cases e : f (Co.view ρ vs) M with
  | ok l M1 =>
    rw [e] at hp
    exact fun H1 w fz c hl J s => next l M1 J H1 w fz (cells_up r fz c) hl (s z H1) hp
  | exc c M1 =>
    rw [e] at hp
    exact fun H1 w fz c => hp z m H1 w (r.fin fz (cells_up r fz c))
  | bad => rw [e] at hp; exact hp
end
section
variable {X : Cx} {Wc : Nat → Hp → Prop} {fa fb : Rho → Mem → Res Vl} {a b : Expr} {pos : Pos}
def Ends.wf (K : PySem.W.Frag) (D : Ends) : Ends := { D with nx := fun σ H => Wf K H → D.nx σ H, rt := fun v H => Wf K H → D.rt v H }
theorem PS.weak {st : Stmt} {t t' : TS} (h : PS X st t) (hw : ∀ D σ H, Wf X.K H → t' D σ H → t (Ends.wf X.K D) σ H) : PS X st t' := by
  refine ⟨fun pins s σ H D I q => thn (h.run pins s σ H _ I (hw D σ H (Wf.of I) q)) fun f s' p => ?_⟩
  cases f with
  | next => obtain ⟨σ', H', I', q'⟩ := p; exact ⟨σ', H', I', q' (Wf.of I')⟩
  | brk => exact p
  | cont => exact p
  | ret u => obtain ⟨v, σ', H', I', r, q'⟩ := p; exact ⟨v, σ', H', I', r, q' (Wf.of I')⟩
theorem PSs.weak {st : List Stmt} {t t' : TS} (h : PSs X st t) (hw : ∀ D σ H, Wf X.K H → t' D σ H → t (Ends.wf X.K D) σ H) : PSs X st t' := by
  refine ⟨fun pins s σ H D I q => thn (h.run pins s σ H _ I (hw D σ H (Wf.of I) q)) fun f s' p => ?_⟩
  cases f with
  | next => obtain ⟨σ', H', I', q'⟩ := p; exact ⟨σ', H', I', q' (Wf.of I')⟩
  | brk => exact p
  | cont => exact p
  | ret u => obtain ⟨v, σ', H', I', r, q'⟩ := p; exact ⟨v, σ', H', I', r, q' (Wf.of I')⟩
theorem SPost.wf {K : PySem.W.Frag} {H0 H : Hp} {z0 z : Addr → Prop} {m0 : List Addr} {D : Ends} {x : Res Fl} (p : SPost K Wc H0 z0 m0 z H D x) : SPost K Wc H0 z0 m0 z H (Ends.wf K D) x := by
  match x with
  | .ok (.next ρ') M' => exact fun z' m' ow' σ' H' w mv s _ => p z' m' ow' σ' H' w mv s
  | .ok (.ret l) M' => exact fun v zR m' H' w f r _ => p v zR m' H' w f r
  | .exc c M' => exact p
  | .bad => exact p
/-- another reading of the same expression -/
def Rd (X : Cx) (Wc : Nat → Hp → Prop) (te : TE) (f : Rho → Mem → Res Vl) : Prop := ∀ σ H Q, Wf X.K H → tE X.K Wc f σ H Q → te σ H (fun v H' => Wf X.K H' → Q v H')
theorem plain_nw {K : PySem.W.Frag} {H0 H : Hp} {z : Addr → Prop} {m : List Addr} {v : V} {l : Vl} (r : RepV K H0 z m H v l) : plainV l = true ∨ isOwn (slotOf l) = true ∧ isOwn l = false := by
  cases l with
  | dat d => exact .inl rfl
  | cell n => exact .inl rfl
  | scr n => exact .inl rfl
  | nw xs => exact .inr ⟨rfl, rfl⟩
  | nwd t kvs => exact .inr ⟨rfl, rfl⟩
  | _ => exact r.elim
/-- name = e -/
theorem r_set {vs : List Nat} {k : Kd} {i : Nat} {f : Rho → Mem → Res Vl} {te : TE} {D : Ends} {σ : L2.St} {H : Hp} (w : Wf X.K H) (rd : Rd X Wc te f)
    (h : tS X.K Wc (fun ρ M => (f (view ρ vs) M).bind fun v M => if okv vs v then (asg k i v ρ M).bind fun ρ M => .ok (.next ρ) M else .bad) D σ H) : tAsg te (gName i) (Ends.wf X.K D) σ H := by
  obtain ⟨H0, z0, m0, z, m, ow, M, ρ, r, hp⟩ := h
  refine rd σ H _ w (evS vs r hp fun l M1 v H1 w1 fz c up hp1 => ?_)
  by_cases ho : okv vs l = true
  · rw [if_pos ho] at hp1
    have q := up ho
    obtain ⟨z1, ow1, mv, r1⟩ := r.push fz c q
    cases e : asg k i l ρ M1 with
    | ok ρ' M2 =>
      rw [e] at hp1
      obtain ⟨z2, m2, ow2, hz, r2⟩ := r1.asg (plain_nw q) e
      exact hp1 z2 m2 ow2 _ H1 w1 (mv.trans (Mv.sub hz)) r2
    | exc c M2 =>
      have : ∀ (k : Kd) (l : Vl), asg k i l ρ M1 ≠ .exc c M2 := fun k l q => by
        unfold asg at q
        split at q <;> first | cases q | (split at q <;> cases q)
      exact absurd e (this k l)
    | bad => rw [e] at hp1; exact hp1.elim
  · rw [if_neg ho] at hp1; exact hp1.elim
end
end Co
end

section
set_option Elab.async false
set_option linter.all false
set_option maxRecDepth 100000
set_option maxHeartbeats 1000000
/-! statements: one reading a statement -/
namespace Co
open PySem L2
theorem Res.assoc {α β γ : Type} {r : Res α} {f : α → Mem → Res β} {g : β → Mem → Res γ} : (r.bind f).bind g = r.bind fun a M => (f a M).bind g := by cases r <;> rfl
theorem getD_some {ρ : Rho} {i : Nat} {l : Vl} (h : ρ.getD i .und = l) (hl : l ≠ .und) : ρ[i]? = some l := by
  rw [List.getD_eq_getElem?_getD] at h
  cases e : ρ[i]? with
  | none => rw [e] at h; exact absurd h.symm hl
  | some x => rw [e] at h; exact congrArg some h
theorem noLs_set {d : Dt} (h : noL d = true) : ∀ {xs : List Dt} (j : Nat), noLs xs = true → noLs (xs.set j d) = true
  | [], _, _ => rfl
  | x :: xs, 0, q => by
    unfold noLs at q
    simp only [Bool.and_eq_true] at q
    show noLs (d :: xs) = true
    unfold noLs
    rw [h, q.2]; rfl
  | x :: xs, j + 1, q => by
    unfold noLs at q
    simp only [Bool.and_eq_true] at q
    show noLs (x :: xs.set j d) = true
    unfold noLs
    rw [q.1, noLs_set h j q.2]; rfl
theorem okv_int (vs : List Nat) (i : Int) : okv vs (.dat (.int i)) = true := by unfold okv; simp [okv1, noL]
section
variable {X : Cx} {Wc : Nat → Hp → Prop} {cf : Nat → List Vl → Mem → Res Vl} {D : Ends} {σ : L2.St} {H : Hp} {te ti : TE} {vs : List Nat} {i : Nat} {e k : Ex}
theorem r_app (h : tS X.K Wc (exec cf (.app vs i e)) D σ H) : tDrop (tBM X.K "list" rAppend (tVar i) (tCons (tE X.K Wc (ev cf e)) tNil)) (Ends.wf X.K D) σ H := by
  obtain ⟨H0, z0, m0, z, m, ow, M, ρ, r, hp⟩ := h
  simp only [exec] at hp
  split at hp
  · rename_i xs e0
    have e' := getD_some e0 (by intro h; cases h)
    obtain ⟨h1, h2, h3, h4, us, h5, h6⟩ := r.own i _ e' rfl
    refine ⟨.ref (ow i), h1, .inl ⟨rfl, us, .of h5⟩, ?_⟩
    refine evS vs r hp fun l M1 v H1 w1 fz c up hp1 => ?_
    by_cases ho : okv vs l = true
    · rw [if_pos ho] at hp1
      have q := up ho
      have r1 := r.after fz c
      obtain ⟨_, _, _, _, us1, g5, g6⟩ := r1.own i _ e' rfl
      cases ed : l.get with
      | none => rw [ed] at hp1; exact hp1.elim
      | some d =>
        rw [ed] at hp1
        dsimp only at hp1
        by_cases hl : xs.length < lim
        · rw [if_pos hl] at hp1
          refine ⟨ow i, us1, v, rfl, rfl, g5, by rw [g6.length]; exact hl, fun w2 => ?_⟩
          exact hp1 z m ow σ _ w2 ((Mv.fz fz r.mz).trans (Mv.upd h2)) (r1.lstw e' (g6.append (.cons (q.get ed) .nil)))
        · rw [if_neg hl] at hp1; exact hp1.elim
    · rw [if_neg ho] at hp1; exact hp1.elim
  · exact hp.elim
theorem r_exa {a : Ex} (h : tS X.K Wc (exec cf (.exa vs a e)) D σ H) : tDrop (tBM X.K "list" rAppend (tE X.K Wc (ev cf a)) (tCons (tE X.K Wc (ev cf e)) tNil)) (Ends.wf X.K D) σ H := by
  obtain ⟨H0, z0, m0, z, m, ow, M, ρ, r, hp⟩ := h
  simp only [exec] at hp
  refine evS vs r hp fun l M1 v H1 w1 fz c up hp1 => ?_
  by_cases ho : okv vs l = true
  · rw [if_pos ho] at hp1
    split at hp1
    · rename_i xs
      obtain ⟨z1, ow1, mv1, r1⟩ := r.push fz c (up ho)
      have e' : (ρ ++ [slotOf (Vl.nw xs)])[ρ.length]? = some (.own xs) := by simp [slotOf]
      obtain ⟨h1, h2, h3, h4, us, h5, h6⟩ := r1.own _ _ e' rfl
      have hv : v = .ref (ow1 ρ.length) := by rw [r.len] at h1; simpa [r.len] using h1
      subst hv
      refine ⟨.inl ⟨rfl, us, .of h5⟩, ?_⟩
      refine evS vs r1.pop (hp1.go mv1) fun l2 M2 u H2 w2 fz2 c2 up2 hp2 => ?_
      by_cases ho2 : okv vs l2 = true
      · rw [if_pos ho2] at hp2
        have r2 := r1.after fz2 c2
        obtain ⟨_, _, _, _, us2, g5, g6⟩ := r2.own _ _ e' rfl
        cases ed : l2.get with
        | none => rw [ed] at hp2; exact hp2.elim
        | some d =>
          rw [ed] at hp2
          dsimp only at hp2
          by_cases hl : xs.length < lim
          · rw [if_pos hl] at hp2
            refine ⟨ow1 ρ.length, us2, u, rfl, rfl, g5, by rw [g6.length]; exact hl, fun w3 => ?_⟩
            have r3 := r2.lstw e' (g6.append (.cons ((up2 ho2).get ed) .nil))
            rw [List.set_append_right _ _ (Nat.le_refl _), Nat.sub_self] at r3
            exact hp2 z1 m ow1 σ _ w3 ((Mv.fz fz2 r1.mz).trans (Mv.upd h2)) r3.pop
          · rw [if_neg hl] at hp2; exact hp2.elim
      · rw [if_neg ho2] at hp2; exact hp2.elim
    · exact hp1.elim
  · rw [if_neg ho] at hp1; exact hp1.elim
theorem r_lput (h : tS X.K Wc (exec cf (.lput vs i k e)) D σ H) : tAsg (tE X.K Wc (ev cf e)) (gSub (tVar i) (tE X.K Wc (ev cf k)) rSetL) (Ends.wf X.K D) σ H := by
  obtain ⟨H0, z0, m0, z, m, ow, M, ρ, r, hp⟩ := h
  simp only [exec] at hp
  refine evS vs r hp fun l M1 v H1 w1 fz c up hp1 => ?_
  split at hp1
  · rename_i xs e0
    have e' := getD_some e0 (by intro h; cases h)
    have r1 := r.after fz c
    obtain ⟨h1, h2, h3, h4, us, h5, h6⟩ := r1.own i _ e' rfl
    refine ⟨.ref (ow i), h1, ?_⟩
    refine evS vs r1 (hp1.go (Mv.fz fz r.mz)) fun l2 M2 u H2 w2 fz2 c2 up2 hp2 => ?_
    by_cases ho : okv vs l = true
    · rw [if_pos ho] at hp2
      have q := (up ho).mono fz2 r.mz
      have r2 := r1.after fz2 c2
      obtain ⟨_, _, _, _, us2, g5, g6⟩ := r2.own i _ e' rfl
      split at hp2
      · rename_i d zz ed
        have hu := Rep.int_inv (up2 (okv_int vs zz))
        subst hu
        cases ej : ix xs.length zz with
        | none => rw [ej] at hp2; exact hp2.elim
        | some j =>
          rw [ej] at hp2
          refine ⟨ow i, us2, zz, j, rfl, rfl, g5, by rw [g6.length]; exact ej, fun w3 => ?_⟩
          exact hp2 z m ow σ _ w3 ((Mv.fz fz2 r.mz).trans (Mv.upd h2)) (r2.lstw e' (Reps.set (q.get ed) j g6))
      · exact hp2.elim
    · rw [if_neg ho] at hp2; exact hp2.elim
  · exact hp1.elim
theorem r_cput (h : tS X.K Wc (exec cf (.cput vs i k e)) D σ H) : tAsg (tE X.K Wc (ev cf e)) (gSub (tVar i) (tE X.K Wc (ev cf k)) rSetL) (Ends.wf X.K D) σ H := by
  obtain ⟨H0, z0, m0, z, m, ow, M, ρ, r, hp⟩ := h
  simp only [exec] at hp
  refine evS vs r hp fun l M1 v H1 w1 fz c up hp1 => ?_
  split at hp1
  · rename_i n e0
    have e' := getD_some e0 (by intro h; cases h)
    have r1 := r.after fz c
    obtain ⟨vr, h1, a, rfl, hma⟩ := r1.env i (.cell n) e' rfl
    refine ⟨.ref a, h1, ?_⟩
    refine evS vs r1 (hp1.go (Mv.fz fz r.mz)) fun l2 M2 u H2 w2 fz2 c2 up2 hp2 => ?_
    have r2 := r1.after fz2 c2
    split at hp2
    · rename_i d zz xs ed ex
      by_cases hn : noL d = true
      · rw [if_pos hn] at hp2
        have ho : okv vs l = true := by
          unfold okv
          cases l with
          | dat d' => cases ed; simp [okv1, hn]
          | nw xs => cases ed; cases hn
          | nwd t kvs => cases ed; cases hn
          | _ => cases ed
        have q := (up ho).mono fz2 r.mz
        have hu := Rep.int_inv (up2 (okv_int vs zz))
        subst hu
        obtain ⟨us2, g5, g6, g7⟩ := c2.2.2 n a xs hma ex
        cases ej : ix xs.length zz with
        | none => rw [ej] at hp2; exact hp2.elim
        | some j =>
          rw [ej] at hp2
          refine ⟨a, us2, zz, j, rfl, rfl, g5, by rw [g6.length]; exact ej, fun w3 => ?_⟩
          exact hp2 z m ow σ _ w3 ((Mv.fz fz2 r.mz).trans (Mv.upd (r.mz a (List.mem_of_getElem? hma)))) (r2.cellw hma (Reps.set (q.get ed) j g6) (noLs_set hn j g7))
      · rw [if_neg hn] at hp2; exact hp2.elim
    · exact hp2.elim
  · exact hp1.elim
theorem r_ex (h : tS X.K Wc (exec cf (.ex vs e)) D σ H) : tDrop (tE X.K Wc (ev cf e)) D σ H := by
  obtain ⟨H0, z0, m0, z, m, ow, M, ρ, r, hp⟩ := h
  simp only [exec] at hp
  exact evS vs r hp fun l M1 v H1 w1 fz c up hp1 => hp1 z m ow σ H1 w1 (Mv.fz fz r.mz) (r.after fz c)
theorem r_iff {a b : Stms} (h : tS X.K Wc (exec cf (.iff vs e a b)) D σ H) : tIfS (tT X.K Wc (ev cf e)) (tS X.K Wc (execs cf a)) (tS X.K Wc (execs cf b)) D σ H := by
  obtain ⟨H0, z0, m0, z, m, ow, M, ρ, r, hp⟩ := h
  simp only [exec] at hp
  refine evT vs r hp fun b M1 H1 w1 fz c hp1 => ?_
  cases b with
  | true =>
    rw [if_pos rfl]
    exact ⟨H0, z0, m0, z, m, ow, M1, ρ, r.after fz c, SPost.go hp1 (Mv.fz fz r.mz)⟩
  | false =>
    rw [if_neg Bool.false_ne_true]
    exact ⟨H0, z0, m0, z, m, ow, M1, ρ, r.after fz c, SPost.go hp1 (Mv.fz fz r.mz)⟩
/-- targets, within statements -/
def GS (K : PySem.W.Frag) (tg : Tg) (g : TG) : Prop := ∀ (H0 : Hp) (z0 : Addr → Prop) (m0 : List Addr) (z : Addr → Prop) (m : List Addr) (ow : Nat → Addr) (M : Mem) (ρ ρ' : Rho) (σ : L2.St) (H : Hp) (v : V) (d : Dt) (Q : L2.St → Hp → Prop), SRel K H0 z0 m0 z m ow M ρ σ H → Rep K H z v d → bindT tg d ρ = some ρ' →
  (∀ σ', SRel K H0 z0 m0 z m ow M ρ' σ' H → Q σ' H) → g v σ H Q
def GSs (K : PySem.W.Frag) (tgs : Tgs) (g : TGs) : Prop := ∀ (H0 : Hp) (z0 : Addr → Prop) (m0 : List Addr) (z : Addr → Prop) (m : List Addr) (ow : Nat → Addr) (M : Mem) (ρ ρ' : Rho) (σ : L2.St) (H : Hp) (vs : List V) (ds : List Dt) (Q : L2.St → Hp → Prop), SRel K H0 z0 m0 z m ow M ρ σ H → Reps K H z vs ds → bindTs tgs ds ρ = some ρ' →
  (∀ σ', SRel K H0 z0 m0 z m ow M ρ' σ' H → Q σ' H) → g vs σ H Q
theorem gs1_nm (i : Nat) : GS X.K (.nm i) (gName i) := fun H0 z0 m0 z m ow M ρ ρ' σ H v d Q hr r e q => by
  cases e
  exact q _ (hr.put i rfl r)
theorem gss_nil : GSs X.K .nil gNil := fun H0 z0 m0 z m ow M ρ ρ' σ H vs ds Q hr r e q => by
  cases r with
  | nil => cases e; exact ⟨rfl, q _ hr⟩
  | cons _ _ => cases e
theorem gss_cons {t : Tg} {ts : Tgs} {g : TG} {gs : TGs} (h1 : GS X.K t g) (h2 : GSs X.K ts gs) : GSs X.K (.cons t ts) (gCons g gs) := fun H0 z0 m0 z m ow M ρ ρ' σ H vs ds Q hr r e q => by
  cases r with
  | nil => cases e
  | cons r0 rr =>
    simp only [bindTs, Option.bind_eq_some_iff] at e
    obtain ⟨ρ1, e1, e2⟩ := e
    exact ⟨_, _, rfl, h1 H0 z0 m0 z m ow M ρ ρ1 σ H _ _ _ hr r0 e1 fun σ1 hr1 => h2 H0 z0 m0 z m ow M ρ1 ρ' σ1 H _ _ _ hr1 rr e2 fun σ2 hr2 => q σ2 hr2⟩
theorem gs1_tp {ts : Tgs} {gs : TGs} {n : Nat} (h : GSs X.K ts gs) (hn : ∀ ds ρ ρ', bindTs ts ds ρ = some ρ' → ds.length = n) : GS X.K (.tp ts) (gTup X.K n gs) := fun H0 z0 m0 z m ow M ρ ρ' σ H v d Q hr r e q => by
  cases r with
  | tup h1 n1 r1 =>
    simp only [bindT] at e
    exact ⟨_, _, rfl, .of h1, by rw [r1.length]; exact hn _ _ _ e, h H0 z0 m0 z m ow M ρ ρ' σ H _ _ _ hr r1 e q⟩
  | _ => simp [bindT] at e
theorem r_unp {tg : Tg} {g : TG} (gs : GS X.K tg g) (h : tS X.K Wc (exec cf (.unp vs tg e)) D σ H) : tAsg (tE X.K Wc (ev cf e)) g D σ H := by
  obtain ⟨H0, z0, m0, z, m, ow, M, ρ, r, hp⟩ := h
  simp only [exec] at hp
  refine evS vs r hp fun l M1 v H1 w1 fz c up hp1 => ?_
  by_cases ho : okv vs l = true
  · rw [if_pos ho] at hp1
    cases ed : l.get with
    | none => rw [ed] at hp1; exact hp1.elim
    | some d =>
      rw [ed] at hp1
      dsimp only at hp1
      cases eb : bindT tg d ρ with
      | none => rw [eb] at hp1; exact hp1.elim
      | some ρ' =>
        rw [eb] at hp1
        exact gs H0 z0 m0 z m ow M1 ρ ρ' σ H1 v d _ (r.after fz c) ((up ho).get ed) eb fun σ' r' => hp1 z m ow σ' H1 w1 (Mv.fz fz r.mz) r'
  · rw [if_neg ho] at hp1; exact hp1.elim
/-- own lists as an expression behind 'return' sees them -/
theorem SRel.erelF {K : PySem.W.Frag} {H0 H : Hp} {z0 z : Addr → Prop} {m0 m : List Addr} {ow : Nat → Addr} {M : Mem} {ρ : Rho} {σ : L2.St} (r : SRel K H0 z0 m0 z m ow M ρ σ H) : ∃ zR, (∀ a, z0 a → zR a) ∧ (∀ a, zR a → z a) ∧ ERel K H0 zR m M (ρ.map fin1) σ H := by
  have sub : ∀ a, (z a ∧ ∀ i l, ρ[i]? = some l → isOwn l = true → a ≠ ow i) → z a := fun a h => h.1
  refine ⟨fun a => z a ∧ ∀ i l, ρ[i]? = some l → isOwn l = true → a ≠ ow i, fun a h => ⟨r.z0z a h, fun i l e hl q => ?_⟩, sub, ?_⟩
  · obtain ⟨_, _, h3, _⟩ := r.own i l e hl
    have := r.z0t a h
    rw [q, h3] at this; cases this
  · refine ⟨fun a h => ⟨r.mz a h, fun i l e hl q => ?_⟩, fun a h => let ⟨o, e, _⟩ := r.zt a h.1; by rw [e]; rfl, r.h0, ⟨r.cells.1, r.cells.2.1, fun n a xs e1 e2 => let ⟨us, g1, g2, g3⟩ := r.cells.2.2 n a xs e1 e2; ⟨us, g1, Reps.mono (Mv.sub sub) g2, g3⟩⟩, by simp [r.len], fun i vl e s => ?_, fun a h xs q => by
      obtain ⟨o, e, n⟩ := r.zt a h.1
      rw [q] at e; cases e; exact n _ rfl⟩
    · obtain ⟨_, _, _, h4, _⟩ := r.own i l e hl
      exact h4 (by rw [← q]; exact h)
    · rw [List.getElem?_map] at e
      simp only [Option.map_eq_some_iff] at e
      obtain ⟨l, e, rfl⟩ := e
      rcases r.nonw i l e with p | p | p
      · obtain ⟨v, h1, h2⟩ := r.env i l e p
        refine ⟨v, h1, ?_⟩
        cases l with
        | dat d => exact Rep.mono (Mv.sub sub) h2
        | cell n => exact h2
        | scr ns => obtain ⟨a, q, g⟩ := h2; exact ⟨a, q, g.mono (Mv.sub sub)⟩
        | _ => cases p
      · obtain ⟨h1, h2, h3, h4, h5⟩ := r.own i l e p
        have mv : Mv K H H z (fun a => (z a ∧ ∀ i l, ρ[i]? = some l → isOwn l = true → a ≠ ow i) ∨ a = ow i) := Mv.sub fun a q => q.elim (fun q => q.1) fun q => by rw [q]; exact h2
        cases l with
        | own xs =>
          obtain ⟨us, h5, h6⟩ := h5
          exact ⟨_, h1, ow i, us, rfl, h3, fun q => q.2 i _ e rfl rfl, h5, Reps.mono mv h6⟩
        | odc t kvs => exact ⟨_, h1, ow i, rfl, h3, fun q => q.2 i _ e rfl rfl, h5.mono mv fun o q => q⟩
        | _ => cases p
      · rw [p] at s; cases s
theorem r_ret (h : tS X.K Wc (exec cf (.ret e)) D σ H) : tRet (tE X.K Wc (ev cf e)) D σ H := by
  obtain ⟨H0, z0, m0, z, m, ow, M, ρ, r, hp⟩ := h
  simp only [exec] at hp
  obtain ⟨zR, h1, h2, re⟩ := r.erelF
  refine ⟨H0, zR, m, M, ρ.map fin1, re, ?_⟩
  have fin : ∀ {M' : Mem} {H' : Hp}, Fz m H H' → Cells X.K zR m M' H' → Fin X.K H0 z0 m0 zR m M' H' := fun f c => ⟨(r.fin f (cells_up r f c)).fz, c, h1, re.zm, r.m0m⟩
  cases ee : ev cf e (ρ.map fin1) M with
  | ok l M1 =>
    rw [ee] at hp
    exact fun v H1 w fz c q => hp v zR m H1 w (fin fz c) q
  | exc c M1 =>
    rw [ee] at hp
    exact fun H1 w fz c => hp zR m H1 w (fin fz c)
  | bad => rw [ee] at hp; exact hp
theorem r_retN (w : Wf X.K H) (h : tS X.K Wc (exec cf .retN) D σ H) : tRetN D σ H := by
  obtain ⟨H0, z0, m0, z, m, ow, M, ρ, r, hp⟩ := h
  simp only [exec] at hp
  exact hp .non z m H w (r.fin Fz.refl r.cells) .non
theorem r_pass (w : Wf X.K H) (h : tS X.K Wc (exec cf .pass) D σ H) : tNext D σ H := by
  obtain ⟨H0, z0, m0, z, m, ow, M, ρ, r, hp⟩ := h
  simp only [exec] at hp
  exact hp z m ow σ H w Mv.refl r
/-- a loop's source -/
def RdI (X : Cx) (Wc : Nat → Hp → Prop) (f : Rho → Mem → Res (List Dt)) (wi : TI) : Prop := ∀ (H0 : Hp) (z0 : Addr → Prop) (m0 : List Addr) (z : Addr → Prop) (m : List Addr) (ow : Nat → Addr) (M : Mem) (ρ : Rho) (σ : L2.St) (H : Hp) (D : Ends) (k : List Dt → Mem → Res Fl) (R : L2.It → Hp → Prop),
  SRel X.K H0 z0 m0 z m ow M ρ σ H → SPost X.K Wc H0 z0 m0 z H D ((f ρ M).bind k) →
    (∀ ds M1 J H1, Wf X.K H1 → Fz m H H1 → Cells X.K z m M1 H1 → ds.length ≤ sizeLine → Src X.K H1 z J ds → SPost X.K Wc H0 z0 m0 z H D (k ds M1) → R J H1) → wi σ H R
theorem rdi_any {f : Rho → Mem → Res (List Dt)} : RdI X Wc (fun ρ M => f ρ M) (tI X.K Wc f) := fun H0 z0 m0 z m ow M ρ σ H D k R r hp next => evIS r hp next
theorem rdi_rng {f : Rho → Mem → Res (List Dt)} : RdI X Wc (fun ρ M => f (view ρ vs) M) (tIr X.K Wc f) := fun H0 z0 m0 z m ow M ρ σ H D k R r hp next => evIR vs r hp next
/-- a source that is fresh or holds no list, own slots borrowed -/
theorem rdi_seq (hv : vs.isEmpty = false) : RdI X Wc (evIv cf vs (.seq e)) (fun σ H R => (tE X.K Wc (ev cf e) σ H fun x H1 => ∃ a, x = .ref a ∧ (∃ xs, SqL X.K H1 a xs) ∧ R (Itl X.K a) H1) ∨ (tE X.K Wc (ev cf e) σ H fun x H1 => ∃ a, x = .ref a ∧ (∃ xs, SqT X.K H1 a xs) ∧ R (Itt X.K a) H1)) := by
  intro H0 z0 m0 z m ow M ρ σ H D k R r hp next
  have e1 : evIv cf vs (.seq e) ρ M = (ev cf e (view ρ vs) M).bind fun v M => if okv1 v then .lift (seq? v) M else .bad := by
    unfold evIv
    rw [hv]; rfl
  rw [e1, Res.assoc] at hp
  have oke : ∀ l, okv1 l = true → okv vs l = true := fun l h => by unfold okv; rw [h, Bool.or_true]
  obtain ⟨z', hz, hk, r'⟩ := r.view vs
  cases ee : ev cf e (view ρ vs) M with
  | bad => rw [ee] at hp; exact hp.elim
  | exc c M1 =>
    rw [ee] at hp
    refine .inl ⟨H, z', m, M, Co.view ρ vs, r'.erel, ?_⟩
    rw [ee]
    exact fun H1 w fz c => hp z m H1 w (r.fin fz (cells_up r fz c))
  | ok l M1 =>
    rw [ee] at hp
    have hp : SPost X.K Wc H0 z0 m0 z H D ((if okv1 l then Res.lift (seq? l) M1 else .bad).bind k) := hp
    by_cases ho : okv1 l = true
    case neg => rw [if_neg ho] at hp; exact hp.elim
    rw [if_pos ho] at hp
    cases es : seq? l with
    | none => rw [es] at hp; exact hp.elim
    | some ds =>
      rw [es] at hp
      have hp : SPost X.K Wc H0 z0 m0 z H D (k ds M1) := hp
      by_cases ht : isTup l = true
      · refine .inr ⟨H, z', m, M, Co.view ρ vs, r'.erel, ?_⟩
        rw [ee]
        intro v H1 w fz c q
        rcases seq_src (okv_up r fz c hk (oke l ho) q) es with ⟨a, us, e1, h1, n1, r1, q⟩ | ⟨a, us, e1, h1, n1, r1, q⟩
        · rw [isTup_f q] at ht; cases ht
        · exact ⟨a, e1, ⟨us, .of h1⟩, next ds M1 _ H1 w fz (cells_up r fz c) (by rw [← r1.length]; exact w.lt a us (.of h1)) (.tup h1 n1 r1) hp⟩
      · refine .inl ⟨H, z', m, M, Co.view ρ vs, r'.erel, ?_⟩
        rw [ee]
        intro v H1 w fz c q
        rcases seq_src (okv_up r fz c hk (oke l ho) q) es with ⟨a, us, e1, h1, n1, r1, q⟩ | ⟨a, us, e1, h1, n1, r1, ys, q⟩
        · exact ⟨a, e1, ⟨us, .of h1⟩, next ds M1 _ H1 w fz (cells_up r fz c) (by rw [← r1.length]; exact w.ll a us (.of h1)) (.lst h1 n1 r1) hp⟩
        · rw [q] at ht; exact absurd rfl ht
theorem r_dput (hu : X.A.units + 1 < cLine) (h : tS X.K Wc (exec cf (.dput vs i k e)) D σ H) : tAsg (tE X.K Wc (ev cf e)) (gSub (tVar i) (tE X.K Wc (ev cf k)) rSetD) (Ends.wf X.K D) σ H := by
  obtain ⟨H0, z0, m0, z, m, ow, M, ρ, r, hp⟩ := h
  simp only [exec] at hp
  refine evS vs r hp fun l M1 v H1 w1 fz c up hp1 => ?_
  split at hp1
  · rename_i t kvs e0
    have e' := getD_some e0 (by intro h; cases h)
    have r1 := r.after fz c
    obtain ⟨h1, h2, h3, h4, h5⟩ := r1.own i _ e' rfl
    refine ⟨.ref (ow i), h1, ?_⟩
    refine evS vs r1 (hp1.go (Mv.fz fz r.mz)) fun l2 M2 u H2 w2 fz2 c2 up2 hp2 => ?_
    by_cases ho : (okv vs l && okv vs l2) = true
    case neg => rw [if_neg ho] at hp2; exact hp2.elim
    rw [if_pos ho] at hp2
    rw [Bool.and_eq_true] at ho
    have q := (up ho.1).mono fz2 r.mz
    have q2 := up2 ho.2
    have r2 := r1.after fz2 c2
    split at hp2
    · rename_i d kd ed ek
      obtain ⟨_, _, _, _, g5⟩ := r2.own i _ e' rfl
      cases ep : dPut t kvs kd d with
      | none => rw [ep] at hp2; exact hp2.elim
      | some kvs' =>
        rw [ep] at hp2
        have hp2 : SPost X.K Wc H0 z0 m0 z H1 D (if kvs.length < lim then .ok (.next (ρ.set i (.odc t kvs'))) M2 else .bad) := hp2
        by_cases hl : kvs.length < lim
        case neg => rw [if_neg hl] at hp2; exact hp2.elim
        rw [if_pos hl] at hp2
        have rv := q.get ed
        have rk := q2.get ek
        unfold dPut at ep
        simp only [Option.map_eq_some_iff] at ep
        obtain ⟨p, ep, rfl⟩ := ep
        cases t with
        | false =>
          obtain ⟨ks, g6, g7⟩ := g5
          simp only [keyT, Bool.false_eq_true, if_false, Option.map_eq_some_iff] at ep
          obtain ⟨key, ek1, rfl⟩ := ep
          have := toK_inv ek1
          subst this
          refine ⟨ow i, _, rfl, by rw [rk.key]; exact DPut.k g6 (by rw [repsK_len g7]; exact hl), fun w3 => ?_⟩
          exact hp2 z m ow σ _ w3 ((Mv.fz fz2 r.mz).trans (Mv.upd h2)) (r2.ownw e' rfl rfl (fun xs q => by cases q) ⟨_, upd_same, RepsK.mono (Mv.upd h2) (repsK_put rv g7)⟩)
        | true =>
          obtain ⟨ks, g6, g7⟩ := g5
          simp only [keyT, if_true, Option.map_eq_some_iff] at ep
          obtain ⟨key, ek1, rfl⟩ := ep
          have := toKT_inv ek1
          subst this
          cases rk with
          | tup hb nb rb =>
            rw [rb.keys] at hb
            refine ⟨ow i, _, rfl, DPut.t g6 hb (by rw [repsT_len g7]; exact hl), fun w3 => ?_⟩
            exact hp2 z m ow σ _ w3 ((Mv.fz fz2 r.mz).trans (Mv.upd h2)) (r2.ownw e' rfl rfl (fun xs q => by cases q) ⟨_, upd_same, RepsT.mono (Mv.upd h2) (repsT_put rv g7)⟩)
    · exact hp2.elim
  · exact hp1.elim
theorem r_dpop (h : tS X.K Wc (exec cf (.dpop vs i k)) D σ H) : tDrop (tDPop1 (tVar i) (tE X.K Wc (ev cf k))) (Ends.wf X.K D) σ H := by
  obtain ⟨H0, z0, m0, z, m, ow, M, ρ, r, hp⟩ := h
  simp only [exec] at hp
  split at hp
  · rename_i kvs e0
    have e' := getD_some e0 (by intro h; cases h)
    obtain ⟨h1, h2, h3, h4, ks, h5, h6⟩ := r.own i _ e' rfl
    refine ⟨.ref (ow i), h1, ow i, rfl, .inl ⟨ks, .inl h5⟩, ?_⟩
    refine evS vs r hp fun l M1 u H1 w1 fz c up hp1 => ?_
    by_cases ho : okv vs l = true
    case neg => rw [if_neg ho] at hp1; exact hp1.elim
    rw [if_pos ho] at hp1
    have q := up ho
    have r1 := r.after fz c
    obtain ⟨_, _, _, _, ks1, g5, g6⟩ := r1.own i _ e' rfl
    split at hp1
    · rename_i kd ek
      cases ep : dDrop kvs kd with
      | none => rw [ep] at hp1; exact hp1.elim
      | some kvs' =>
        rw [ep] at hp1
        have hp1 : SPost X.K Wc H0 z0 m0 z H D (.ok (.next (ρ.set i (.odc false kvs'))) M1) := hp1
        unfold dDrop at ep
        simp only [Option.bind_eq_some_iff, Option.map_eq_some_iff] at ep
        obtain ⟨key, ek1, d, ef, rfl⟩ := ep
        have := toK_inv ek1
        subst this
        have rk := (q.get ek).key
        have o := repsK_find key g6
        rw [ef] at o
        cases ev : valV ks1 key with
        | none => rw [ev] at o; exact o.elim
        | some v =>
          refine ⟨ks1, key, v, g5, rk, ev, fun w3 => ?_⟩
          exact hp1 z m ow σ _ w3 ((Mv.fz fz r.mz).trans (Mv.upd h2)) (r1.ownw e' rfl rfl (fun xs q => by cases q) ⟨_, upd_same, RepsK.mono (Mv.upd h2) (repsK_drop g6)⟩)
    · exact hp1.elim
  · exact hp.elim
theorem r_for {wp : List Nat} {tg : Tg} {it : Co.It} {b : Stms} {wi : TI} {g : TG} (rd : RdI X Wc (evIv cf vs it) wi) (gs : GS X.K tg g) (h : tS X.K Wc (exec cf (.fr vs wp tg it b)) D σ H) : tFor wi g (tS X.K Wc (execs cf b)) D σ H := by
  obtain ⟨H0, z0, m0, z, m, ow, M, ρ, r, hp⟩ := h
  simp only [exec] at hp
  refine rd _ _ _ _ _ _ _ _ _ _ _ _ _ r hp fun ds M1 J H1 w1 fz c hl src hp1 => ?_
  generalize hb : (fun (x : Dt) (ρ : Rho) (M : Mem) => (match bindT tg x ρ with
      | some ρ' => execs cf b ρ' M
      | none => Res.bad : Res Fl)) = body at hp1
  refine ⟨fun i n σ H => n = ds.length - i ∧ i ≤ ds.length ∧ Wf X.K H ∧ ∃ z m ow M ρ, SRel X.K H0 z0 m0 z m ow M ρ σ H ∧ Src X.K H z J ds ∧ SPost X.K Wc H0 z0 m0 z H D (floop wp body (ds.drop i) ρ M), ⟨ds.length, by simp, Nat.zero_le _, w1, z, m, ow, M1, _, (r.after fz c).wipe wp, src, hp1.go (Mv.fz fz r.mz)⟩, ?_⟩
  rintro i n σ H ⟨rfl, hi, w, z, m, ow, M, ρ, r, src, hp⟩
  by_cases hlt : i < ds.length
  · have ed : ds[i]? = some ds[i] := List.getElem?_eq_getElem hlt
    obtain ⟨go, yl⟩ := src.go (fun a h => let ⟨o, e, _⟩ := r.zt a h; by rw [e]; rfl) ed
    refine .inr ⟨go, fun σ' H' => i + 1 ≤ ds.length ∧ Wf X.K H' ∧ ∃ z m ow M ρ, SRel X.K H0 z0 m0 z m ow M ρ σ' H' ∧ Src X.K H' z J ds ∧ SPost X.K Wc H0 z0 m0 z H' D (floop wp body (ds.drop (i + 1)) ρ M), fun σ' H' q => ⟨_, by omega, rfl, q⟩, fun x H' y => ?_⟩
    obtain ⟨sm, rx⟩ := yl x H' y
    rw [drop_cons ed] at hp
    unfold floop at hp
    have r' := r.after (Fz.of_same sm) (r.cells.same sm r.mz)
    have hp' := SPost.go hp (Mv.same (K := X.K) (z := z) sm)
    have src' := src.mono (Mv.same (K := X.K) (z := z) sm)
    rw [← hb] at hp'
    dsimp only at hp'
    cases eb : bindT tg ds[i] ρ with
    | none => rw [eb] at hp'; exact hp'.elim
    | some ρ' =>
      rw [eb] at hp'
      refine gs H0 z0 m0 z m ow M ρ ρ' σ H' x _ _ r' rx eb fun σ2 r2 => ⟨H0, z0, m0, z, m, ow, M, ρ', r2, ?_⟩
      refine SPost.bind hp' (fun v M => rfl) fun ρ2 M2 z2 m2 ow2 σ3 H3 w3 mv r3 hp3 => ⟨hlt, w3, z2, m2, ow2, M2, _, r3.wipe wp, src'.mono mv, ?_⟩
      rw [← hb]
      exact hp3
  · have hn : i = ds.length := by omega
    subst hn
    refine .inl ⟨src.stop rfl, ?_⟩
    rw [List.drop_length] at hp
    exact hp z m ow σ H w Mv.refl r
theorem r_wh {wp : List Nat} {b : Stms} (w : Wf X.K H) (h : tS X.K Wc (exec cf (.wh vs wp e b)) D σ H) : tWhile (tT X.K Wc (ev cf e)) (tS X.K Wc (execs cf b)) D σ H := by
  obtain ⟨H0, z0, m0, z, m, ow, M, ρ, r, hp⟩ := h
  simp only [exec] at hp
  generalize FUEL = fu at hp
  refine ⟨fun n σ H => Wf X.K H ∧ ∃ z m ow M ρ, SRel X.K H0 z0 m0 z m ow M ρ σ H ∧ SPost X.K Wc H0 z0 m0 z H D (wloop wp (fun ρ M => ev cf e (view ρ vs) M) (fun ρ M => execs cf b ρ M) n ρ M), ⟨fu, w, z, m, ow, M, _, r.wipe wp, hp⟩, ?_⟩
  rintro n σ H ⟨w, z, m, ow, M, ρ, r, hp⟩
  cases n with
  | zero => unfold wloop at hp; exact hp.elim
  | succ n =>
    unfold wloop at hp
    refine evT vs r (A := fun M => (execs cf b ρ M).bind fun f M => match f with
      | .next ρ' => wloop wp (fun ρ M => ev cf e (view ρ vs) M) (fun ρ M => execs cf b ρ M) n (wipeD ρ' wp) M
      | .ret v => .ok (.ret v) M) (B := fun M => .ok (.next ρ) M) hp fun bb M1 H1 w1 fz c hp1 => ?_
    have r1 := r.after fz c
    have hp2 := SPost.go hp1 (Mv.fz fz r.mz)
    cases bb with
    | true =>
      rw [if_pos rfl]
      rw [if_pos rfl] at hp2
      refine ⟨fun σ' H' => Wf X.K H' ∧ ∃ z m ow M ρ, SRel X.K H0 z0 m0 z m ow M ρ σ' H' ∧ SPost X.K Wc H0 z0 m0 z H' D (wloop wp (fun ρ M => ev cf e (view ρ vs) M) (fun ρ M => execs cf b ρ M) n ρ M), fun σ' H' q => ⟨n, by omega, q⟩, H0, z0, m0, z, m, ow, M1, ρ, r1, ?_⟩
      exact SPost.bind hp2 (fun v M => rfl) fun ρ2 M2 z2 m2 ow2 σ3 H3 w3 mv r3 hp3 => ⟨w3, z2, m2, ow2, M2, _, r3.wipe wp, hp3⟩
    | false =>
      rw [if_neg Bool.false_ne_true]
      rw [if_neg Bool.false_ne_true] at hp2
      exact hp2 z m ow σ H1 w1 Mv.refl r1
end
end Co
end

section
set_option Elab.async false
set_option linter.all false
set_option maxRecDepth 100000
set_option maxHeartbeats 1000000
/-! statements: several names at once; the text against the small language -/
namespace Co
open PySem L2
theorem asg_app {k : Kd} {i : Nat} {l : Vl} {ρ ρ' t : Rho} {M M' : Mem} (h : asg k i l ρ M = .ok ρ' M') (hi : i < ρ.length) : asg k i l (ρ ++ t) M = .ok (ρ' ++ t) M' ∧ ρ'.length = ρ.length := by
  have st : ∀ x : Vl, (ρ ++ t).set i x = ρ.set i x ++ t := fun x => List.set_append_left _ _ hi
  unfold asg at h ⊢
  split at h <;> first | cases h | skip
  all_goals first
    | (split at h
       · rename_i hn
         cases h
         rw [if_pos hn, st]
         exact ⟨rfl, List.length_set⟩
       · cases h)
    | (rw [st]; exact ⟨rfl, List.length_set⟩)
section
variable {K : PySem.W.Frag} {H0 H H' : Hp} {z0 z z' : Addr → Prop} {m0 m : List Addr} {ow : Nat → Addr} {M M' : Mem} {ρ ρ' : Rho} {σ : L2.St}
theorem asg_noexc {k : Kd} {i : Nat} {l : Vl} {c : Nat} : asg k i l ρ M ≠ .exc c M' := fun q => by
  unfold asg at q
  split at q <;> first | cases q | (split at q <;> cases q)
theorem SRel.asgStep {l l' : Vl} {v v' : V} {k : Kd} {j : Nat} (r : SRel K H0 z0 m0 z m ow M (ρ ++ [l'] ++ [slotOf l]) (σ ++ [some v'] ++ [some v]) H) (hj : j < ρ.length) (hl : plainV l = true ∨ isOwn (slotOf l) = true ∧ isOwn l = false) (e : Co.asg k j l ρ M = .ok ρ' M') :
    ∃ z' m' ow', (∀ a, z' a → z a) ∧ SRel K H0 z0 m0 z' m' ow' M' (ρ' ++ [l']) (σ.set j (some v) ++ [some v']) H ∧ ρ'.length = ρ.length := by
  obtain ⟨e1, e2⟩ := asg_app (t := [l']) e hj
  obtain ⟨z2, m2, ow2, hz, r2⟩ := r.asg hl e1
  have hs : ρ.length = σ.length := by have := r.len; simpa using this
  rw [List.set_append_left _ _ (by omega)] at r2
  exact ⟨z2, m2, ow2, hz, r2, e2⟩
end
/-- a tuple of written items, kept well -/
def tTupW (K : PySem.W.Frag) (t : TA) : TE := fun σ H Q => t σ H fun xs H1 => xs.length ≤ sizeLine ∧ ∀ p, H1 p = none → Wf K (upd H1 p (.tup xs)) → Q (.ref p) (upd H1 p (.tup xs))
theorem pe_tupW {X : Cx} {es : List Expr} {t : TA} {x1 : Nat} {pos : Pos} (h : PA X es t) : PE X (.Tuple es x1 pos) (tTupW X.K t) := PE.weak (pe_tup h) fun σ H Q w q => q
section
variable {X : Cx} {Wc : Nat → Hp → Prop} {cf : Nat → List Vl → Mem → Res Vl} {D : Ends} {σ : L2.St} {H : Hp} {vs : List Nat} {i j n : Nat} {e1 e2 e3 : Ex} {k1 k2 k3 : Kd}
theorem r_par2 (hij : i ≠ j) (h : tS X.K Wc (exec cf (.par vs [(k1, i), (k2, j)] (.cons e1 (.cons e2 .nil)))) D σ H) : tPar i j (tCons (tE X.K Wc (ev cf e1)) (tCons (tE X.K Wc (ev cf e2)) tNil)) D σ H := by
  obtain ⟨H0, z0, m0, z, m, ow, M, ρ, r, hp⟩ := h
  simp only [exec, evp] at hp
  rw [Res.assoc] at hp
  refine evS vs r hp fun l1 M1 v1 H1 w1 fz1 c1 up1 hp1 => ?_
  by_cases ho1 : okv vs l1 = true
  · rw [if_pos ho1] at hp1
    have q1 := up1 ho1
    obtain ⟨z1, ow1, mv1, r1⟩ := r.push fz1 c1 q1
    rw [Res.assoc, Res.assoc] at hp1
    refine evS vs r1.pop (hp1.go mv1) fun l2 M2 v2 H2 w2 fz2 c2 up2 hp2 => ?_
    by_cases ho2 : okv vs l2 = true
    · rw [if_pos ho2] at hp2
      have q2 := up2 ho2
      obtain ⟨z2, ow2, mv2, r2⟩ := r1.push fz2 c2 q2
      simp only [Res.bind] at hp2
      by_cases hb : ([(k1, i), (k2, j)].all fun t => decide (t.2 < ρ.length)) = true
      · rw [if_pos hb] at hp2
        simp only [List.all_cons, List.all_nil, Bool.and_true, Bool.and_eq_true, decide_eq_true_eq] at hb
        simp only [asgs, Res.bind] at hp2
        cases ea : asg k2 j l2 ρ M2 with
        | ok ρ1 M3 =>
          rw [ea] at hp2
          dsimp only at hp2
          obtain ⟨z3, m3, ow3, hz3, r3, hl3⟩ := r2.asgStep hb.2 (plain_nw q2) ea
          cases eb : asg k1 i l1 ρ1 M3 with
          | ok ρ2 M4 =>
            rw [eb] at hp2
            obtain ⟨z4, m4, ow4, hz4, r4⟩ := r3.asg (plain_nw q1) eb
            refine ⟨v1, v2, rfl, ?_⟩
            rw [List.set_comm _ _ hij]
            exact hp2 z4 m4 ow4 _ H2 w2 (mv2.trans (Mv.sub fun a h => hz3 a (hz4 a h))) r4
          | exc c M4 => exact absurd eb asg_noexc
          | bad => rw [eb] at hp2; exact hp2.elim
        | exc c M3 => exact absurd ea asg_noexc
        | bad => rw [ea] at hp2; exact hp2.elim
      · rw [if_neg hb] at hp2; exact hp2.elim
    · rw [if_neg ho2] at hp2; exact hp2.elim
  · rw [if_neg ho1] at hp1; exact hp1.elim
theorem r_parT (hij : i ≠ j) (h : tS X.K Wc (exec cf (.par vs [(k1, i), (k2, j)] (.cons e1 (.cons e2 .nil)))) D σ H) : tAsg (tTupW X.K (tCons (tE X.K Wc (ev cf e1)) (tCons (tE X.K Wc (ev cf e2)) tNil))) (gTup X.K 2 (gCons (gName i) (gCons (gName j) gNil))) D σ H := by
  obtain ⟨H0, z0, m0, z, m, ow, M, ρ, r, hp⟩ := h
  simp only [exec, evp] at hp
  rw [Res.assoc] at hp
  refine evS vs r hp fun l1 M1 v1 H1 w1 fz1 c1 up1 hp1 => ?_
  by_cases ho1 : okv vs l1 = true
  · rw [if_pos ho1] at hp1
    have q1 := up1 ho1
    obtain ⟨z1, ow1, mv1, r1⟩ := r.push fz1 c1 q1
    rw [Res.assoc, Res.assoc] at hp1
    refine evS vs r1.pop (hp1.go mv1) fun l2 M2 v2 H2 w2 fz2 c2 up2 hp2 => ?_
    by_cases ho2 : okv vs l2 = true
    · rw [if_pos ho2] at hp2
      have q2 := up2 ho2
      obtain ⟨z2, ow2, mv2, r2⟩ := r1.push fz2 c2 q2
      simp only [Res.bind] at hp2
      by_cases hb : ([(k1, i), (k2, j)].all fun t => decide (t.2 < ρ.length)) = true
      · rw [if_pos hb] at hp2
        simp only [List.all_cons, List.all_nil, Bool.and_true, Bool.and_eq_true, decide_eq_true_eq] at hb
        simp only [asgs, Res.bind] at hp2
        cases ea : asg k2 j l2 ρ M2 with
        | ok ρ1 M3 =>
          rw [ea] at hp2
          dsimp only at hp2
          obtain ⟨z3, m3, ow3, hz3, r3, hl3⟩ := r2.asgStep hb.2 (plain_nw q2) ea
          cases eb : asg k1 i l1 ρ1 M3 with
          | ok ρ2 M4 =>
            rw [eb] at hp2
            obtain ⟨z4, m4, ow4, hz4, r4⟩ := r3.asg (plain_nw q1) eb
            refine ⟨by rw [sizeLine_eq]; show 2 ≤ 16777216; decide, fun p hp' w3 => ⟨p, [v1, v2], rfl, .of upd_same, rfl, v1, [v2], rfl, v2, [], rfl, rfl, ?_⟩⟩
            rw [List.set_comm _ _ hij]
            exact hp2 z4 m4 ow4 _ _ w3 ((mv2.trans (Mv.sub fun a h => hz3 a (hz4 a h))).trans (Mv.same (same_new hp'))) (r4.after (Fz.new hp') (r4.cells.same (same_new hp') r4.mz))
          | exc c M4 => exact absurd eb asg_noexc
          | bad => rw [eb] at hp2; exact hp2.elim
        | exc c M3 => exact absurd ea asg_noexc
        | bad => rw [ea] at hp2; exact hp2.elim
      · rw [if_neg hb] at hp2; exact hp2.elim
    · rw [if_neg ho2] at hp2; exact hp2.elim
  · rw [if_neg ho1] at hp1; exact hp1.elim
theorem r_par3 (hij : i ≠ j) (hin : i ≠ n) (hjn : j ≠ n) (h : tS X.K Wc (exec cf (.par vs [(k1, i), (k2, j), (k3, n)] (.cons e1 (.cons e2 (.cons e3 .nil))))) D σ H) :
    tPar3 i j n (tCons (tE X.K Wc (ev cf e1)) (tCons (tE X.K Wc (ev cf e2)) (tCons (tE X.K Wc (ev cf e3)) tNil))) D σ H := by
  obtain ⟨H0, z0, m0, z, m, ow, M, ρ, r, hp⟩ := h
  simp only [exec, evp] at hp
  rw [Res.assoc] at hp
  refine evS vs r hp fun l1 M1 v1 H1 w1 fz1 c1 up1 hp1 => ?_
  by_cases ho1 : okv vs l1 = true
  · rw [if_pos ho1] at hp1
    have q1 := up1 ho1
    obtain ⟨z1, ow1, mv1, r1⟩ := r.push fz1 c1 q1
    rw [Res.assoc, Res.assoc] at hp1
    refine evS vs r1.pop (hp1.go mv1) fun l2 M2 v2 H2 w2 fz2 c2 up2 hp2 => ?_
    by_cases ho2 : okv vs l2 = true
    · rw [if_pos ho2] at hp2
      have q2 := up2 ho2
      obtain ⟨z2, ow2, mv2, r2⟩ := r1.push fz2 c2 q2
      rw [Res.assoc, Res.assoc] at hp2
      refine evS vs r2.pop.pop (hp2.go mv2) fun l3 M2' v3 H3 w3 fz3 c3 up3 hp3 => ?_
      by_cases ho3 : okv vs l3 = true
      · rw [if_pos ho3] at hp3
        have q3 := up3 ho3
        obtain ⟨zz, oww, mv3, rr⟩ := r2.push fz3 c3 q3
        simp only [Res.bind] at hp3
        by_cases hb : ([(k1, i), (k2, j), (k3, n)].all fun t => decide (t.2 < ρ.length)) = true
        · rw [if_pos hb] at hp3
          simp only [List.all_cons, List.all_nil, Bool.and_true, Bool.and_eq_true, decide_eq_true_eq] at hb
          simp only [asgs, Res.bind] at hp3
          cases ec : asg k3 n l3 ρ M2' with
          | ok ρ0 M3 =>
            rw [ec] at hp3
            dsimp only at hp3
            obtain ⟨ec1, ec2⟩ := asg_app (t := [slotOf l1]) ec hb.2.2
            obtain ⟨z3, m3, ow3, hz3, r3, hl3⟩ := rr.asgStep (by rw [List.length_append]; omega) (plain_nw q3) ec1
            have hs : ρ.length = σ.length := by have := r.len; simpa using this
            rw [List.set_append_left _ _ (by omega)] at r3
            cases ea : asg k2 j l2 ρ0 M3 with
            | ok ρ1 M4 =>
              rw [ea] at hp3
              dsimp only at hp3
              obtain ⟨z4, m4, ow4, hz4, r4, hl4⟩ := r3.asgStep (by omega) (plain_nw q2) ea
              cases eb : asg k1 i l1 ρ1 M4 with
              | ok ρ2 M5 =>
                rw [eb] at hp3
                obtain ⟨z5, m5, ow5, hz5, r5⟩ := r4.asg (plain_nw q1) eb
                refine ⟨v1, v2, v3, rfl, ?_⟩
                have : (((σ.set n (some v3)).set j (some v2)).set i (some v1)) = ((σ.set i (some v1)).set j (some v2)).set n (some v3) := by
                  rw [List.set_comm _ _ (Ne.symm hjn), List.set_comm _ _ (Ne.symm hin), List.set_comm _ _ (Ne.symm hij)]
                rw [← this]
                exact hp3 z5 m5 ow5 _ H3 w3 (mv3.trans (Mv.sub fun a h => hz3 a (hz4 a (hz5 a h)))) r5
              | exc c M5 => exact absurd eb asg_noexc
              | bad => rw [eb] at hp3; exact hp3.elim
            | exc c M4 => exact absurd ea asg_noexc
            | bad => rw [ea] at hp3; exact hp3.elim
          | exc c M3 => exact absurd ec asg_noexc
          | bad => rw [ec] at hp3; exact hp3.elim
        · rw [if_neg hb] at hp3; exact hp3.elim
      · rw [if_neg ho3] at hp3; exact hp3.elim
    · rw [if_neg ho2] at hp2; exact hp2.elim
  · rw [if_neg ho1] at hp1; exact hp1.elim
end
end Co
end

section
set_option Elab.async false
set_option linter.all false
set_option maxRecDepth 100000
set_option maxHeartbeats 1000000
/-! statements: the text against the small language -/
namespace Co
open PySem L2
theorem noStar : ∀ {vs : List Expr}, (∀ e ∈ vs, plain e = true) → (vs.any fun | .Starred .. => true | _ => false) = false
  | [], _ => rfl
  | e :: vs, h => by
    have he := h e List.mem_cons_self
    have ht := noStar fun x hx => h x (List.mem_cons_of_mem _ hx)
    rw [List.any_cons, ht]
    cases e <;> first | rfl | (cases he; done)
theorem sw2 {env : Env} {x y : Str} {px py pt pt2 : Pos} {kt k2} {a b : Expr} (hk : env.scope.kind = .function) (hx : env.scope.names.lookup x = some .local) (hy : env.scope.names.lookup y = some .local) (hl : (py.line == px.line) = true) (hxy : ([x, y].eraseDups.length != 2) = false)
    (hp : ∀ e ∈ [a, b], plain e = true) (h1 : [a, b].all (foldedForSure 8) = false) (h2 : [a, b].all (constantsAlone 8) = false) : swappedStores [.Tuple [.Name x px, .Name y py] kt pt] (.Tuple [a, b] k2 pt2) env = pure (some [x, y]) := by
  have hb : env.blockKind = .function := by unfold Env.blockKind; rw [hk]; rfl
  have kx : env.kindOf x = some .local := hx
  have ky : env.kindOf y = some .local := hy
  have hs := noStar hp
  unfold swappedStores
  simp only [hb, hs, List.length_cons, List.length_nil, List.head?_cons, Option.map_some, Option.getD_some, List.filterMap_cons, List.filterMap_nil, kx, ky, hl, Expr.pos, h1, h2, hxy]
  simp [hxy, hl]
  intro hh
  simp only [List.any_cons, List.any_nil, Bool.or_false, Bool.or_eq_false_iff] at hs
  rcases hh with q | q
  · exact Bool.noConfusion (hs.1.symm.trans q)
  · exact Bool.noConfusion (hs.2.symm.trans q)
theorem sw3 {env : Env} {x y u : Str} {px py pu pt pt2 : Pos} {kt k2} {a b c : Expr} (hk : env.scope.kind = .function) (hx : env.scope.names.lookup x = some .local) (hy : env.scope.names.lookup y = some .local) (hu : env.scope.names.lookup u = some .local) (hl : (py.line == px.line) = true) (hl2 : (pu.line == px.line) = true) (hxy : ([x, y, u].eraseDups.length != 3) = false)
    (hp : ∀ e ∈ [a, b, c], plain e = true) (h1 : [a, b, c].all (foldedForSure 8) = false) (h2 : [a, b, c].all (constantsAlone 8) = false) : swappedStores [.Tuple [.Name x px, .Name y py, .Name u pu] kt pt] (.Tuple [a, b, c] k2 pt2) env = pure (some [x, y, u]) := by
  have hb : env.blockKind = .function := by unfold Env.blockKind; rw [hk]; rfl
  have kx : env.kindOf x = some .local := hx
  have ky : env.kindOf y = some .local := hy
  have ku : env.kindOf u = some .local := hu
  have hs := noStar hp
  unfold swappedStores
  simp only [hb, hs, List.length_cons, List.length_nil, List.head?_cons, Option.map_some, Option.getD_some, List.filterMap_cons, List.filterMap_nil, kx, ky, ku, hl, hl2, Expr.pos, h1, h2, hxy]
  simp [hxy, hl, hl2]
  intro hh
  simp only [List.any_cons, List.any_nil, Bool.or_false, Bool.or_eq_false_iff] at hs
  rcases hh with q | q | q
  · exact Bool.noConfusion (hs.1.symm.trans q)
  · exact Bool.noConfusion (hs.2.1.symm.trans q)
  · exact Bool.noConfusion (hs.2.2.symm.trans q)
/-- all constants: no exchange -/
theorem swF {env : Env} {ts vs : List Expr} {pt pt2 : Pos} {kt k2} (h : vs.all (foldedForSure 8) = true) : swappedStores [.Tuple ts kt pt] (.Tuple vs k2 pt2) env = pure none := by
  unfold swappedStores
  simp only [h]
  split
  · rfl
  · split
    · rfl
    · split <;> rfl
/-- more or fewer than two or three -/
theorem swL {env : Env} {ts vs : List Expr} {pt pt2 : Pos} {kt k2} (h : (ts.length == 2 || ts.length == 3) = false) : swappedStores [.Tuple ts kt pt] (.Tuple vs k2 pt2) env = pure none := by
  unfold swappedStores
  simp only [h]
  rfl
/-- a name that is captured -/
theorem swC {env : Env} {x y : Str} {px py pt pt2 : Pos} {kt k2} {vs : List Expr} (h : env.scope.names.lookup x = some .cell ∨ env.scope.names.lookup y = some .cell) : swappedStores [.Tuple [.Name x px, .Name y py] kt pt] (.Tuple vs k2 pt2) env = pure none := by
  unfold swappedStores
  have hn : (([Expr.Name x px, Expr.Name y py].filterMap fun
      | .Name id pos => if (env.kindOf id == some .local && pos.line == ((List.head? [Expr.Name x px, Expr.Name y py]).map (·.pos.line)).getD 0) = true then some id else none
      | _ => none).length != 2) = true := by
    rcases h with h | h
    · have k : env.kindOf x = some .cell := h
      simp only [List.filterMap_cons, k]
      by_cases hc : (env.kindOf y = some NameKind.local ∧ py.line = (Expr.Name x px).pos.line) <;> simp [hc]
    · have k : env.kindOf y = some .cell := h
      simp only [List.filterMap_cons, k]
      by_cases hc : (env.kindOf x = some NameKind.local ∧ px.line = (Expr.Name x px).pos.line) <;> simp [hc]
  dsimp only
  simp only [List.length_cons, List.length_nil]
  split
  · rfl
  · split
    · rfl
    · refine if_pos ?_
      rw [Bool.or_eq_true]
      exact .inl hn
def noComp : Expr → Bool
  | .ListComp .. => false
  | .SetComp .. => false
  | .DictComp .. => false
  | _ => true
theorem sw_no {e : Expr} {t : Option Expr} {l : Nat} {env : Env} (h : noComp e = true) : swapsWith e t l env = pure false := by
  cases e <;> first | rfl | (cases h; done)
theorem sw_cell {e : Expr} {x : Str} {p : Pos} {l : Nat} {env : Env} (h : env.scope.names.lookup x = some .cell) : swapsWith e (some (.Name x p)) l env = pure false := by
  have k : env.kindOf x = some .cell := h
  have hl : ((some NameKind.cell : Option NameKind) == some NameKind.local) = false := rfl
  cases e <;> first | rfl | (unfold swapsWith; simp only [k, hl, Bool.and_false, Bool.false_and])
section
variable {X : Cx} {Wc : Nat → Hp → Prop} {fa fb : Rho → Mem → Res Vl} {a b : Expr} {pos : Pos}
theorem i_rng1r {tg : Expr} {p : Pos} (hg : Gl X "range") (hm : X.mg "range" = none) (hpl : plain a = true) (ha : PE X a (tE X.K Wc fa)) : PI X tg (.Call (.Name "range" p) [a] [] pos) (tIr X.K Wc (fun ρ M => (fa ρ M).bind fun v M => match v with
    | .dat (.int j) => .lift (rng 0 j) M
    | _ => .bad)) := by
  refine PI.weak (pi_range1 hg hm (pa_cons ha pa_nil (plain_star hpl _)) (plain_star hpl _)) fun σ H R w ⟨H0, z, m, M, ρ, hr, hp⟩ => ?_
  dsimp only at hp
  refine stepE hr hp fun l M1 v1 H1 e w1 hr1 f1 rx hp1 => ?_
  split at hp1
  · rename_i j
    obtain ⟨ds, e1, hp2⟩ := PostG.lift' hp1
    obtain ⟨h1, rfl, h2, h3, h4, h5⟩ := rng_len e1
    refine ⟨j, by rw [Rep.int_inv rx], h4, h5, fun w' => ?_⟩
    have hq := hp2.fin w1 hr1
    rw [show j - 0 = j by omega] at hq h1
    exact hq h1 _ fun z H => .rng 0 _
  · exact hp1.elim
theorem i_rng2r {tg : Expr} {p : Pos} (hg : Gl X "range") (hm : X.mg "range" = none) (hpl : plain a = true) (hpb : plain b = true) (ha : PE X a (tE X.K Wc fa)) (hb : PE X b (tE X.K Wc fb)) : PI X tg (.Call (.Name "range" p) [a, b] [] pos) (tIr X.K Wc (fun ρ M => (fa ρ M).bind fun v M => (fb ρ M).bind fun u M => match v, u with
    | .dat (.int i), .dat (.int j) => .lift (rng i j) M
    | _, _ => .bad)) := by
  refine PI.weak (pi_range2 hg hm (pa_cons ha (pa_cons hb pa_nil (plain_star hpb _)) (plain_star hpl _)) (by rw [plain_star hpl, plain_star hpb]; rfl) (plain_star hpb _)) fun σ H R w ⟨H0, z, m, M, ρ, hr, hp⟩ => ?_
  dsimp only at hp
  refine stepE hr hp fun l M1 v1 H1 e w1 hr1 f1 rx hp1 => stepE hr1 hp1 fun l2 M2 v2 H2 e2 w2 hr2 f2 ry hp2 => ?_
  split at hp2
  · rename_i i j
    obtain ⟨ds, e1, hp3⟩ := PostG.lift' hp2
    obtain ⟨h1, rfl, h2, h3, h4, h5⟩ := rng_len e1
    refine ⟨i, j, by rw [Rep.int_inv rx, Rep.int_inv ry], ⟨h2, h3, h4, h5⟩, fun w' => ?_⟩
    exact (hp3.fin w2 hr2) h1 _ fun z H => .rng i _
  · exact hp2.elim
end
end Co
end

section
set_option Elab.async false
set_option linter.all false
set_option maxRecDepth 100000
set_option maxHeartbeats 1000000
/-! every statement -/
namespace Co
open PySem L2
def isLc (sc : Scope) (x : Str) : Bool := match sc.names.lookup x with
  | some .local => true
  | _ => false
def isCl (sc : Scope) (x : Str) : Bool := match sc.names.lookup x with
  | some .cell => true
  | _ => false
def isRng : Co.It → Bool
  | .rng1 _ => true
  | .rng2 _ _ => true
  | _ => false
def isSeq : Co.It → Bool
  | .seq _ => true
  | _ => false
def isComp : Ex → Bool
  | .comp _ _ _ _ _ => true
  | .comp2 _ _ _ _ _ _ _ _ => true
  | _ => false
def isFrz : Stm → Bool
  | .frz _ => true
  | _ => false
def unpOk (sc : Scope) (ts : List Expr) (e : Expr) : Bool := match e with
  | .Tuple vs _ _ => vs.all (foldedForSure 8) || !(ts.length == 2 || ts.length == 3) || (match ts with
    | [.Name x _, .Name y _] => isCl sc x || isCl sc y
    | _ => false)
  | _ => true
section
variable (N : List Str) (gv : List (Str × GV)) (sc : Scope)
mutual
def chkS : Stm → Stmt → Bool
  | .set vs k i e, st => match st with
    | .Assign [.Name x px] e' _ => isLoc sc x && decide (N[i]? = some x) && chkE N gv e sc e' && (noComp e' || isCl sc x || (isLc sc x && isComp e && (match e' with
      | .ListComp _ _ scope pos => (px.line == pos.line) && !(scope.names.any fun (n, k) => n == x && (k == .local || k == .cell))
      | _ => false)))
    | _ => false
  | .par vs ts es, st => match ts, es, st with
    | [(_, i), (_, j)], .cons e1 (.cons e2 .nil), .Assign [.Tuple [.Name x px, .Name y py] kt pt] (.Tuple [a, b] k2 pt2) _ => (isLc sc x && isLc sc y && decide (i ≠ j) && decide (N[i]? = some x) && decide (N[j]? = some y) && (py.line == px.line) && !([x, y].eraseDups.length != 2) && plain a && plain b &&
        !([a, b].all (foldedForSure 8)) && !([a, b].all (constantsAlone 8)) && chkE N gv e1 sc a && chkE N gv e2 sc b) ||
        (isLoc sc x && isLoc sc y && decide (i ≠ j) && decide (N[i]? = some x) && decide (N[j]? = some y) && plain a && plain b && noComp (.Tuple [a, b] k2 pt2) && ([a, b].all (foldedForSure 8) || (isCl sc x || isCl sc y)) && chkE N gv e1 sc a && chkE N gv e2 sc b)
    | [(_, i), (_, j), (_, n)], .cons e1 (.cons e2 (.cons e3 .nil)), .Assign [.Tuple [.Name x px, .Name y py, .Name u pu] _ _] (.Tuple [a, b, c] _ _) _ => isLc sc x && isLc sc y && isLc sc u && decide (i ≠ j) && decide (i ≠ n) && decide (j ≠ n) && decide (N[i]? = some x) && decide (N[j]? = some y) && decide (N[n]? = some u) && (py.line == px.line) && (pu.line == px.line) && !([x, y, u].eraseDups.length != 3) && plain a && plain b && plain c &&
        !([a, b, c].all (foldedForSure 8)) && !([a, b, c].all (constantsAlone 8)) && chkE N gv e1 sc a && chkE N gv e2 sc b && chkE N gv e3 sc c
    | _, _, _ => false
  | .unp vs tg e, st => match st with
    | .Assign [.Tuple ts kt pt] e' _ => chkG N tg sc (.Tuple ts kt pt) && noComp e' && chkE N gv e sc e' && unpOk sc ts e'
    | _ => false
  | .app vs i e, st => match st with
    | .Expr (.Call (.Attribute (.Name x _) at_ apos) [e'] [] cpos) _ => decide (at_ = ("append" : Str)) && isVis sc x && nOk x && decide (N[i]? = some x) && plain e' && (apos.endLine == cpos.line) && chkE N gv e sc e'
    | _ => false
  | .lput vs i k e, st => match st with
    | .Assign [.Subscript (.Name x _) k' _] e' _ => isVis sc x && nOk x && decide (N[i]? = some x) && plain k' && noComp e' && chkE N gv k sc k' && chkE N gv e sc e'
    | _ => false
  | .cput vs i k e, st => match st with
    | .Assign [.Subscript (.Name x _) k' _] e' _ => isVis sc x && nOk x && decide (N[i]? = some x) && plain k' && noComp e' && chkE N gv k sc k' && chkE N gv e sc e'
    | _ => false
  | .dput vs i k e, st => match st with
    | .Assign [.Subscript (.Name x _) k' _] e' _ => isVis sc x && nOk x && decide (N[i]? = some x) && plain k' && noComp e' && chkE N gv k sc k' && chkE N gv e sc e'
    | _ => false
  | .dpop vs i k, st => match st with
    | .Expr (.Call (.Attribute (.Name x p) at_ apos) [k'] [] cpos) _ => decide (at_ = ("pop" : Str)) && isVis sc x && nOk x && decide (N[i]? = some x) && plain k' && (apos.endLine == cpos.line) && chkE N gv k sc k'
    | _ => false
  | .iff vs c a b, st => match st with
    | .If c' a' b' _ => chkT N gv c sc c' && chkSs a a' && chkSs b b'
    | _ => false
  | .fr vs wp tg it body, st => match st with
    | .For t iter b [] _ => chkG N tg sc t && plain iter && chkI N gv it sc t iter && (vs.isEmpty || isRng it || isSeq it) && chkSs body b
    | _ => false
  | .wh vs wp c body, st => match st with
    | .While c' b [] _ => chkT N gv c sc c' && chkSs body b
    | _ => false
  | .ret e, st => match st with
    | .Return (some e') _ => chkE N gv e sc e'
    | _ => false
  | .retN, st => match st with
    | .Return none _ => true
    | _ => false
  | .ex vs e, st => match st with
    | .Expr e' _ => noComp e' && chkE N gv e sc e'
    | _ => false
  | .exa vs a e, st => match st with
    | .Expr (.Call (.Attribute (.Call f (x0 :: xs) [] fpos) at_ apos) [e'] [] cpos) _ => decide (at_ = ("append" : Str)) && plain e' && (apos.endLine == cpos.line) && chkE N gv a sc (.Call f (x0 :: xs) [] fpos) && chkE N gv e sc e'
    | _ => false
  | .frz _, _ => false
  | .pass, st => match st with
    | .Pass _ => true
    | .Expr (.Constant (.str _) _ _) _ => true
    | _ => false
  | .never, _ => true
def chkSs : Stms → List Stmt → Bool
  | .nil, l => l.isEmpty
  | .cons s ss, l => if isFrz s then chkSs ss l else match l with
    | st :: l => chkS s st && chkSs ss l
    | [] => false
end
end
theorem isLc_ok {sc : Scope} {x : Str} (h : isLc sc x = true) : sc.names.lookup x = some .local := by
  unfold isLc at h
  split at h
  · assumption
  · cases h
theorem isCl_ok {sc : Scope} {x : Str} (h : isCl sc x = true) : sc.names.lookup x = some .cell := by
  unfold isCl at h
  split at h
  · assumption
  · cases h
mutual
theorem sG1 {N : List Str} {sc : Scope} {X : Cx} (nm : Nm N sc X) : ∀ (t : Tg) (e : Expr), chkG N t sc e = true → ∃ g, PG X e g ∧ GS X.K t g
  | .nm i, e, h => by
    unfold chkG at h
    split at h
    · rename_i x p
      simp only [Bool.and_eq_true, decide_eq_true_eq] at h
      obtain ⟨h1, h2⟩ := h
      refine ⟨gName i, ?_, gs1_nm i⟩
      have h2 : X.N[i]? = some x := by rw [nm.n]; exact h2
      rcases isLoc_ok h1 with k | k
      · rcases nm.nm _ _ k with q | q
        · exact pg_name nm.nd h2 (.inl q) (.inr q)
        · cases q.1
      · rcases nm.nm _ _ k with q | q
        · exact pg_name nm.nd h2 (.inr q) (.inl (nm.fnc _ k))
        · cases q.1
    · cases h
  | .tp ts, e, h => by
    unfold chkG at h
    split at h
    · rename_i es k p
      obtain ⟨gs, h1, h2, h3⟩ := sG1s nm ts es h
      refine ⟨gTup X.K es.length gs, pg_tup nm.calm h1 (n := es.length) ?_ ?_, gs1_tp h2 fun ds ρ ρ' e => tgs_len ts ds ρ ρ' N sc es e h⟩
      · rw [plain_assign h3, List.length_map]
      · rw [plain_assign h3, List.findIdx?_map]
        simp [List.findIdx?_eq_none_iff]
    · cases h
theorem sG1s {N : List Str} {sc : Scope} {X : Cx} (nm : Nm N sc X) : ∀ (ts : Tgs) (es : List Expr), chkGs N ts sc es = true → ∃ g, PGs X es g ∧ GSs X.K ts g ∧ ∀ e ∈ es, plain e = true
  | .nil, es, h => by
    unfold chkGs at h
    split at h
    · exact ⟨gNil, pgs_nil, gss_nil, fun _ h => nomatch h⟩
    · cases h
  | .cons t ts, es, h => by
    unfold chkGs at h
    split at h
    · rename_i e es
      simp only [Bool.and_eq_true] at h
      obtain ⟨⟨h0, h1⟩, h2⟩ := h
      obtain ⟨g, a1, a2⟩ := sG1 nm t e h1
      obtain ⟨gs, b1, b2, b3⟩ := sG1s nm ts es h2
      have hp : ∀ x ∈ e :: es, plain x = true := fun x hx => (List.mem_cons.mp hx).elim (fun q => by rw [q]; exact h0) (b3 x)
      exact ⟨gCons g gs, pgs_cons a1 b1 (by rw [plain_assign hp, plain_assign b3]; rfl), gss_cons a2 b2, hp⟩
    · cases h
end
theorem pg_nm {N : List Str} {sc : Scope} {X : Cx} (nm : Nm N sc X) {i : Nat} {x : Str} {p : Pos} (h1 : isLoc sc x = true) (h2 : N[i]? = some x) : PG X (.Name x p) (gName i) := by
  have h2 : X.N[i]? = some x := by rw [nm.n]; exact h2
  rcases isLoc_ok h1 with k | k
  · rcases nm.nm _ _ k with q | q
    · exact pg_name nm.nd h2 (.inl q) (.inr q)
    · cases q.1
  · rcases nm.nm _ _ k with q | q
    · exact pg_name nm.nd h2 (.inr q) (.inl (nm.fnc _ k))
    · cases q.1
/-- what stands around a statement -/
structure Gs (N : List Str) (gv : List (Str × GV)) (cf : Nat → List Vl → Mem → Res Vl) (cls : Nat → Addr) (k : Nat) (Wc : Nat → Hp → Prop) (sc : Scope) (X : Cx) : Prop extends Gd N gv cf cls k Wc sc X where
  fk : X.env.scope.kind = .function
  es : X.env.scope = sc
  po : PassesOwn (model X.prog X.w) X.A X.env X.xe
section
variable {N : List Str} {gv : List (Str × GV)} {cf : Nat → List Vl → Mem → Res Vl} {cls : Nat → Addr} {k : Nat} {Wc : Nat → Hp → Prop} {sc : Scope} {X : Cx}
/-- the pieces of a comprehension -/
theorem comp_parts (G : Gd N gv cf cls k Wc sc X) {own : List Nat} {tg : Tg} {it : Co.It} {c d : Ex} {elt : Expr} {gens : List Comprehension} {scope : Scope} {pos : Pos} (h : chkE N gv (.comp own tg it c d) sc (.ListComp elt gens scope pos) = true) :
    ∃ t iter ifs g, gens = [⟨t, iter, ifs, 0⟩] ∧ PI X t iter (tI X.K Wc (evI cf it)) ∧ BlkOk X.N X.env.scope scope (ownsOf N own) ∧ (∀ (s : Shared) (H : Hp) (C : Addr) (cl : List (Str × Addr)) (fp : List Addr), PG (X.blk s H scope (compEnvC scope cl C X.env) fp) t g) ∧ GOk X.K tg g ∧ (∀ i ∈ slots tg, i ∈ (ownsOf N own).map (·.2)) ∧
      (∀ (s : Shared) (H : Hp) (C : Addr) (cl : List (Str × Addr)) (fp : List Addr), PTs (X.blk s H scope (compEnvC scope cl C X.env) fp) ifs (tT X.K WF (ev cf c))) ∧ (∀ (s : Shared) (H : Hp) (C : Addr) (cl : List (Str × Addr)) (fp : List Addr), PE (X.blk s H scope (compEnvC scope cl C X.env) fp) elt (tE X.K WF (ev cf d))) ∧ (∀ x, foldedSetIterable iter X.env x = pure x) := by
  unfold chkE at h
  split at h
  · rename_i heq
    cases heq
    simp only [Bool.and_eq_true, List.all_eq_true, decide_eq_true_eq] at h
    obtain ⟨⟨⟨⟨⟨⟨h1, h2⟩, h3⟩, h4⟩, h5⟩, h6⟩, h7⟩ := h
    have hb := blkOk_by h2
    have nG : ∀ (s : Shared) (H : Hp) (C : Addr) (cl : List (Str × Addr)) (fp : List Addr), Gd N gv cf cls k WF scope (X.blk s H scope (compEnvC scope cl C X.env) fp) := fun s H C cl fp => G.blk scope s H C cl fp
    obtain ⟨g, hg, gok⟩ := sGb (N := N) (scope := scope) (fun s H C cl fp => (nG s H C cl fp).nm) tg _ h4
    refine ⟨_, _, _, g, rfl, sI it sc X Wc _ _ G h5, by rw [G.nm.n]; exact blk_relS G.nm hb, hg, gok, by rw [ownsOf_snd]; exact h3, fun s H C cl fp => ?_, fun s H C cl fp => sE d scope _ WF _ (nG s H C cl fp) h7, foldedS h1 _⟩
    split at h6
    · split at h6
      · exact ifs_tr
      · cases h6
    · exact pts_one (sT c scope _ WF _ (nG s H C cl fp) h6)
    · cases h6
  · cases h
theorem comp2_parts (G : Gd N gv cf cls k Wc sc X) {own own1 : List Nat} {tg tg1 : Tg} {it it1 : Co.It} {c d : Ex} {elt : Expr} {gens : List Comprehension} {scope : Scope} {pos : Pos} (h : chkE N gv (.comp2 own own1 tg it tg1 it1 c d) sc (.ListComp elt gens scope pos) = true) :
    ∃ t iter t1 iter1 ifs1 g g1, gens = [⟨t, iter, [], 0⟩, ⟨t1, iter1, ifs1, 0⟩] ∧ PI X t iter (tI X.K Wc (evI cf it)) ∧ BlkOk X.N X.env.scope scope (ownsOf N own) ∧ (∀ (s : Shared) (H : Hp) (C : Addr) (cl : List (Str × Addr)) (fp : List Addr), PG (X.blk s H scope (compEnvC scope cl C X.env) fp) t g) ∧ GOk X.K tg g ∧ (∀ i ∈ slots tg, i ∈ (ownsOf N own).map (·.2)) ∧
      (∀ (s : Shared) (H : Hp) (C : Addr) (cl : List (Str × Addr)) (fp : List Addr), PG (X.blk s H scope (compEnvC scope cl C X.env) fp) t1 g1) ∧ GOk X.K tg1 g1 ∧ (∀ i ∈ slots tg1, i ∈ own1) ∧ (∀ i ∈ own1, i ∈ (ownsOf N own).map (·.2)) ∧ (∀ (s : Shared) (H : Hp) (C : Addr) (cl : List (Str × Addr)) (fp : List Addr), PI (X.blk s H scope (compEnvC scope cl C X.env) fp) t1 iter1 (tI X.K WF (evI cf it1))) ∧
      (∀ (s : Shared) (H : Hp) (C : Addr) (cl : List (Str × Addr)) (fp : List Addr), PTs (X.blk s H scope (compEnvC scope cl C X.env) fp) ifs1 (tT X.K WF (ev cf c))) ∧ (∀ (s : Shared) (H : Hp) (C : Addr) (cl : List (Str × Addr)) (fp : List Addr), PE (X.blk s H scope (compEnvC scope cl C X.env) fp) elt (tE X.K WF (ev cf d))) ∧ (∀ x, foldedSetIterable iter X.env x = pure x) ∧ ∀ env x, foldedSetIterable iter1 env x = pure x := by
  unfold chkE at h
  split at h
  · rename_i heq
    cases heq
    simp only [Bool.and_eq_true, List.all_eq_true, decide_eq_true_eq, List.isEmpty_iff] at h
    obtain ⟨⟨⟨⟨⟨⟨⟨⟨⟨⟨⟨⟨h1, h1b⟩, h2⟩, h3⟩, h3b⟩, h3c⟩, h4⟩, h5⟩, h5b⟩, h4b⟩, h5c⟩, h6⟩, h7⟩ := h
    subst h5b
    have hb := blkOk_by h2
    have nG : ∀ (s : Shared) (H : Hp) (C : Addr) (cl : List (Str × Addr)) (fp : List Addr), Gd N gv cf cls k WF scope (X.blk s H scope (compEnvC scope cl C X.env) fp) := fun s H C cl fp => G.blk scope s H C cl fp
    obtain ⟨g, hg, gok⟩ := sGb (N := N) (scope := scope) (fun s H C cl fp => (nG s H C cl fp).nm) tg _ h4
    obtain ⟨g1, hg1, gok1⟩ := sGb (N := N) (scope := scope) (fun s H C cl fp => (nG s H C cl fp).nm) tg1 _ h4b
    refine ⟨_, _, _, _, _, g, g1, rfl, sI it sc X Wc _ _ G h5, by rw [G.nm.n]; exact blk_relS G.nm hb, hg, gok, by rw [ownsOf_snd]; exact h3b, hg1, gok1, h3c, by rw [ownsOf_snd]; exact h3, fun s H C cl fp => sI it1 scope _ WF _ _ (nG s H C cl fp) h5c, fun s H C cl fp => ?_, fun s H C cl fp => sE d scope _ WF _ (nG s H C cl fp) h7, foldedS h1 _, fun env => foldedS h1b env⟩
    split at h6
    · split at h6
      · exact ifs_tr
      · cases h6
    · exact pts_one (sT c scope _ WF _ (nG s H C cl fp) h6)
    · cases h6
  · cases h
theorem s_set (G : Gs N gv cf cls k Wc sc X) {vs : List Nat} {kd : Kd} {i : Nat} {e : Ex} {st : Stmt} (h : chkS N gv sc (.set vs kd i e) st = true) : PS X st (tS X.K Wc (exec cf (.set vs kd i e))) := by
  have nm := G.nm
  unfold chkS at h
  split at h
  · rename_i x px e' pos
    simp only [Bool.and_eq_true, Bool.or_eq_true, decide_eq_true_eq] at h
    obtain ⟨⟨⟨h1, h2⟩, h3⟩, h4⟩ := h
    have hN : X.N[i]? = some x := by rw [nm.n]; exact h2
    have lx : (X.env.scope.names.lookup x = some .local) ∨ (X.env.scope.names.lookup x = some .cell ∧ X.fn x = true) := by
      rcases isLoc_ok h1 with q | q
      · exact .inl (by rw [G.es]; exact q)
      · exact .inr ⟨by rw [G.es]; exact q, nm.fnc _ q⟩
    have std : swapsWith e' (some (.Name x px)) pos.line X.env = pure false → PS X (.Assign [.Name x px] e' pos) (tS X.K Wc (exec cf (.set vs kd i e))) := fun hs => by
      have he := sE e sc X Wc e' G.toGd h3
      have rd : Rd X Wc (tE X.K Wc (ev cf e)) (ev cf e) := fun σ H Q w q => by
        obtain ⟨H0, z, m, M, ρ, r, p⟩ := q
        refine ⟨H0, z, m, M, ρ, r, ?_⟩
        cases ee : ev cf e ρ M with
        | ok l M1 => rw [ee] at p; exact fun v H1 w1 f c q _ => p v H1 w1 f c q
        | exc c M1 => rw [ee] at p; exact p
        | bad => rw [ee] at p; exact p
      rcases lx with q | ⟨q, qf⟩
      · exact PS.weak (ps_set nm.nd hN (.inl q) he hs (.inr q)) fun D σ H w t => r_set w rd (by simpa only [exec] using t)
      · exact PS.weak (ps_set nm.nd hN (.inr q) he hs (.inl qf)) fun D σ H w t => r_set w rd (by simpa only [exec] using t)
    rcases h4 with (h4 | h4) | h4
    · exact std (sw_no h4)
    · exact std (sw_cell (by rw [G.es]; exact isCl_ok h4))
    · obtain ⟨⟨h5, h6⟩, h7⟩ := h4
      split at h7
      · rename_i elt gens scope lpos
        simp only [Bool.and_eq_true, Bool.not_eq_true'] at h7
        have q : X.env.scope.names.lookup x = some .local := by rw [G.es]; exact isLc_ok h5
        cases e with
        | comp own tg it c d =>
          obtain ⟨t, iter, ifs, g, rfl, a1, a2, a3, a4, a5, a6, a7, a8⟩ := comp_parts G.toGd h3
          have hsw := sw_true (elt := elt) (gs := [⟨t, iter, ifs, 0⟩]) (scope := scope) (pos := lpos) (py := px) (y := x) (l := pos.line) (env := X.env) G.fk q h7.1 h7.2
          refine PS.weak (ps_setLc nm.calm nm.nd hN q hsw a1 a2 a3 a6 a7 a8) fun D σ H w t => r_set w (f := ev cf (.comp own tg it c d)) (fun σ H Q w t => ?_) (by simpa only [exec] using t)
          refine rd_comp (Wc := Wc) (fI := evI cf it) (fc := ev cf c) (fe := ev cf d) a4 a5 σ H Q w ?_
          have : ev cf (.comp own tg it c d) = fun ρ M => (evI cf it ρ M).bind fun xs M => (nx (cLoop (turn tg ((ownsOf N own).map (·.2)) ρ (ev cf c) (ev cf d)) xs M)).bind fun r M => .ok (.nw r) M := by
            funext ρ M
            rw [ownsOf_snd]
            simp only [ev]
            rfl
          rw [this] at t
          exact t
        | comp2 own own1 tg it tg1 it1 c d =>
          obtain ⟨t, iter, t1, iter1, ifs1, g, g1, rfl, a1, a2, a3, a4, a5, b3, b4, b5, b6, b7, a6, a7, a8, a9⟩ := comp2_parts G.toGd h3
          have hsw := sw_true (elt := elt) (gs := [⟨t, iter, [], 0⟩, ⟨t1, iter1, ifs1, 0⟩]) (scope := scope) (pos := lpos) (py := px) (y := x) (l := pos.line) (env := X.env) G.fk q h7.1 h7.2
          refine PS.weak (ps_setLc2 (vs1 := own1) nm.calm nm.nd hN q hsw a1 a2 b6 a3 (fun s H C cl fp => pts_nil) b7 b3 a6 a7 a8 a9) fun D σ H w t => r_set w (f := ev cf (.comp2 own own1 tg it tg1 it1 c d)) (fun σ H Q w t => ?_) (by simpa only [exec] using t)
          refine rd_comp2 (Wc := Wc) (own := ownsOf N own) (fI := evI cf it) (fI1 := evI cf it1) (fc := ev cf c) (fe := ev cf d) a4 b4 a5 b5 (fun σ H Q q => q) σ H Q w ?_
          have : ev cf (.comp2 own own1 tg it tg1 it1 c d) = fun ρ M => (evI cf it ρ M).bind fun xs M => (nx (cLoop2 (turn2 tg ((ownsOf N own).map (·.2)) (evI cf it1) tg1 own1 ρ (ev cf c) (ev cf d)) xs M)).bind fun r M => if r.length ≤ lim then .ok (.nw r) M else .bad := by
            funext ρ M
            rw [ownsOf_snd]
            simp only [ev]
            rfl
          rw [this] at t
          exact t
        | _ => cases h6
      · cases h7
  · cases h
end
end Co
end

section
set_option Elab.async false
set_option linter.all false
set_option maxRecDepth 100000
set_option maxHeartbeats 1000000
/-! blocks of statements -/
namespace Co
open PySem L2
section
variable {N : List Str} {gv : List (Str × GV)} {cf : Nat → List Vl → Mem → Res Vl} {cls : Nat → Addr} {k : Nat} {Wc : Nat → Hp → Prop} {sc : Scope} {X : Cx}
theorem tS_wf {K : PySem.W.Frag} {f : Rho → Mem → Res Fl} {D : Ends} {σ : L2.St} {H : Hp} (t : tS K Wc f D σ H) : tS K Wc f (Ends.wf K D) σ H :=
  let ⟨H0, z0, m0, z, m, ow, M, ρ, r, p⟩ := t
  ⟨H0, z0, m0, z, m, ow, M, ρ, r, p.wf⟩
theorem sws_no {e t : Expr} {l : Nat} {env : Env} (h : noComp e = true) : swapsWithSole [t] e l env = pure false := by
  unfold swapsWithSole
  exact sw_no h
theorem s_par (G : Gs N gv cf cls k Wc sc X) {vs : List Nat} {ts : List (Kd × Nat)} {es : Exs} {st : Stmt} (h : chkS N gv sc (.par vs ts es) st = true) : PS X st (tS X.K Wc (exec cf (.par vs ts es))) := by
  have nm := G.nm
  have Ne := nm.n
  unfold chkS at h
  split at h
  · rename_i ki i kj j e1 e2 x px y py kt pt a b k2 pt2 pos
    rw [Bool.or_eq_true] at h
    rcases h with h | h
    · simp only [Bool.and_eq_true, Bool.not_eq_true', decide_eq_true_eq] at h
      obtain ⟨⟨⟨⟨⟨⟨⟨⟨⟨⟨⟨⟨h1, h2⟩, h3⟩, h4⟩, h5⟩, h6⟩, h7⟩, h8⟩, h9⟩, h10⟩, h11⟩, h12⟩, h13⟩ := h
      have hp : ∀ e ∈ [a, b], plain e = true := fun e he => by
        rcases List.mem_cons.mp he with q | q
        · rw [q]; exact h8
        · rw [List.mem_singleton.mp q]; exact h9
      have lx : X.env.scope.names.lookup x = some .local := by rw [G.es]; exact isLc_ok h1
      have ly : X.env.scope.names.lookup y = some .local := by rw [G.es]; exact isLc_ok h2
      have ha := pa_cons (sE e1 sc X Wc a G.toGd h12) (pa_cons (sE e2 sc X Wc b G.toGd h13) pa_nil (plain_star h9 _)) (plain_star h8 _)
      exact PS.weak (ps_par nm.calm nm.nd (by rw [Ne]; exact h4) (by rw [Ne]; exact h5) h3 lx ly ha (sw2 G.fk lx ly h6 h7 hp h10 h11) rfl) fun D σ H w t => r_par2 h3 (tS_wf t)
    · simp only [Bool.and_eq_true, Bool.or_eq_true, decide_eq_true_eq] at h
      obtain ⟨⟨⟨⟨⟨⟨⟨⟨⟨⟨h1, h2⟩, h3⟩, h4⟩, h5⟩, h8⟩, h9⟩, h10⟩, h11⟩, h12⟩, h13⟩ := h
      have ha := pa_cons (sE e1 sc X Wc a G.toGd h12) (pa_cons (sE e2 sc X Wc b G.toGd h13) pa_nil (plain_star h9 _)) (plain_star h8 _)
      have hw : swappedStores [.Tuple [.Name x px, .Name y py] kt pt] (.Tuple [a, b] k2 pt2) X.env = pure none := by
        rcases h11 with q | q
        · exact swF q
        · exact swC (by rw [G.es]; exact q.imp isCl_ok isCl_ok)
      have hg : PG X (.Tuple [.Name x px, .Name y py] kt pt) (gTup X.K 2 (gCons (gName i) (gCons (gName j) gNil))) := pg_tup nm.calm (pgs_cons (pg_nm nm h1 h4) (pgs_cons (pg_nm nm h2 h5) pgs_nil rfl) rfl) rfl rfl
      exact PS.weak (ps_asg (pe_tupW ha) hg (sws_no h10) hw) fun D σ H w t => r_parT h3 (tS_wf t)
  · rename_i ki i kj j kn n e1 e2 e3 x px y py u pu kt pt a b c k2 pt2 pos
    simp only [Bool.and_eq_true, Bool.not_eq_true', decide_eq_true_eq] at h
    obtain ⟨⟨⟨⟨⟨⟨⟨⟨⟨⟨⟨⟨⟨⟨⟨⟨⟨⟨⟨h1, h2⟩, h2b⟩, h3⟩, h3b⟩, h3c⟩, h4⟩, h5⟩, h5b⟩, h6⟩, h6b⟩, h7⟩, h8⟩, h9⟩, h9b⟩, h10⟩, h11⟩, h12⟩, h13⟩, h14⟩ := h
    have hp : ∀ e ∈ [a, b, c], plain e = true := fun e he => by
      rcases List.mem_cons.mp he with q | q
      · rw [q]; exact h8
      · rcases List.mem_cons.mp q with q | q
        · rw [q]; exact h9
        · rw [List.mem_singleton.mp q]; exact h9b
    have lx : X.env.scope.names.lookup x = some .local := by rw [G.es]; exact isLc_ok h1
    have ly : X.env.scope.names.lookup y = some .local := by rw [G.es]; exact isLc_ok h2
    have lu : X.env.scope.names.lookup u = some .local := by rw [G.es]; exact isLc_ok h2b
    have ha := pa_cons (sE e1 sc X Wc a G.toGd h12) (pa_cons (sE e2 sc X Wc b G.toGd h13) (pa_cons (sE e3 sc X Wc c G.toGd h14) pa_nil (plain_star h9b _)) (plain_star h9 _)) (plain_star h8 _)
    exact PS.weak (ps_par3 nm.calm nm.nd (by rw [Ne]; exact h4) (by rw [Ne]; exact h5) (by rw [Ne]; exact h5b) h3 h3b h3c lx ly lu ha (sw3 G.fk lx ly lu h6 h6b h7 hp h10 h11) rfl) fun D σ H w t => r_par3 h3 h3b h3c (tS_wf t)
  · cases h
theorem s_unp (G : Gs N gv cf cls k Wc sc X) {vs : List Nat} {tg : Tg} {e : Ex} {st : Stmt} (h : chkS N gv sc (.unp vs tg e) st = true) : PS X st (tS X.K Wc (exec cf (.unp vs tg e))) := by
  unfold chkS at h
  split at h
  · rename_i ts kt pt e' pos
    simp only [Bool.and_eq_true] at h
    obtain ⟨⟨⟨h1, h2⟩, h3⟩, h4⟩ := h
    obtain ⟨g, hg, gs⟩ := sG1 G.nm tg _ h1
    have hw : swappedStores [.Tuple ts kt pt] e' X.env = pure none := by
      unfold unpOk at h4
      split at h4
      · simp only [Bool.or_eq_true, Bool.not_eq_true'] at h4
        rcases h4 with (h4 | h4) | h4
        · exact swF h4
        · exact swL h4
        · split at h4
          · simp only [Bool.or_eq_true] at h4
            exact swC (by rw [G.es]; exact h4.imp isCl_ok isCl_ok)
          · cases h4
      · rename_i hne
        cases e' <;> first | rfl | exact absurd rfl (hne _ _ _)
    exact PS.weak (ps_asg (sE e sc X Wc e' G.toGd h3) hg (sws_no h2) hw) fun D σ H w t => r_unp gs (tS_wf t)
  · cases h
theorem s_app (G : Gs N gv cf cls k Wc sc X) {vs : List Nat} {i : Nat} {e : Ex} {st : Stmt} (h : chkS N gv sc (.app vs i e) st = true) : PS X st (tS X.K Wc (exec cf (.app vs i e))) := by
  unfold chkS at h
  split at h
  · rename_i x px at_ apos e' cpos pos
    simp only [Bool.and_eq_true, decide_eq_true_eq] at h
    obtain ⟨⟨⟨⟨⟨⟨h0, h1⟩, h2⟩, h3⟩, h4⟩, h5⟩, h6⟩ := h
    subst h0
    have n := nOk_ok h2
    have hv := pe_var (X := X) (pos := px) (by rw [G.nm.n]; exact h3) (isVis_ok G.nm h1) n.1 n.2.1
    have he := sE e sc X Wc e' G.toGd h6
    have hst := plain_star (es := []) h4 X.env
    have hm := pe_bm (apos := apos) (cpos := cpos) PySem.F.plainAttrs_list PySem.F.slot_list_append PySem.F.type_list_append mt_append hv (pa_cons he pa_nil hst) rfl (by rw [hst]; rfl) h5 hst rfl
    exact PS.weak (ps_expr hm (sw_no rfl)) fun D σ H w t => r_app t
  · cases h
theorem s_exa (G : Gs N gv cf cls k Wc sc X) {vs : List Nat} {a e : Ex} {st : Stmt} (h : chkS N gv sc (.exa vs a e) st = true) : PS X st (tS X.K Wc (exec cf (.exa vs a e))) := by
  unfold chkS at h
  split at h
  · rename_i f x0 xs fpos at_ apos e' cpos pos
    simp only [Bool.and_eq_true, decide_eq_true_eq] at h
    obtain ⟨⟨⟨⟨h0, h4⟩, h5⟩, h6⟩, h7⟩ := h
    subst h0
    have hst := plain_star (es := []) h4 X.env
    have hm := pe_bm (apos := apos) (cpos := cpos) PySem.F.plainAttrs_list PySem.F.slot_list_append PySem.F.type_list_append mt_append (sE a sc X Wc _ G.toGd h6) (pa_cons (sE e sc X Wc e' G.toGd h7) pa_nil hst) (by cases f <;> rfl) (by rw [hst]; rfl) h5 hst rfl
    exact PS.weak (ps_expr hm (sw_no rfl)) fun D σ H w t => r_exa t
  · cases h
theorem sub_rule {o i : Expr} {ipos : Pos} (h : plain i = true) : ∀ v, assign (.Subscript o i ipos) X.env v = (do
      let ov ← holding [v] (eval o X.env)
      let iv ← holding [v, ov] (eval i X.env)
      standAt ipos
      holding [v, ov, iv] (setItem ov iv v)
      release [v, ov, iv] []) := by
  intro v
  cases i <;> first | rfl | (cases h; done)
theorem s_lput (G : Gs N gv cf cls k Wc sc X) {vs : List Nat} {i : Nat} {kx e : Ex} {st : Stmt} (h : chkS N gv sc (.lput vs i kx e) st = true) : PS X st (tS X.K Wc (exec cf (.lput vs i kx e))) := by
  unfold chkS at h
  split at h
  · rename_i x px k' ipos e' pos
    simp only [Bool.and_eq_true, decide_eq_true_eq] at h
    obtain ⟨⟨⟨⟨⟨⟨h1, h2⟩, h3⟩, h4⟩, h5⟩, h6⟩, h7⟩ := h
    have n := nOk_ok h2
    have hv := pe_var (X := X) (pos := px) (by rw [G.nm.n]; exact h3) (isVis_ok G.nm h1) n.1 n.2.1
    exact PS.weak (ps_asg (sE e sc X Wc e' G.toGd h7) (pg_sub hv (sE kx sc X Wc k' G.toGd h6) set_list (sub_rule h4)) (sws_no h5) rfl rfl) fun D σ H w t => r_lput t
  · cases h
theorem s_cput (G : Gs N gv cf cls k Wc sc X) {vs : List Nat} {i : Nat} {kx e : Ex} {st : Stmt} (h : chkS N gv sc (.cput vs i kx e) st = true) : PS X st (tS X.K Wc (exec cf (.cput vs i kx e))) := by
  unfold chkS at h
  split at h
  · rename_i x px k' ipos e' pos
    simp only [Bool.and_eq_true, decide_eq_true_eq] at h
    obtain ⟨⟨⟨⟨⟨⟨h1, h2⟩, h3⟩, h4⟩, h5⟩, h6⟩, h7⟩ := h
    have n := nOk_ok h2
    have hv := pe_var (X := X) (pos := px) (by rw [G.nm.n]; exact h3) (isVis_ok G.nm h1) n.1 n.2.1
    exact PS.weak (ps_asg (sE e sc X Wc e' G.toGd h7) (pg_sub hv (sE kx sc X Wc k' G.toGd h6) set_list (sub_rule h4)) (sws_no h5) rfl rfl) fun D σ H w t => r_cput t
  · cases h
theorem s_dput (G : Gs N gv cf cls k Wc sc X) {vs : List Nat} {i : Nat} {kx e : Ex} {st : Stmt} (h : chkS N gv sc (.dput vs i kx e) st = true) : PS X st (tS X.K Wc (exec cf (.dput vs i kx e))) := by
  unfold chkS at h
  split at h
  · rename_i x px k' ipos e' pos
    simp only [Bool.and_eq_true, decide_eq_true_eq] at h
    obtain ⟨⟨⟨⟨⟨⟨h1, h2⟩, h3⟩, h4⟩, h5⟩, h6⟩, h7⟩ := h
    have n := nOk_ok h2
    have hu : X.A.units + 1 < cLine := by have := G.room.un; omega
    have hv := pe_var (X := X) (pos := px) (by rw [G.nm.n]; exact h3) (isVis_ok G.nm h1) n.1 n.2.1
    exact PS.weak (ps_asg (sE e sc X Wc e' G.toGd h7) (pg_sub hv (sE kx sc X Wc k' G.toGd h6) (set_dict hu) (sub_rule h4)) (sws_no h5) rfl rfl) fun D σ H w t => r_dput hu t
  · cases h
theorem s_dpop (G : Gs N gv cf cls k Wc sc X) {vs : List Nat} {i : Nat} {kx : Ex} {st : Stmt} (h : chkS N gv sc (.dpop vs i kx) st = true) : PS X st (tS X.K Wc (exec cf (.dpop vs i kx))) := by
  unfold chkS at h
  split at h
  · rename_i x px at_ apos k' cpos pos
    simp only [Bool.and_eq_true, decide_eq_true_eq] at h
    obtain ⟨⟨⟨⟨⟨⟨h0, h1⟩, h2⟩, h3⟩, h4⟩, h5⟩, h6⟩ := h
    subst h0
    have n := nOk_ok h2
    have hv := pe_var (X := X) (pos := px) (by rw [G.nm.n]; exact h3) (isVis_ok G.nm h1) n.1 n.2.1
    have hst := plain_star (es := []) h4 X.env
    exact PS.weak (ps_expr (pe_dpop1 hv (sE kx sc X Wc k' G.toGd h6) ⟨rfl, by rw [hst]; rfl, h5, by rw [hst]; rfl⟩) (sw_no rfl)) fun D σ H w t => r_dpop t
  · cases h
theorem s_ex (G : Gs N gv cf cls k Wc sc X) {vs : List Nat} {e : Ex} {st : Stmt} (h : chkS N gv sc (.ex vs e) st = true) : PS X st (tS X.K Wc (exec cf (.ex vs e))) := by
  unfold chkS at h
  split at h
  · simp only [Bool.and_eq_true] at h
    exact PS.weak (ps_expr (sE e sc X Wc _ G.toGd h.2) (sw_no h.1)) fun D σ H w t => r_ex (tS_wf t)
  · cases h
theorem sIr (G : Gd N gv cf cls k Wc sc X) {t iter : Expr} : ∀ {it : Co.It}, isRng it = true → chkI N gv it sc t iter = true → PI X t iter (tIr X.K Wc (evI cf it))
  | .rng1 x, _, h => by
    unfold chkI at h
    split at h
    · simp only [Bool.and_eq_true, decide_eq_true_eq] at h
      obtain ⟨⟨⟨h1, h2⟩, h3⟩, h4⟩ := h
      subst h2
      obtain ⟨g1, g2, _, _⟩ := isBlt_ok G h1
      have : evI cf (.rng1 x) = fun ρ M => (ev cf x ρ M).bind fun v M => match v with
        | .dat (.int j) => .lift (rng 0 j) M
        | _ => .bad := by funext ρ M; simp only [evI] <;> rfl
      rw [this]
      exact i_rng1r g1 g2 h3 (sE x sc X Wc _ G h4)
    · cases h
  | .rng2 x y, _, h => by
    unfold chkI at h
    split at h
    · simp only [Bool.and_eq_true, decide_eq_true_eq] at h
      obtain ⟨⟨⟨⟨⟨h1, h2⟩, h3⟩, h4⟩, h5⟩, h6⟩ := h
      subst h2
      obtain ⟨g1, g2, _, _⟩ := isBlt_ok G h1
      have : evI cf (.rng2 x y) = fun ρ M => (ev cf x ρ M).bind fun v M => (ev cf y ρ M).bind fun u M => match v, u with
        | .dat (.int i), .dat (.int j) => .lift (rng i j) M
        | _, _ => .bad := by funext ρ M; simp only [evI] <;> rfl
      rw [this]
      exact i_rng2r g1 g2 h3 h4 (sE x sc X Wc _ G h5) (sE y sc X Wc _ G h6)
    · cases h
  | .seq _, h, _ => by cases h
  | .enu _, h, _ => by cases h
  | .zip _ _, h, _ => by cases h
end
theorem frz_eq {cf : Nat → List Vl → Mem → Res Vl} {s : Stm} (h : isFrz s = true) : ∃ i, s = .frz i := by
  cases s <;> first | exact ⟨_, rfl⟩ | (cases h; done)
mutual
theorem sS {N : List Str} {gv : List (Str × GV)} {cf : Nat → List Vl → Mem → Res Vl} {cls : Nat → Addr} {k : Nat} {Wc : Nat → Hp → Prop} {sc : Scope} {X : Cx} (G : Gs N gv cf cls k Wc sc X) : ∀ (s : Stm) (st : Stmt), chkS N gv sc s st = true → PS X st (tS X.K Wc (exec cf s))
  | .set vs kd i e, st, h => s_set G h
  | .par vs ts es, st, h => s_par G h
  | .unp vs tg e, st, h => s_unp G h
  | .app vs i e, st, h => s_app G h
  | .lput vs i kx e, st, h => s_lput G h
  | .cput vs i kx e, st, h => s_cput G h
  | .dput vs i kx e, st, h => s_dput G h
  | .dpop vs i kx, st, h => s_dpop G h
  | .ex vs e, st, h => s_ex G h
  | .iff vs c a b, st, h => by
    unfold chkS at h
    split at h
    · simp only [Bool.and_eq_true] at h
      obtain ⟨⟨h1, h2⟩, h3⟩ := h
      exact PS.weak (ps_if (sT c sc X Wc _ G.toGd h1) (sSs G a _ h2) (sSs G b _ h3)) fun D σ H w t => r_iff (tS_wf t)
    · cases h
  | .fr vs wp tg it body, st, h => by
    unfold chkS at h
    split at h
    · rename_i t iter b pos
      simp only [Bool.and_eq_true, Bool.or_eq_true] at h
      obtain ⟨⟨⟨⟨h1, h2⟩, h3⟩, h4⟩, h5⟩ := h
      obtain ⟨g, hg, gs⟩ := sG1 G.nm tg _ h1
      by_cases hv : vs = []
      · subst hv
        have e1 : evIv cf [] it = fun ρ M => evI cf it ρ M := rfl
        exact PS.weak (ps_for G.po G.nm.calm (sI it sc X Wc t iter G.toGd h3) hg (sSs G body _ h5) (foldedS h2 _)) fun D σ H w t => r_for (by rw [e1]; exact rdi_any) gs (tS_wf t)
      · have hve : vs.isEmpty = false := by cases vs with | nil => exact absurd rfl hv | cons _ _ => rfl
        rcases h4 with (h4 | h4) | hr
        · rw [hve] at h4; cases h4
        · have e1 : evIv cf vs it = fun ρ M => evI cf it (view ρ vs) M := by
            funext ρ M
            unfold evIv
            rw [hve]
            cases it <;> first | rfl | cases h4
          exact PS.weak (ps_for G.po G.nm.calm (sIr G.toGd h4 h3) hg (sSs G body _ h5) (foldedS h2 _)) fun D σ H w t => r_for (by rw [e1]; exact rdi_rng) gs (tS_wf t)
        · cases it with
          | seq e =>
            unfold chkI at h3
            exact PS.weak (ps_for G.po G.nm.calm (pi_or (pi_list (sE e sc X Wc _ G.toGd h3)) (pi_tup (sE e sc X Wc _ G.toGd h3))) hg (sSs G body _ h5) (foldedS h2 _)) fun D σ H w t => r_for (rdi_seq hve) gs (tS_wf t)
          | _ => cases hr
    · cases h
  | .wh vs wp c body, st, h => by
    unfold chkS at h
    split at h
    · simp only [Bool.and_eq_true] at h
      exact PS.weak (ps_while G.po (sT c sc X Wc _ G.toGd h.1) (sSs G body _ h.2)) fun D σ H w t => r_wh w (tS_wf t)
    · cases h
  | .ret e, st, h => by
    unfold chkS at h
    split at h
    · exact PS.weak (ps_ret (sE e sc X Wc _ G.toGd h)) fun D σ H w t => r_ret (tS_wf t)
    · cases h
  | .retN, st, h => by
    unfold chkS at h
    split at h
    · exact PS.weak ps_retN fun D σ H w t => r_retN w (tS_wf t)
    · cases h
  | .exa vs a e, st, h => s_exa G h
  | .frz _, st, h => by unfold chkS at h; cases h
  | .pass, st, h => by
    unfold chkS at h
    split at h
    · exact PS.weak ps_pass fun D σ H w t => r_pass w (tS_wf t)
    · exact PS.weak ps_doc fun D σ H w t => r_pass w (tS_wf t)
    · cases h
  | .never, st, h => PS.weak ps_never fun D σ H w ⟨H0, z0, m0, z, m, ow, M, ρ, r, p⟩ => by simp only [exec] at p; exact p
theorem sSs {N : List Str} {gv : List (Str × GV)} {cf : Nat → List Vl → Mem → Res Vl} {cls : Nat → Addr} {k : Nat} {Wc : Nat → Hp → Prop} {sc : Scope} {X : Cx} (G : Gs N gv cf cls k Wc sc X) : ∀ (ss : Stms) (l : List Stmt), chkSs N gv sc ss l = true → PSs X l (tS X.K Wc (execs cf ss))
  | .nil, l, h => by
    unfold chkSs at h
    cases l with
    | cons _ _ => cases h
    | nil =>
      refine PSs.weak pss_nil fun D σ H w ⟨H0, z0, m0, z, m, ow, M, ρ, r, p⟩ => ?_
      simp only [execs] at p
      exact fun w => p z m ow σ H w Mv.refl r
  | .cons s ss, l, h => by
    unfold chkSs at h
    by_cases hf : isFrz s = true
    · rw [if_pos hf] at h
      obtain ⟨i, rfl⟩ := frz_eq (cf := cf) hf
      refine PSs.weak (sSs G ss l h) fun D σ H w ⟨H0, z0, m0, z, m, ow, M, ρ, r, p⟩ => ?_
      obtain ⟨z', hz, r'⟩ := r.frz i
      refine ⟨H0, z0, m0, z', m, ow, M, _, r', ?_⟩
      simp only [execs, exec, Res.bind] at p
      exact (SPost.go p (Mv.sub hz)).wf
    · rw [if_neg hf] at h
      cases l with
      | nil => cases h
      | cons st l =>
        simp only [Bool.and_eq_true] at h
        refine PSs.weak (pss_cons (sS G s st h.1) (sSs G ss l h.2)) fun D σ H w ⟨H0, z0, m0, z, m, ow, M, ρ, r, p⟩ => ?_
        refine ⟨H0, z0, m0, z, m, ow, M, ρ, r, ?_⟩
        simp only [execs] at p
        exact SPost.bind' (u := tS X.K Wc (execs cf ss)) (D := Ends.wf X.K D) p.wf (fun v M => rfl) fun ρ' M' z' m' ow' σ' H' w' r' p' => ⟨H0, z0, m0, z', m', ow', M', ρ', r', p'⟩
end
end Co
end

section
set_option Elab.async false
set_option linter.all false
set_option maxRecDepth 100000
set_option maxHeartbeats 1000000
/-! defs -/
namespace Co
open PySem L2
/-- a def of the text -/
structure Df where
  id : Nat
  x : Str
  st : Stmt
  N : List Str
  ps : List Str
  fn : Fn
def look (ds : List Df) (i : Nat) : Option Df := ds.find? fun d => d.id == i
def tab (ds : List Df) : Nat → Option Fn := fun i => (look ds i).map (·.fn)
theorem look_mem {ds : List Df} {i : Nat} {d : Df} (h : look ds i = some d) : d ∈ ds := List.mem_of_find?_eq_some h
def scOk (N ps : List Str) (sc : Scope) : Bool := (match sc.kind with | .function => true | _ => false) && !sc.isCoroutine && !sc.isGenerator && decide N.Nodup && decide (N.take ps.length = ps) && (ps.all fun x => isLoc sc x) && (sc.names.all fun y => match y.2 with | .free => false | _ => true)
theorem scOk_ok {N ps : List Str} {sc : Scope} (h : scOk N ps sc = true) : FnScope N ps sc := by
  unfold scOk at h
  simp only [Bool.and_eq_true, decide_eq_true_eq, Bool.not_eq_true', List.all_eq_true] at h
  obtain ⟨⟨⟨⟨⟨⟨h1, h2⟩, h3⟩, h4⟩, h5⟩, h6⟩, h7⟩ := h
  refine ⟨?_, h2, h3, h4, h5, fun x hx => isLoc_ok (h6 x hx), fun y hy e => ?_⟩
  · split at h1
    · assumption
    · cases h1
  · have := h7 y hy
    rw [e] at this; cases this
def chkD (gv : List (Str × GV)) (d : Df) : Bool := scOk d.N d.ps (defScope d.st) && decide (d.fn.np = d.ps.length) && decide (d.fn.nl = d.N.length) && decide (d.ps.length ≤ d.N.length) && chkSs d.N gv (defScope d.st) d.fn.body (defBody d.st)
def gvOk (ds : List Df) (gv : List (Str × GV)) : Bool := gv.all fun p => match p.2 with
  | .fn i => (match look ds i with
    | some d => decide (d.x = p.1)
    | none => false)
  | _ => true
theorem lookup_mem {α : Type} {x : Str} {g : α} : ∀ {l : List (Str × α)}, l.lookup x = some g → (x, g) ∈ l
  | [], h => by cases h
  | (y, k) :: r, h => by
    rw [List.lookup_cons] at h
    split at h
    · rename_i e
      cases h
      rw [eq_of_beq e]
      exact List.mem_cons_self
    · exact List.mem_cons_of_mem _ (lookup_mem h)
theorem gvOk_ok {ds : List Df} {gv : List (Str × GV)} (h : gvOk ds gv = true) {x : Str} {i : Nat} (hl : gv.lookup x = some (.fn i)) : ∃ d, look ds i = some d ∧ d.x = x := by
  unfold gvOk at h
  rw [List.all_eq_true] at h
  have := h _ (lookup_mem hl)
  dsimp only at this
  split at this
  · rename_i d e
    exact ⟨d, e, by simpa using this⟩
  · cases this
/-- the state at a def's entry -/
theorem paired_get {α β : Type} {F : α → β → Prop} : ∀ {xs : List α} {ys : List β} {i : Nat} {y : β}, Paired F xs ys → ys[i]? = some y → ∃ x, xs[i]? = some x ∧ F x y
  | _, _, i, _, .nil, e => by simp at e
  | _, _, 0, _, .cons r _, e => by simp at e; subst e; exact ⟨_, rfl, r⟩
  | _, _, i + 1, y, .cons _ t, e => by
    obtain ⟨x, h1, h2⟩ := paired_get (i := i) (y := y) t (by simpa using e)
    exact ⟨x, by simpa using h1, h2⟩
section
variable {K : PySem.W.Frag} {H H' : Hp} {z zR : Addr → Prop} {m m' : List Addr} {M M' : Mem} {Q : VK} {Wc : Nat → Hp → Prop}
theorem rep_plain {v : V} {l : Vl} (r : RepV K H z m H v l) : plainV l = true := by
  cases l with
  | dat d => rfl
  | cell n => rfl
  | scr n => rfl
  | nw xs =>
    obtain ⟨p, vs, e, h1, h2, h3, _⟩ := r
    rw [h1] at h3; cases h3
  | nwd t kvs =>
    obtain ⟨p, e, h1, h2, o⟩ := r
    cases t <;> (obtain ⟨ks, h3, _⟩ := o; rw [h1] at h3; cases h3)
  | _ => exact r.elim
theorem own_no {v : V} {l : Vl} (hl : isOwn l = true) (r : RepV K H z m H v l) : False := by
  cases l <;> first | exact r.elim | cases hl
theorem entry {N : List Str} {vs : List V} {as : List Vl} (hl : vs.length ≤ N.length) (hm : ∀ a ∈ m, z a) (ht : ∀ a, z a → (H a).isSome) (hn : ∀ a, z a → ∀ xs, H a ≠ some (.tup xs)) (c : Cells K z m M H) (p : Paired (RepV K H z m H) vs as) :
    SRel K H z m z m (fun _ => 0) M (as ++ List.replicate (N.length - as.length) .und) (L2.start N vs) H := by
  have e := p.length
  have get : ∀ (i : Nat) (vl : Vl), (as ++ List.replicate (N.length - as.length) .und)[i]? = some vl → as[i]? = some vl ∨ vl = .und := fun i vl h => by
    by_cases hi : i < as.length
    · rw [List.getElem?_append_left hi] at h; exact .inl h
    · rw [List.getElem?_append_right (by omega)] at h
      exact .inr (List.eq_of_mem_replicate (List.mem_of_getElem? h))
  refine { z0t := ht, m0z := hm, z0z := fun a h => h, mz := hm, zt := fun a h => ?_, m0m := ⟨[], by simp, nofun⟩, h0 := fun a h => h, cells := c, len := by simp [L2.start, e], env := fun i vl h s => ?_, nonw := fun i vl h => ?_, own := fun i xs h hy => ?_, inj := fun i j xs ys h1 hx h2 _ _ => ?_, keep := fun a o h _ => h }
  · cases q : H a with
    | none => have := ht a h; rw [q] at this; cases this
    | some o => exact ⟨o, rfl, fun xs q2 => hn a h xs (by rw [q, q2])⟩
  · rcases get i vl h with h | rfl
    · obtain ⟨v, h1, h2⟩ := paired_get p h
      refine ⟨v, ?_, h2⟩
      have hi := (List.getElem?_eq_some_iff.mp h1).1
      show (vs.map some ++ _)[i]? = _
      rw [List.getElem?_append_left (by simpa using hi), List.getElem?_map, h1]
      rfl
    · cases s
  · rcases get i vl h with h | rfl
    · obtain ⟨v, h1, h2⟩ := paired_get p h
      exact .inl (rep_plain h2)
    · exact .inr (.inr rfl)
  · rcases get i _ h with h | h
    · obtain ⟨v, h1, h2⟩ := paired_get p h
      exact (own_no hy h2).elim
    · rw [h] at hy; cases hy
  · rcases get i _ h1 with h | h
    · obtain ⟨v, h3, h4⟩ := paired_get p h
      exact (own_no hx h4).elim
    · rw [h] at hx; cases hx
/-- what a def's end gives its caller -/
theorem Fin.cells0 (f : Fin K H z m zR m' M' H') (hl : m.length = M.length) : Cells K z m (M'.take M.length) H' := by
  obtain ⟨m1, e, _⟩ := f.m0m
  refine ⟨?_, ?_, fun n a xs e1 e2 => ?_⟩
  · have := f.cells.1
    rw [e] at this
    exact (List.nodup_append.mp this).1
  · have := f.cells.2.1
    rw [e, List.length_append] at this
    rw [List.length_take]
    omega
  · have hn := (List.getElem?_eq_some_iff.mp e1).1
    rw [List.getElem?_take_of_lt (by omega)] at e2
    obtain ⟨vs, h1, h2, h3⟩ := f.cells.2.2 n a xs (by rw [e, List.getElem?_append_left hn]; exact e1) e2
    exact ⟨vs, h1, Reps.mono (Mv.sub f.z0z) h2, h3⟩
theorem finish_post {r : Res Fl} (hl : m.length = M.length) (ht : ∀ a, z a → (H a).isSome) (p : Post K Wc H z m (finish M.length r) H Q) : SPost K Wc H z m z H { nx := fun _ H' => Q .non H', rt := Q } r := by
  match r with
  | .bad => exact p
  | .exc c M' => exact fun zR m' H' w f => p H' w f.fz (f.cells0 hl)
  | .ok (.next ρ') M' => exact fun z' m' ow' σ' H' w mv s => p .non H' w (s.fin Fz.refl s.cells).fz ((s.fin Fz.refl s.cells).cells0 hl) .non
  | .ok (.ret l) M' =>
    intro v zR m' H' w f q
    have sub := f.z0z
    have hnz : ∀ a, H a = none → ¬ z a := fun a e h => by have := ht a h; rw [e] at this; cases this
    cases l with
    | dat d => exact p v H' w f.fz (f.cells0 hl) (Rep.mono (Mv.sub sub) q)
    | nw xs =>
      obtain ⟨a, vs, e, h1, h2, h3, h4⟩ := q
      exact p v H' w f.fz (f.cells0 hl) ⟨a, vs, e, h1, hnz a h1, h3, Reps.mono (Mv.sub fun b h => h.elim (fun h => .inl (sub b h)) .inr) h4⟩
    | nwd t kvs =>
      obtain ⟨a, e, h1, h2, o⟩ := q
      exact p v H' w f.fz (f.cells0 hl) ⟨a, e, h1, hnz a h1, o.mono (Mv.sub fun b h => h.elim (fun h => .inl (sub b h)) .inr) fun o q => q⟩
    | scr ns =>
      obtain ⟨a, e, g⟩ := q
      exact p v H' w f.fz (f.cells0 hl) ⟨a, e, g.mono (Mv.sub sub)⟩
    | cell n =>
      obtain ⟨a, e, g⟩ := q
      obtain ⟨m1, em, hm1⟩ := f.m0m
      unfold finish at p
      by_cases hn : n < M.length
      · simp only [if_pos hn] at p
        exact p v H' w f.fz (f.cells0 hl) ⟨a, e, by rw [em, List.getElem?_append_left (by omega)] at g; exact g⟩
      · simp only [if_neg hn] at p
        cases q : M'[n]? with
        | none => rw [q] at p; exact p.elim
        | some cl =>
          obtain ⟨xs⟩ := cl
          rw [q] at p
          obtain ⟨vs, h1, h2, h3⟩ := f.cells.2.2 n a xs g q
          have ha : H a = none := by
            rw [em, List.getElem?_append_right (by omega)] at g
            exact hm1 a (List.mem_of_getElem? g)
          have hz := f.mz a (List.mem_of_getElem? g)
          exact p v H' w f.fz (f.cells0 hl) ⟨a, vs, e, ha, hnz a ha, h1, Reps.mono (Mv.sub fun b h => h.elim (sub b) (fun h => by rw [h]; exact hz)) h2⟩
    | _ => exact q.elim
end
theorem callAt_len {T : Nat → Option Fn} {l i : Nat} {fn : Fn} (hT : T i = some fn) {as : List Vl} {M : Mem} (h : as.length ≠ fn.np) : callAt T l i as M = .bad := by
  cases l with
  | zero => rfl
  | succ l => unfold callAt; rw [hT]; dsimp only; rw [if_neg h]
theorem _root_.L2.Fun.lk {K : PySem.W.Frag} {x qual : Str} {st : Stmt} {f : Addr} {fd : FuncData} (F : Fun K x qual st f fd) : ∃ oc od osl, K.lookup f = some ⟨oc, od, .func fd, osl⟩ := by
  obtain ⟨oc, od, kV, doc, pm, an, cdv, ct, osl, rfl, lk, _⟩ := F.ex
  exact ⟨oc, od, osl, lk⟩
/-- every def keeps its promise -/
theorem all_ok {P : Program} {w : World} {K : PySem.W.Frag} {mg : Str → Option Value} {base : Heap} {cls : Nat → Addr} {ds : List Df} {gv : List (Str × GV)} (hgv : gvOk ds gv = true) (hds : ∀ d ∈ ds, chkD gv d = true)
    (hf : ∀ d ∈ ds, ∃ f fd, mg d.x = some (.ref f) ∧ Fun K d.x d.x d.st f fd ∧ Binds K fd d.ps [])
    (hc : ∀ x i, gv.lookup x = some (.cst i) → ∃ u, mg x = some u ∧ RelV (.int i) u) (hb : ∀ x, gv.lookup x = some .blt → mg x = none) :
    ∀ (l i : Nat) (d : Df), look ds i = some d → ∃ f fd, mg d.x = some (.ref f) ∧ PySem.W.keepIn K (.ref f) = true ∧ Binds K fd d.ps [] ∧ FnOk P w K mg base (CX P w) l f fd d.ps (spOf K cls d.ps.length (callAt (tab ds) l i)) ∧ ∃ oc od osl, K.lookup f = some ⟨oc, od, .func fd, osl⟩
  | 0, i, d, hd => by
    obtain ⟨f, fd, h1, F, B⟩ := hf d (look_mem hd)
    exact ⟨f, fd, h1, F.kp, B, ⟨fun vs H Q E q => q.1, fun A outer s H args us vs Q E hr he hb hv ⟨_, z, m, M, as, _, _, _, _, _, p⟩ => p.elim⟩, F.lk⟩
  | l + 1, i, d, hd => by
    have hm := look_mem hd
    obtain ⟨f, fd, h1, F, B⟩ := hf d hm
    have hk := hds d hm
    unfold chkD at hk
    simp only [Bool.and_eq_true, decide_eq_true_eq] at hk
    obtain ⟨⟨⟨⟨k1, k2⟩, k3⟩, k3b⟩, k4⟩ := hk
    have S := scOk_ok k1
    have IH := all_ok (P := P) (w := w) (base := base) (cls := cls) hgv hds hf hc hb l
    have hT : tab ds i = some d.fn := by unfold tab; rw [hd]; rfl
    refine ⟨f, fd, h1, F.kp, B, F.okX S (fun vs H Q E q => q.1) fun cdv A outer s H vs Q E hr ⟨hl, z, m, M, as, hmz, hzt, hnt, c, p, q⟩ => ?_, F.lk⟩
    let Wc : Nat → Hp → Prop := fun j H' => E (.ref (cls j)) none H'
    refine ⟨tS K Wc (execs (callAt (tab ds) l) d.fn.body), sSs (N := d.N) (gv := gv) (cls := cls) (k := l) (sc := defScope d.st) ?_ d.fn.body _ k4, ?_⟩
    · exact {
        nm := ⟨S.nd, rfl, fun x kd h => .inl h, fun _ _ => rfl, rfl⟩
        room := hr
        fn := fun x j hx => by
          obtain ⟨d', h3, h4⟩ := gvOk_ok hgv hx
          obtain ⟨f', fd', g1, g2, g3, g4, _⟩ := IH j d' h3
          have hT' : tab ds j = some d'.fn := by unfold tab; rw [h3]; rfl
          have hk' := hds d' (look_mem h3)
          unfold chkD at hk'
          simp only [Bool.and_eq_true, decide_eq_true_eq] at hk'
          rw [h4] at g1
          exact ⟨f', fd', d'.ps, g1, g2, g3, g4, fun as M hn => callAt_len hT' (by rw [hk'.1.1.1.2]; exact hn)⟩
        cst := hc
        blt := hb
        pass := passes_call (takes_of rfl rfl rfl rfl) fun c d' σ H ⟨j, e1, e2, e3⟩ => by subst e1 e2; exact e3
        fk := S.kind
        es := rfl
        po := passes_of rfl }
    · have e := p.length
      have np : as.length = d.fn.np := by omega
      have q : Post K Wc H z m (callAt (tab ds) (l + 1) i as M) H Q := q
      unfold callAt at q
      rw [hT] at q
      dsimp only at q
      rw [if_pos np] at q
      refine ⟨H, z, m, z, m, _, M, _, entry (by omega) hmz hzt hnt c p, ?_⟩
      have hn : d.fn.nl - d.fn.np = d.N.length - as.length := by omega
      rw [hn] at q
      exact finish_post c.2.1 hzt q
end Co
end

section
set_option Elab.async false
set_option linter.all false
set_option maxRecDepth 100000
set_option maxHeartbeats 1000000
/-! a law's end -/
namespace Co
open PySem L2
def FunFact (K : PySem.W.Frag) (d : Df) : Prop := ∃ f fd, PySem.W.nsIn K mainGlobals d.x = some (some (.ref f)) ∧ Fun K d.x d.x d.st f fd ∧ ∀ us : List Value, us.length = d.ps.length → bindArgs fd ⟨us, []⟩ = pure (d.ps.zip us)
theorem mkFact {K : PySem.W.Frag} (d : Df) (x : Str) (st : Stmt) (hx : d.x = x) (hs : d.st = st) {f : Addr} {oc : Value} {od an : Option Addr} {osl : Array (Option Value)} {kV doc pm cdv ct : Value} (a : PySem.W.nsIn K mainGlobals x = some (some (.ref f)))
    (l : K.lookup f = some ⟨oc, od, .func (PySem.W.fnOf x x (defArgs st) (defBody st) (defScope st) .none kV doc pm an cdv ct), osl⟩) (c : PySem.W.codeIn K cdv x = true) (k : PySem.W.keepIn K (.ref f) = true)
    (b : ∀ (kV doc pm : Value) (an : Option Addr) (cdv ct : Value) (us : List Value), us.length = d.ps.length → bindArgs (PySem.W.fnOf x x (defArgs st) (defBody st) (defScope st) .none kV doc pm an cdv ct) ⟨us, []⟩ = pure (d.ps.zip us)) : FunFact K d := by
  subst hx hs
  exact ⟨f, _, a, fun_mk l c k, b kV doc pm an cdv ct⟩
def AllF (K : PySem.W.Frag) : List Df → Prop
  | [] => True
  | d :: ds => FunFact K d ∧ AllF K ds
theorem AllF.mem {K : PySem.W.Frag} : ∀ {ds : List Df}, AllF K ds → ∀ d ∈ ds, FunFact K d
  | _ :: _, h, d, hd => (List.mem_cons.mp hd).elim (fun e => by rw [e]; exact h.1) (AllF.mem h.2 d)
def GFact (K : PySem.W.Frag) (x : Str) : GV → Prop
  | .fn _ => True
  | .cst i => ∃ t, PySem.W.nsIn K mainGlobals x = some (some (.int i t))
  | .blt => PySem.W.nsIn K mainGlobals x = some none
theorem gfC {K : PySem.W.Frag} (x : Str) (i : Int) {t : Tok} (a : PySem.W.nsIn K mainGlobals x = some (some (.int i t))) : GFact K x (.cst i) := ⟨t, a⟩
theorem gfB {K : PySem.W.Frag} (x : Str) (a : PySem.W.nsIn K mainGlobals x = some none) : GFact K x .blt := a
def AllG (K : PySem.W.Frag) : List (Str × GV) → Prop
  | [] => True
  | p :: ps => GFact K p.1 p.2 ∧ AllG K ps
theorem AllG.mem {K : PySem.W.Frag} : ∀ {ds : List (Str × GV)}, AllG K ds → ∀ p ∈ ds, GFact K p.1 p.2
  | _ :: _, h, d, hd => (List.mem_cons.mp hd).elim (fun e => by rw [e]; exact h.1) (AllG.mem h.2 d)
theorem end_of {P : Program} {w : World} {K : PySem.W.Frag} {h : Heap} {mg : Str → Option Value} {fa : Addr} {cls : Nat → Addr} {ds : List Df} {gv : List (Str × GV)} {iL : Nat} {dL : Df} {x : Str} (LV : Nat) (hgv : gvOk ds gv = true) (hds : ∀ d ∈ ds, chkD gv d = true)
    (hd : look ds iL = some dL) (hps : dL.ps = [x]) (X : K.In h) (G : h.Ns mainGlobals mg) (hfa : mg dL.x = some (.ref fa)) (F : AllF K ds) (V : AllG K gv) :
    ∃ fd : FuncData, (∀ (s : Shared) (v : Value), BindsTo s fd ⟨[v], []⟩ [(x, v)]) ∧ ∀ base : Heap, K.In base → base.Ns mainGlobals mg → FnOk P w K mg base (CX P w) LV fa fd [x] (spOf K cls 1 (callAt (tab ds) LV iL)) := by
  have hm := look_mem hd
  obtain ⟨f, fd, a, Fn, b⟩ := F.mem dL hm
  have e := hfa.symm.trans (PySem.W.mg_of X G a)
  cases e
  refine ⟨fd, fun s v => .of_eq (by have := b [v] (by rw [hps]; rfl); rw [hps] at this; exact this), fun base _ _ => ?_⟩
  have hf : ∀ d ∈ ds, ∃ f fd, mg d.x = some (.ref f) ∧ Fun K d.x d.x d.st f fd ∧ Binds K fd d.ps [] := fun d hd => by
    obtain ⟨f, fd, a, Fn, b⟩ := F.mem d hd
    exact ⟨f, fd, PySem.W.mg_of X G a, Fn, .all b⟩
  obtain ⟨f', fd', h1, h2, h3, h4, oc, od, osl, lk⟩ := all_ok (P := P) (w := w) (K := K) (mg := mg) (base := base) (cls := cls) hgv hds hf (fun y i hy => by
    obtain ⟨t, e⟩ := V.mem _ (lookup_mem hy)
    exact ⟨_, PySem.W.mg_of X G e, t, rfl⟩) (fun y hy => PySem.W.mg_none_of X G (V.mem _ (lookup_mem hy))) LV iL dL hd
  have e2 := hfa.symm.trans h1
  cases e2
  obtain ⟨oc', od', osl', lk'⟩ := Fn.lk
  rw [lk] at lk'
  cases lk'
  rw [hps] at h4
  exact h4
/-- the script as a value; what the law's def answers -/
theorem sp_end {K : PySem.W.Frag} {cls : Nat → Addr} {cf : List Vl → Mem → Res Vl} {H : Hp} {a : Addr} {ns : List Int} (hO : Only H) (hS : SqL K H a (ns.map V.int)) (h : ∃ M, cf [.scr ns] [] = .ok (.dat (.bool true)) M) : spOf K cls 1 cf [.ref a] H (fun v _ => v = .bl true) fun _ _ _ => False := by
  obtain ⟨M, e⟩ := h
  refine ⟨rfl, fun _ => False, [], [], [.scr ns], nofun, nofun, nofun, ⟨List.nodup_nil, rfl, fun n a xs e => by simp at e⟩, .cons ⟨a, rfl, ?_⟩ .nil, ?_⟩
  · rcases hS with (h1 | ⟨o, h1⟩) | h1
    · rcases hO a with q | ⟨o, xs, q⟩
      · rw [q] at h1; cases h1
      · rw [q] at h1; cases h1
    · exact .inl ⟨o, h1, id⟩
    · exact .inr h1
  · rw [e]
    intro v H' w f c r
    exact Rep.bool_inv r
theorem noX {P : Program} {w : World} {H : Hp} {s : Shared} {e : Value} {s' : Shared} : CX P w [] H s (fun _ _ _ => False) e s' → False := fun h => by
  obtain ⟨_, _, _, _, _, _, _, _, _, _, _, _, z⟩ := h
  exact z
end Co
end

section
set_option Elab.async false
set_option maxRecDepth 100000
/-! the terms of the defs; printed by gen3.py -/
namespace F
open Co
/-- 0: value, low, high -/
def is_integer : Fn := ⟨3, 3, (.cons (.ret (.and (.bi .isInt (.cons (.var 0) .nil)) (.and (.not (.bi .isBool (.cons (.var 0) .nil))) (.chain .le .le (.var 1) (.var 0) (.var 2))))) .nil)⟩
/-- 1: value -/
def is_note : Fn := ⟨1, 1, (.cons (.iff [] (.or (.not (.bi .isTuple (.cons (.var 0) .nil))) (.or (.cmp .ne (.bi .len (.cons (.var 0) .nil)) (.cst (.int 3))) (.not (.call 0 (.cons (.idx (.var 0) (.cst (.int 0))) (.cons (.cst (.int 1)) (.cons (.cst (.int 88)) .nil))))))) (.cons (.ret (.cst (.bool false))) .nil) .nil) (.cons (.ret (.and (.call 0 (.cons (.idx (.var 0) (.cst (.int 1))) (.cons (.cst (.int 0)) (.cons (.cst (.int 60)) .nil)))) (.call 0 (.cons (.idx (.var 0) (.cst (.int 2))) (.cons (.op .add (.idx (.var 0) (.cst (.int 1))) (.cst (.int 1))) (.cons (.cst (.int 60)) .nil)))))) .nil))⟩
/-- 2: value, pairs, one, other, note -/
def is_piece : Fn := ⟨1, 5, (.cons (.iff [] (.or (.not (.bi .isTuple (.cons (.var 0) .nil))) (.or (.cmp .gt (.bi .len (.cons (.var 0) .nil)) (.cst (.int 40))) (.not (.bi .all (.cons (.comp [4] (.nm 4) (.seq (.var 0)) (.cst (.bool true)) (.call 1 (.cons (.var 4) .nil))) .nil))))) (.cons (.ret (.cst (.bool false))) .nil) .nil) (.cons (.set [] .val 1 (.lzip (.var 0) (.slc (.var 0) true false (.cst (.int 1)) (.cst .none)))) (.cons (.ret (.bi .all (.cons (.comp [2, 3] (.tp (.cons (.nm 2) (.cons (.nm 3) .nil))) (.seq (.var 1)) (.cst (.bool true)) (.and (.cmp .lt (.var 2) (.var 3)) (.or (.cmp .ne (.idx (.var 2) (.cst (.int 0))) (.idx (.var 3) (.cst (.int 0)))) (.cmp .le (.idx (.var 2) (.cst (.int 2))) (.idx (.var 3) (.cst (.int 1))))))) .nil))) .nil)))⟩
/-- 3: value -/
def require_piece : Fn := ⟨1, 1, (.cons (.iff [] (.not (.call 2 (.cons (.var 0) .nil))) (.cons .never .nil) .nil) .nil)⟩
/-- 4: piece, beat, key, begin, end -/
def sounding_at : Fn := ⟨2, 5, (.cons (.ret (.comp [2, 3, 4] (.tp (.cons (.nm 2) (.cons (.nm 3) (.cons (.nm 4) .nil)))) (.seq (.var 0)) (.chain .le .lt (.var 3) (.var 1) (.var 4)) (.var 2))) .nil)⟩
/-- 5: piece, note, key, begin, end -/
def struck_again : Fn := ⟨2, 5, (.cons (.ret (.bi .any (.cons (.comp [2, 3, 4] (.tp (.cons (.nm 2) (.cons (.nm 3) (.cons (.nm 4) .nil)))) (.seq (.var 0)) (.cst (.bool true)) (.and (.cmp .eq (.var 2) (.idx (.var 1) (.cst (.int 0)))) (.cmp .eq (.var 3) (.idx (.var 1) (.cst (.int 2)))))) .nil))) .nil)⟩
/-- 6: piece, note -/
def changes_of : Fn := ⟨1, 2, (.cons (.ret (.srt (.comp [1] (.nm 1) (.seq (.var 0)) (.and (.cmp .lt (.idx (.var 1) (.cst (.int 2))) (.cst (.int 60))) (.not (.call 5 (.cons (.var 0) (.cons (.var 1) .nil))))) (.idx (.var 1) (.cst (.int 2)))))) .nil)⟩
/-- 7: value -/
def require_beat : Fn := ⟨1, 1, (.cons (.iff [] (.not (.call 0 (.cons (.var 0) (.cons (.cst (.int 0)) (.cons (.op .sub (.cst (.int 60)) (.cst (.int 1))) .nil))))) (.cons .never .nil) .nil) .nil)⟩
/-- 8: piece, beat -/
def sounding : Fn := ⟨2, 2, (.cons (.ex [] (.call 3 (.cons (.var 0) .nil))) (.cons (.ex [] (.call 7 (.cons (.var 1) .nil))) (.cons (.ret (.call 4 (.cons (.var 0) (.cons (.var 1) .nil)))) .nil)))⟩
/-- 9: piece -/
def changes : Fn := ⟨1, 1, (.cons (.ex [] (.call 3 (.cons (.var 0) .nil))) (.cons (.ret (.call 6 (.cons (.var 0) .nil))) .nil))⟩
/-- 10: value, one, other, beat -/
def is_pedal : Fn := ⟨1, 4, (.cons (.iff [] (.or (.not (.bi .isTuple (.cons (.var 0) .nil))) (.not (.bi .all (.cons (.comp [3] (.nm 3) (.seq (.var 0)) (.cst (.bool true)) (.call 0 (.cons (.var 3) (.cons (.cst (.int 0)) (.cons (.op .sub (.cst (.int 60)) (.cst (.int 1))) .nil))))) .nil)))) (.cons (.ret (.cst (.bool false))) .nil) .nil) (.cons (.ret (.bi .all (.cons (.comp [1, 2] (.tp (.cons (.nm 1) (.cons (.nm 2) .nil))) (.zip (.var 0) (.slc (.var 0) true false (.cst (.int 1)) (.cst .none))) (.cst (.bool true)) (.cmp .lt (.var 1) (.var 2))) .nil))) .nil))⟩
/-- 11: value -/
def require_pedal : Fn := ⟨1, 1, (.cons (.iff [] (.not (.call 10 (.cons (.var 0) .nil))) (.cons .never .nil) .nil) .nil)⟩
/-- 12: value -/
def require_strokes : Fn := ⟨1, 1, (.cons (.iff [] (.not (.call 2 (.cons (.var 0) .nil))) (.cons .never .nil) .nil) .nil)⟩
/-- 13: pedal, strokes, stroke, again, moment, key, begin, off -/
def end_of : Fn := ⟨3, 8, (.cons (.set [] .val 3 (.comp [5, 6, 7] (.tp (.cons (.nm 5) (.cons (.nm 6) (.cons (.nm 7) .nil)))) (.seq (.var 1)) (.and (.cmp .eq (.var 5) (.idx (.var 2) (.cst (.int 0)))) (.cmp .ge (.var 6) (.idx (.var 2) (.cst (.int 2))))) (.var 6))) (.cons (.set [] .val 4 (.idx (.var 2) (.cst (.int 2)))) (.cons (.wh [] [] (.and (.cmp .lt (.var 4) (.cst (.int 60))) (.and (.cmp .mem (.var 4) (.var 0)) (.cmp .nmem (.var 4) (.var 3)))) (.cons (.set [] .val 4 (.op .add (.var 4) (.cst (.int 1)))) .nil)) (.cons (.ret (.var 4)) .nil))))⟩
/-- 14: pedal, strokes, stroke -/
def sound_of : Fn := ⟨2, 3, (.cons (.ret (.bi .tuple (.cons (.comp [2] (.nm 2) (.seq (.var 1)) (.cst (.bool true)) (.tup (.cons (.idx (.var 2) (.cst (.int 0))) (.cons (.idx (.var 2) (.cst (.int 1))) (.cons (.call 13 (.cons (.var 0) (.cons (.var 1) (.cons (.var 2) .nil)))) .nil))))) .nil))) .nil)⟩
/-- 15: rows, name, begin, end, key, low, high -/
def most_at_once : Fn := ⟨1, 7, (.cons (.ret (.bi .max (.cons (.op .add (.lst (.cons (.cst (.int 0)) .nil)) (.comp [1, 2, 3] (.tp (.cons (.nm 1) (.cons (.nm 2) (.cons (.nm 3) .nil)))) (.seq (.var 0)) (.cst (.bool true)) (.bi .len (.cons (.comp [4, 5, 6] (.tp (.cons (.nm 4) (.cons (.nm 5) (.cons (.nm 6) .nil)))) (.seq (.var 0)) (.chain .le .lt (.var 5) (.var 2) (.var 6)) (.cst (.int 1))) .nil)))) .nil))) .nil)⟩
/-- 16: pedal, strokes -/
def sound : Fn := ⟨2, 2, (.cons (.ex [] (.call 11 (.cons (.var 0) .nil))) (.cons (.ex [] (.call 12 (.cons (.var 1) .nil))) (.cons (.ret (.call 14 (.cons (.var 0) (.cons (.var 1) .nil)))) .nil)))⟩
/-- 17: strokes -/
def fingers_of : Fn := ⟨1, 1, (.cons (.ex [] (.call 12 (.cons (.var 0) .nil))) (.cons (.ret (.call 15 (.cons (.var 0) .nil))) .nil))⟩
/-- 18: pedal, beat -/
def pressings : Fn := ⟨1, 2, (.cons (.ex [] (.call 11 (.cons (.var 0) .nil))) (.cons (.ret (.bi .len (.cons (.comp [1] (.nm 1) (.seq (.var 0)) (.cmp .nmem (.op .sub (.var 1) (.cst (.int 1))) (.var 0)) (.var 1)) .nil))) .nil))⟩
/-- 19: piece, ups, key, begin, end, beat -/
def held_with : Fn := ⟨2, 6, (.cons (.ret (.bi .tuple (.cons (.comp [2, 3, 4] (.tp (.cons (.nm 2) (.cons (.nm 3) (.cons (.nm 4) .nil)))) (.seq (.var 0)) (.cst (.bool true)) (.op .add (.cst (.int 1)) (.bi .max (.cons (.op .add (.lst (.cons (.var 3) .nil)) (.comp [5] (.nm 5) (.seq (.var 1)) (.chain .le .lt (.var 3) (.var 5) (.var 4)) (.var 5))) .nil)))) .nil))) .nil)⟩
/-- 20: piece, ups, rows, note, off -/
def strokes_with : Fn := ⟨2, 5, (.cons (.set [] .val 2 (.lzip (.var 0) (.call 19 (.cons (.var 0) (.cons (.var 1) .nil))))) (.cons (.ret (.bi .tuple (.cons (.comp [3, 4] (.tp (.cons (.nm 3) (.cons (.nm 4) .nil))) (.seq (.var 2)) (.cst (.bool true)) (.tup (.cons (.idx (.var 3) (.cst (.int 0))) (.cons (.idx (.var 3) (.cst (.int 1))) (.cons (.var 4) .nil))))) .nil))) .nil))⟩
/-- 21: piece -/
def fewest_of : Fn := ⟨1, 1, (.cons (.ret (.call 15 (.cons (.call 20 (.cons (.var 0) (.cons (.call 6 (.cons (.var 0) .nil)) .nil))) .nil))) .nil)⟩
/-- 22: piece -/
def held_until : Fn := ⟨1, 1, (.cons (.ex [] (.call 3 (.cons (.var 0) .nil))) (.cons (.ret (.call 19 (.cons (.var 0) (.cons (.call 6 (.cons (.var 0) .nil)) .nil)))) .nil))⟩
/-- 23: piece -/
def fewest_fingers : Fn := ⟨1, 1, (.cons (.ex [] (.call 3 (.cons (.var 0) .nil))) (.cons (.ret (.call 21 (.cons (.var 0) .nil))) .nil))⟩
/-- 24: piece -/
def most_notes : Fn := ⟨1, 1, (.cons (.ex [] (.call 3 (.cons (.var 0) .nil))) (.cons (.ret (.call 15 (.cons (.var 0) .nil))) .nil))⟩
/-- 25: piece, whole, found, index -/
def decisive : Fn := ⟨1, 4, (.cons (.ex [] (.call 3 (.cons (.var 0) .nil))) (.cons (.par [] [(.val, 1), (.own, 2)] (.cons (.call 21 (.cons (.var 0) .nil)) (.cons (.lst .nil) .nil))) (.cons (.fr [] [3] (.nm 3) (.rng1 (.bi .len (.cons (.var 0) .nil))) (.cons (.iff [] (.cmp .lt (.call 21 (.cons (.op .add (.slc (.var 0) false true (.cst .none) (.var 3)) (.slc (.var 0) true false (.op .add (.var 3) (.cst (.int 1))) (.cst .none))) .nil)) (.var 1)) (.cons (.app [] 2 (.var 3)) .nil) .nil) .nil)) (.cons (.ret (.var 2)) .nil))))⟩
/-- 26: piece, strokes, downs, ups, note, stroke, beat -/
def pedal_told : Fn := ⟨2, 7, (.cons (.ex [] (.call 3 (.cons (.var 0) .nil))) (.cons (.ex [] (.call 12 (.cons (.var 1) .nil))) (.cons (.iff [] (.cmp .ne (.comp [4] (.nm 4) (.seq (.var 0)) (.cst (.bool true)) (.slc (.var 4) false true (.cst .none) (.cst (.int 2)))) (.comp [5] (.nm 5) (.seq (.var 1)) (.cst (.bool true)) (.slc (.var 5) false true (.cst .none) (.cst (.int 2))))) (.cons (.ret (.cst .none)) .nil) .nil) (.cons (.par [] [(.val, 2), (.val, 3)] (.cons (.lst .nil) (.cons (.call 6 (.cons (.var 0) .nil)) .nil))) (.cons (.fr [] [4, 5] (.tp (.cons (.nm 4) (.cons (.nm 5) .nil))) (.zip (.var 0) (.var 1)) (.cons (.iff [] (.cmp .gt (.idx (.var 5) (.cst (.int 2))) (.idx (.var 4) (.cst (.int 2)))) (.cons (.ret (.cst .none)) .nil) .nil) (.cons (.set [] .val 2 (.op .add (.var 2) (.lrg2 (.idx (.var 5) (.cst (.int 2))) (.idx (.var 4) (.cst (.int 2)))))) .nil))) (.cons (.iff [] (.cmp .ne (.comp [6] (.nm 6) (.seq (.var 2)) (.cmp .mem (.var 6) (.var 3)) (.var 6)) (.lst .nil)) (.cons (.ret (.cst .none)) .nil) .nil) (.cons (.ret (.tup (.cons (.srt (.var 2)) (.cons (.var 3) .nil)))) .nil)))))))⟩
/-- 27: piece, pedal, beat -/
def holds_of : Fn := ⟨2, 3, (.cons (.iff [] (.cmp .ne (.comp [2] (.nm 2) (.seq (.call 6 (.cons (.var 0) .nil))) (.cmp .mem (.var 2) (.var 1)) (.var 2)) (.lst .nil)) (.cons (.ret (.cst .none)) .nil) .nil) (.cons (.ret (.call 19 (.cons (.var 0) (.cons (.comp [2] (.nm 2) (.rng1 (.cst (.int 60))) (.cmp .nmem (.var 2) (.var 1)) (.var 2)) .nil)))) .nil))⟩
/-- 28: piece, pedal, offs, off, note -/
def holds_told : Fn := ⟨2, 5, (.cons (.ex [] (.call 3 (.cons (.var 0) .nil))) (.cons (.ex [] (.call 11 (.cons (.var 1) .nil))) (.cons (.set [] .val 2 (.call 27 (.cons (.var 0) (.cons (.var 1) .nil)))) (.cons (.ret (.ite (.cmp .isn (.var 2) (.cst .none)) (.comp [3, 4] (.tp (.cons (.nm 3) (.cons (.nm 4) .nil))) (.zip (.var 2) (.var 0)) (.cst (.bool true)) (.tup (.cons (.var 3) (.cons (.idx (.var 4) (.cst (.int 2))) .nil)))) (.cst .none))) .nil))))⟩
/-- 29: piece, rows, beat, ends, note, row -/
def until_of : Fn := ⟨3, 6, (.cons (.set [] .own 3 (.lst (.cons (.cst (.int 60)) .nil))) (.cons (.fr [] [4, 5] (.tp (.cons (.nm 4) (.cons (.nm 5) .nil))) (.zip (.var 0) (.var 1)) (.cons (.iff [] (.and (.chain .le .lt (.idx (.var 5) (.cst (.int 1))) (.var 2) (.idx (.var 5) (.cst (.int 2)))) (.not (.call 5 (.cons (.var 0) (.cons (.var 4) .nil))))) (.cons (.app [] 3 (.idx (.var 4) (.cst (.int 2)))) .nil) .nil) .nil)) (.cons (.ret (.bi .min (.cons (.var 3) .nil))) .nil)))⟩
/-- 33: _law_script, _law_k, _law_cell, _law_primes, _law_seed -/
def l_source : Fn := ⟨2, 5, (.cons (.set [] .val 2 (.cst (.int 0))) (.cons (.iff [] (.cmp .lt (.var 1) (.bi .len (.cons (.var 0) .nil))) (.cons (.set [] .val 2 (.idx (.var 0) (.var 1))) .nil) .nil) (.cons (.set [] .val 3 (.lst (.cons (.cst (.int 2147483647)) (.cons (.cst (.int 2147483629)) (.cons (.cst (.int 2147483587)) (.cons (.cst (.int 2147483579)) (.cons (.cst (.int 2147483563)) (.cons (.cst (.int 2147483549)) (.cons (.cst (.int 2147483543)) (.cons (.cst (.int 2147483497)) .nil)))))))))) (.cons (.set [] .val 4 (.op .mod (.op .mul (.op .add (.op .mod (.var 2) (.cst (.int 2147483489))) (.cst (.int 1))) (.op .add (.cst (.int 48271)) (.op .mul (.cst (.int 2)) (.var 1)))) (.cst (.int 2147483489)))) (.cons (.set [] .val 4 (.op .add (.op .add (.op .mod (.op .mul (.var 4) (.var 4)) (.cst (.int 2147483477))) (.var 1)) (.cst (.int 1)))) (.cons (.iff [] (.cmp .ge (.var 2) (.op .pow (.cst (.int 10)) (.cst (.int 18)))) (.cons (.ret (.lst (.cons (.var 2) (.cons (.var 4) (.cons (.idx (.var 3) (.op .mod (.var 1) (.cst (.int 8)))) .nil))))) .nil) .nil) (.cons (.ret (.lst (.cons (.cst (.int 0)) (.cons (.var 4) (.cons (.idx (.var 3) (.op .mod (.var 1) (.cst (.int 8)))) .nil))))) .nil)))))))⟩
/-- 34: _law_source_here, _law_size, _law_drawn -/
def l_pick : Fn := ⟨2, 3, (.cons (.iff [] (.cmp .gt (.idx (.var 0) (.cst (.int 0))) (.cst (.int 0))) (.cons (.set [] .val 2 (.op .mod (.idx (.var 0) (.cst (.int 0))) (.var 1))) (.cons (.cput [] 0 (.cst (.int 0)) (.op .fdiv (.idx (.var 0) (.cst (.int 0))) (.var 1))) (.cons (.ret (.var 2)) .nil))) .nil) (.cons (.cput [] 0 (.cst (.int 1)) (.op .add (.op .mod (.op .mul (.idx (.var 0) (.cst (.int 1))) (.cst (.int 48271))) (.idx (.var 0) (.cst (.int 2)))) (.cst (.int 1)))) (.cons (.ret (.op .mod (.op .fdiv (.op .mod (.op .mul (.idx (.var 0) (.cst (.int 1))) (.idx (.var 0) (.cst (.int 1)))) (.cst (.int 2147483423))) (.cst (.int 7))) (.var 1))) .nil)))⟩
/-- 35: _law_actual, _law_expected -/
def l_is_bool : Fn := ⟨2, 2, (.cons (.ret (.and (.bi .isBool (.cons (.var 0) .nil)) (.cmp .eq (.var 0) (.var 1)))) .nil)⟩
/-- 36: _law_source_here, _law_depth, _law_kind, _law_items, _law_some, _law_k -/
def l_any_value : Fn := ⟨2, 6, (.cons (.set [] .val 2 (.call 34 (.cons (.var 0) (.cons (.cst (.int 9)) .nil)))) (.cons (.iff [] (.or (.cmp .lt (.var 2) (.cst (.int 6))) (.cmp .eq (.var 1) (.cst (.int 0)))) (.cons (.set [] .val 4 (.lst (.cons (.cst (.int 0)) (.cons (.neg (.cst (.int 1))) (.cons (.cst (.int 1)) (.cons (.cst (.bool true)) (.cons (.cst (.bool false)) (.cons (.cst .none) (.cons (.cst (.str "")) (.cons (.cst (.str "a")) (.cons (.cst (.str "ab")) (.cons (.cst (.str "A")) (.cons (.cst (.str "a b")) (.cons (.cst (.str "abcdefghi")) (.cons (.cst (.int 2)) (.cons (.cst (.int 3)) (.cons (.neg (.cst (.int 7))) (.cons (.cst (.str "a")) (.cons (.op .pow (.cst (.int 10)) (.cst (.int 11))) (.cons (.cst (.int 8)) .nil)))))))))))))))))))) (.cons (.ret (.idx (.op .add (.var 4) (.lst (.cons (.tup .nil) (.cons (.lst .nil) (.cons (.tup (.cons (.cst (.int 0)) (.cons (.cst (.int 1)) .nil))) .nil))))) (.call 34 (.cons (.var 0) (.cons (.cst (.int 21)) .nil))))) .nil)) .nil) (.cons (.set [] .val 3 (.comp [5] (.nm 5) (.rng1 (.call 34 (.cons (.var 0) (.cons (.cst (.int 6)) .nil)))) (.cst (.bool true)) (.call 36 (.cons (.var 0) (.cons (.op .sub (.var 1) (.cst (.int 1))) .nil))))) (.cons (.ret (.idx (.lst (.cons (.var 3) (.cons (.bi .tuple (.cons (.var 3) .nil)) (.cons (.bi .tuple (.cons (.var 3) .nil)) .nil)))) (.op .sub (.var 2) (.cst (.int 6))))) .nil))))⟩
/-- 38: _law_value, _law_low, _law_high -/
def l_is_integer : Fn := ⟨3, 3, (.cons (.ret (.and (.bi .isInt (.cons (.var 0) .nil)) (.and (.not (.bi .isBool (.cons (.var 0) .nil))) (.and (.cmp .le (.var 1) (.var 0)) (.cmp .le (.var 0) (.var 2)))))) .nil)⟩
/-- 40: _law_source_here, _law_most, _law_last, _law_free_so, _law_found, _law_many, _law_wide, _law_turn, _law_key, _law_begin, _law_ends, _law_end -/
def l_piece : Fn := ⟨3, 12, (.cons (.par [] [(.own, 3), (.own, 4)] (.cons (.dnew false) (.cons (.lst .nil) .nil))) (.cons (.par [] [(.val, 5), (.val, 6)] (.cons (.call 34 (.cons (.var 0) (.cons (.op .add (.var 1) (.cst (.int 1))) .nil))) (.cons (.op .add (.cst (.int 1)) (.call 34 (.cons (.var 0) (.cons (.cst (.int 6)) .nil)))) .nil))) (.cons (.fr [] [7, 8, 9, 10, 11] (.nm 7) (.rng1 (.var 5)) (.cons (.set [] .val 8 (.op .add (.cst (.int 58)) (.call 34 (.cons (.var 0) (.cons (.op .add (.cst (.int 2)) (.var 6)) .nil))))) (.cons (.set [3] .val 9 (.dget (.var 3) (.var 8) (.call 34 (.cons (.var 0) (.cons (.var 2) .nil))))) (.cons (.set [] .val 9 (.op .add (.var 9) (.idx (.lst (.cons (.cst (.int 0)) (.cons (.cst (.int 0)) (.cons (.cst (.int 1)) (.cons (.call 34 (.cons (.var 0) (.cons (.cst (.int 4)) .nil))) .nil))))) (.call 34 (.cons (.var 0) (.cons (.cst (.int 4)) .nil)))))) (.cons (.set [] .val 10 (.lst (.cons (.op .add (.var 9) (.cst (.int 1))) (.cons (.op .add (.op .add (.var 9) (.cst (.int 1))) (.call 34 (.cons (.var 0) (.cons (.cst (.int 4)) .nil)))) (.cons (.op .add (.op .add (.var 9) (.cst (.int 1))) (.call 34 (.cons (.var 0) (.cons (.var 2) .nil)))) (.cons (.var 2) .nil)))))) (.cons (.set [] .val 11 (.bi .min (.cons (.var 2) (.cons (.idx (.var 10) (.call 34 (.cons (.var 0) (.cons (.cst (.int 4)) .nil)))) .nil)))) (.cons (.iff [] (.cmp .lt (.var 9) (.var 11)) (.cons (.app [] 4 (.tup (.cons (.var 8) (.cons (.var 9) (.cons (.var 11) .nil))))) (.cons (.dput [] 3 (.var 8) (.var 11)) .nil)) .nil) .nil))))))) (.cons (.ret (.bi .tuple (.cons (.bi .sorted (.cons (.var 4) .nil)) .nil))) .nil))))⟩
/-- 41: _law_source_here, _law_last, _law_chance, _law_beat -/
def l_pedal : Fn := ⟨2, 4, (.cons (.set [] .val 2 (.op .add (.cst (.int 1)) (.call 34 (.cons (.var 0) (.cons (.cst (.int 4)) .nil))))) (.cons (.ret (.bi .tuple (.cons (.comp [3] (.nm 3) (.rng1 (.var 1)) (.cmp .ge (.call 34 (.cons (.var 0) (.cons (.cst (.int 5)) .nil))) (.var 2)) (.var 3)) .nil))) .nil))⟩
/-- 42: _law_value -/
def l_is_good_note : Fn := ⟨1, 1, (.cons (.iff [] (.or (.not (.bi .isTuple (.cons (.var 0) .nil))) (.or (.cmp .ne (.bi .len (.cons (.var 0) .nil)) (.cst (.int 3))) (.not (.call 38 (.cons (.idx (.var 0) (.cst (.int 0))) (.cons (.cst (.int 1)) (.cons (.cst (.int 88)) .nil))))))) (.cons (.ret (.cst (.bool false))) .nil) .nil) (.cons (.ret (.and (.call 38 (.cons (.idx (.var 0) (.cst (.int 1))) (.cons (.cst (.int 0)) (.cons (.cst (.int 59)) .nil)))) (.call 38 (.cons (.idx (.var 0) (.cst (.int 2))) (.cons (.op .add (.idx (.var 0) (.cst (.int 1))) (.cst (.int 1))) (.cons (.cst (.int 60)) .nil)))))) .nil))⟩
/-- 43: _law_value, _law_at, _law_key, _law_begin, _law_end, _law_note_so, _law_one, _law_low, _law_off -/
def l_is_good_piece : Fn := ⟨1, 9, (.cons (.iff [] (.or (.not (.bi .isTuple (.cons (.var 0) .nil))) (.cmp .gt (.bi .len (.cons (.var 0) .nil)) (.cst (.int 40)))) (.cons (.ret (.cst (.bool false))) .nil) .nil) (.cons (.iff [] (.cmp .ne (.comp [5] (.nm 5) (.seq (.var 0)) (.not (.call 42 (.cons (.var 5) .nil))) (.var 5)) (.lst .nil)) (.cons (.ret (.cst (.bool false))) .nil) .nil) (.cons (.iff [] (.cmp .ne (.bi .list (.cons (.var 0) .nil)) (.srt (.var 0))) (.cons (.ret (.cst (.bool false))) .nil) .nil) (.cons (.fr [] [1, 2, 3, 4] (.tp (.cons (.nm 1) (.cons (.tp (.cons (.nm 2) (.cons (.nm 3) (.cons (.nm 4) .nil)))) .nil))) (.enu (.var 0)) (.cons (.iff [] (.comp [6, 7, 8] (.tp (.cons (.nm 6) (.cons (.nm 7) (.cons (.nm 8) .nil)))) (.seq (.slc (.var 0) true false (.op .add (.var 1) (.cst (.int 1))) (.cst .none))) (.and (.cmp .eq (.var 6) (.var 2)) (.cmp .lt (.var 7) (.var 4))) (.cst (.int 1))) (.cons (.ret (.cst (.bool false))) .nil) .nil) .nil)) (.cons (.ret (.cst (.bool true))) .nil)))))⟩
/-- 44: _law_value, _law_beat -/
def l_is_good_pedal : Fn := ⟨1, 2, (.cons (.iff [] (.or (.not (.bi .isTuple (.cons (.var 0) .nil))) (.cmp .ne (.comp [1] (.nm 1) (.seq (.var 0)) (.not (.call 38 (.cons (.var 1) (.cons (.cst (.int 0)) (.cons (.cst (.int 59)) .nil))))) (.var 1)) (.lst .nil))) (.cons (.ret (.cst (.bool false))) .nil) .nil) (.cons (.ret (.cmp .eq (.bi .list (.cons (.var 0) .nil)) (.srt (.var 0)))) .nil))⟩
/-- 47: _law_rows, _law_beat, _law_key, _law_low, _law_off -/
def l_most : Fn := ⟨1, 5, (.cons (.ret (.bi .max (.cons (.comp [1] (.nm 1) (.rng1 (.cst (.int 60))) (.cst (.bool true)) (.bi .len (.cons (.comp [2, 3, 4] (.tp (.cons (.nm 2) (.cons (.nm 3) (.cons (.nm 4) .nil)))) (.seq (.var 0)) (.chain .le .lt (.var 3) (.var 1) (.var 4)) (.cst (.int 1))) .nil))) .nil))) .nil)⟩
/-- 48: _law_piece_so, _law_found, _law_moment_so, _law_ends, _law_begins, _law_key, _law_begin, _law_end -/
def l_changes : Fn := ⟨1, 8, (.cons (.set [] .own 1 (.lst .nil)) (.cons (.fr [] [2, 3, 4] (.nm 2) (.rng2 (.cst (.int 1)) (.cst (.int 60))) (.cons (.set [] .val 3 (.comp [5, 6, 7] (.tp (.cons (.nm 5) (.cons (.nm 6) (.cons (.nm 7) .nil)))) (.seq (.var 0)) (.cmp .eq (.var 7) (.var 2)) (.var 5))) (.cons (.set [] .val 4 (.comp [5, 6, 7] (.tp (.cons (.nm 5) (.cons (.nm 6) (.cons (.nm 7) .nil)))) (.seq (.var 0)) (.cmp .eq (.var 6) (.var 2)) (.var 5))) (.cons (.iff [] (.cmp .ne (.comp [5] (.nm 5) (.seq (.var 3)) (.cmp .nmem (.var 5) (.var 4)) (.var 5)) (.lst .nil)) (.cons (.app [] 1 (.var 2)) .nil) .nil) .nil)))) (.cons (.ret (.var 1)) .nil)))⟩
/-- 50: piece, pedal, strokes -/
def plays : Fn := ⟨3, 3, (.cons (.ex [] (.call 3 (.cons (.var 0) .nil))) (.cons (.ex [] (.call 11 (.cons (.var 1) .nil))) (.cons (.ex [] (.call 12 (.cons (.var 2) .nil))) (.cons (.ret (.cmp .eq (.call 14 (.cons (.var 1) (.cons (.var 2) .nil))) (.var 0))) .nil))))⟩
/-- 51: _law_pedal_so, _law_strokes_so, _law_found, _law_heard_so, _law_moment_so, _law_key, _law_low, _law_off, _law_begin, _law_held_so, _law_stays_so, _law_struck_so, _law_one -/
def l_sound : Fn := ⟨2, 13, (.cons (.par [] [(.own, 2), (.own, 3)] (.cons (.lst .nil) (.cons (.dnew false) .nil))) (.cons (.fr [] [4, 5, 8, 9, 10, 11] (.nm 4) (.rng1 (.cst (.int 61))) (.cons (.fr [3] [5, 8, 9, 10, 11] (.nm 5) (.seq (.bi .sorted (.cons (.var 3) .nil))) (.cons (.set [3] .val 8 (.idx (.var 3) (.var 5))) (.cons (.set [] .val 9 (.comp [12, 6, 7] (.tp (.cons (.nm 12) (.cons (.nm 6) (.cons (.nm 7) .nil)))) (.seq (.var 1)) (.and (.cmp .eq (.var 12) (.var 5)) (.chain .lt .lt (.var 6) (.var 4) (.var 7))) (.cst (.int 1)))) (.cons (.set [] .val 10 (.or (.cmp .ne (.var 9) (.lst .nil)) (.and (.cmp .lt (.var 4) (.cst (.int 60))) (.cmp .mem (.var 4) (.var 0))))) (.cons (.set [] .val 11 (.comp [12, 6, 7] (.tp (.cons (.nm 12) (.cons (.nm 6) (.cons (.nm 7) .nil)))) (.seq (.var 1)) (.and (.cmp .eq (.var 12) (.var 5)) (.cmp .eq (.var 6) (.var 4))) (.cst (.int 1)))) (.cons (.iff [] (.or (.cmp .ne (.var 11) (.lst .nil)) (.not (.var 10))) (.cons (.app [] 2 (.tup (.cons (.var 5) (.cons (.var 8) (.cons (.var 4) .nil))))) (.cons (.dpop [] 3 (.var 5)) .nil)) .nil) .nil)))))) (.cons (.fr [] [5] (.tp (.cons (.nm 5) (.cons (.nm 6) (.cons (.nm 7) .nil)))) (.seq (.var 1)) (.cons (.iff [] (.cmp .eq (.var 6) (.var 4)) (.cons (.dput [] 3 (.var 5) (.var 6)) .nil) .nil) .nil)) .nil))) (.cons (.ret (.bi .tuple (.cons (.bi .sorted (.cons (.var 2) .nil)) .nil))) .nil)))⟩
/-- 53: pedal, strokes, whole, found, index, beat -/
def idle_beats : Fn := ⟨2, 6, (.cons (.ex [] (.call 11 (.cons (.var 0) .nil))) (.cons (.ex [] (.call 12 (.cons (.var 1) .nil))) (.cons (.par [] [(.val, 2), (.own, 3)] (.cons (.call 14 (.cons (.var 0) (.cons (.var 1) .nil))) (.cons (.lst .nil) .nil))) (.cons (.fr [] [4, 5] (.tp (.cons (.nm 4) (.cons (.nm 5) .nil))) (.enu (.var 0)) (.cons (.iff [] (.cmp .eq (.call 14 (.cons (.op .add (.slc (.var 0) false true (.cst .none) (.var 4)) (.slc (.var 0) true false (.op .add (.var 4) (.cst (.int 1))) (.cst .none))) (.cons (.var 1) .nil))) (.var 2)) (.cons (.app [] 3 (.var 5)) .nil) .nil) .nil)) (.cons (.ret (.var 3)) .nil)))))⟩
/-- 55: piece, key, begin, end -/
def last_end : Fn := ⟨1, 4, (.cons (.ret (.bi .max (.cons (.op .add (.lst (.cons (.cst (.int 0)) .nil)) (.comp [1, 2, 3] (.tp (.cons (.nm 1) (.cons (.nm 2) (.cons (.nm 3) .nil)))) (.seq (.var 0)) (.cst (.bool true)) (.var 3))) .nil))) .nil)⟩
/-- 56: piece, period, key, begin, end, name, other, off, gap -/
def is_possible : Fn := ⟨2, 9, (.cons (.fr [] [2, 3, 4, 5, 6, 7, 8] (.tp (.cons (.nm 2) (.cons (.nm 3) (.cons (.nm 4) .nil)))) (.seq (.var 0)) (.cons (.iff [] (.cmp .gt (.op .sub (.var 4) (.var 3)) (.var 1)) (.cons (.ret (.cst (.bool false))) .nil) .nil) (.cons (.fr [] [5, 6, 7, 8] (.tp (.cons (.nm 5) (.cons (.nm 6) (.cons (.nm 7) .nil)))) (.seq (.var 0)) (.cons (.set [] .val 8 (.op .mod (.op .sub (.var 6) (.var 3)) (.var 1))) (.cons (.iff [] (.and (.cmp .eq (.var 5) (.var 2)) (.and (.cmp .ne (.tup (.cons (.var 6) (.cons (.var 7) .nil))) (.tup (.cons (.var 3) (.cons (.var 4) .nil)))) (.not (.chain .le .le (.op .sub (.var 4) (.var 3)) (.var 8) (.op .sub (.var 1) (.op .sub (.var 7) (.var 6))))))) (.cons (.ret (.cst (.bool false))) .nil) .nil) .nil))) .nil))) (.cons (.ret (.cst (.bool true))) .nil))⟩
/-- 57: piece, period -/
def require_period : Fn := ⟨2, 2, (.cons (.iff [] (.not (.call 0 (.cons (.var 1) (.cons (.cst (.int 1)) (.cons (.cst (.int 60)) .nil))))) (.cons .never .nil) .nil) (.cons (.iff [] (.not (.call 56 (.cons (.var 0) (.cons (.var 1) .nil)))) (.cons .never .nil) .nil) .nil))⟩
/-- 58: times -/
def require_times : Fn := ⟨1, 1, (.cons (.iff [] (.not (.call 0 (.cons (.var 0) (.cons (.cst (.int 1)) (.cons (.cst (.int 1000000000000)) .nil))))) (.cons .never .nil) .nil) .nil)⟩
/-- 59: piece, period, times, turn, key, begin, end -/
def rounds_of : Fn := ⟨3, 7, (.cons (.ret (.comp2 [3, 4, 5, 6] [4, 5, 6] (.nm 3) (.rng1 (.var 2)) (.tp (.cons (.nm 4) (.cons (.nm 5) (.cons (.nm 6) .nil)))) (.seq (.var 0)) (.cst (.bool true)) (.tup (.cons (.var 4) (.cons (.op .add (.var 5) (.op .mul (.var 3) (.var 1))) (.cons (.op .add (.var 6) (.op .mul (.var 3) (.var 1))) .nil)))))) .nil)⟩
/-- 61: rows, found, first, end, beat -/
def counted : Fn := ⟨1, 5, (.cons (.set [] .own 1 (.dnew false)) (.cons (.fr [] [2, 3, 4] (.tp (.cons (.nm 2) (.cons (.nm 3) .nil))) (.seq (.var 0)) (.cons (.fr [] [4] (.nm 4) (.rng2 (.var 2) (.var 3)) (.cons (.dput [1] 1 (.var 4) (.op .add (.dget (.var 1) (.var 4) (.cst (.int 0))) (.cst (.int 1)))) .nil)) .nil)) (.cons (.ret (.var 1)) .nil)))⟩
/-- 62: notes, changes, found, key, begin, end, off -/
def holds_of_1 : Fn := ⟨2, 7, (.cons (.set [] .own 2 (.lst .nil)) (.cons (.fr [] [3, 4, 5, 6] (.tp (.cons (.nm 3) (.cons (.nm 4) (.cons (.nm 5) .nil)))) (.seq (.var 0)) (.cons (.set [] .val 6 (.var 5)) (.cons (.wh [] [] (.and (.cmp .gt (.var 6) (.op .add (.var 4) (.cst (.int 1)))) (.cmp .nmem (.op .sub (.var 6) (.cst (.int 1))) (.var 1))) (.cons (.set [] .val 6 (.op .sub (.var 6) (.cst (.int 1)))) .nil)) (.cons (.app [] 2 (.tup (.cons (.var 4) (.cons (.var 6) .nil)))) .nil)))) (.cons (.ret (.var 2)) .nil)))⟩
/-- 64: piece, period -/
def regular : Fn := ⟨2, 2, (.cons (.ret (.op .add (.op .mul (.cst (.int 2)) (.op .fdiv (.call 55 (.cons (.var 0) .nil)) (.var 1))) (.cst (.int 4)))) .nil)⟩
/-- 65: piece, period, times -/
def round_fingers : Fn := ⟨3, 3, (.cons (.ex [] (.call 3 (.cons (.var 0) .nil))) (.cons (.ex [] (.call 57 (.cons (.var 0) (.cons (.var 1) .nil)))) (.cons (.ex [] (.call 58 (.cons (.var 2) .nil))) (.cons (.ret (.call 63 (.cons (.call 59 (.cons (.var 0) (.cons (.var 1) (.cons (.bi .min (.cons (.var 2) (.cons (.call 64 (.cons (.var 0) (.cons (.var 1) .nil))) .nil))) .nil)))) .nil))) .nil))))⟩
/-- 66: piece, period -/
def possible_periods : Fn := ⟨1, 2, (.cons (.ex [] (.call 3 (.cons (.var 0) .nil))) (.cons (.ret (.comp [1] (.nm 1) (.rng2 (.cst (.int 1)) (.op .add (.cst (.int 60)) (.cst (.int 1)))) (.call 56 (.cons (.var 0) (.cons (.var 1) .nil))) (.var 1))) .nil))⟩
/-- 67: _law_piece_so, _law_period, _law_times, _law_found, _law_turn, _law_key, _law_begin, _law_end -/
def l_in_rounds : Fn := ⟨3, 8, (.cons (.set [] .val 3 (.lst .nil)) (.cons (.fr [] [4] (.nm 4) (.rng1 (.var 2)) (.cons (.set [] .val 3 (.op .add (.var 3) (.comp [5, 6, 7] (.tp (.cons (.nm 5) (.cons (.nm 6) (.cons (.nm 7) .nil)))) (.seq (.var 0)) (.cst (.bool true)) (.tup (.cons (.var 5) (.cons (.op .add (.var 6) (.op .mul (.var 4) (.var 1))) (.cons (.op .add (.var 7) (.op .mul (.var 4) (.var 1))) .nil))))))) .nil)) (.cons (.ret (.bi .sorted (.cons (.var 3) .nil))) .nil)))⟩
/-- 68: _law_notes_so, _law_one, _law_two -/
def l_clash : Fn := ⟨1, 3, (.cons (.fr [] [1, 2] (.tp (.cons (.nm 1) (.cons (.nm 2) .nil))) (.zip (.var 0) (.slc (.var 0) true false (.cst (.int 1)) (.cst .none))) (.cons (.iff [] (.and (.cmp .eq (.idx (.var 1) (.cst (.int 0))) (.idx (.var 2) (.cst (.int 0)))) (.or (.cmp .gt (.idx (.var 1) (.cst (.int 2))) (.idx (.var 2) (.cst (.int 1)))) (.cmp .eq (.idx (.var 1) (.cst (.int 1))) (.idx (.var 2) (.cst (.int 1)))))) (.cons (.ret (.cst (.bool true))) .nil) .nil) .nil)) (.cons (.ret (.cst (.bool false))) .nil))⟩
/-- 72: _law_notes_so, _law_marks_here, _law_found, _law_key, _law_begin, _law_end, _law_inside, _law_mark -/
def l_held : Fn := ⟨1, 8, (.cons (.par [] [(.val, 1), (.own, 2)] (.cons (.call 71 (.cons (.var 0) .nil)) (.cons (.lst .nil) .nil))) (.cons (.fr [] [3, 4, 5, 6] (.tp (.cons (.nm 3) (.cons (.nm 4) (.cons (.nm 5) .nil)))) (.seq (.var 0)) (.cons (.set [] .val 6 (.comp [7] (.nm 7) (.seq (.var 1)) (.chain .le .lt (.var 4) (.var 7) (.var 5)) (.var 7))) (.cons (.app [] 2 (.tup (.cons (.var 3) (.cons (.var 4) (.cons (.op .add (.cst (.int 1)) (.bi .max (.cons (.op .add (.lst (.cons (.var 4) .nil)) (.var 6)) .nil))) .nil))))) .nil))) (.cons (.ret (.var 2)) .nil)))⟩
/-- 73: _law_rows, _law_one, _law_begin, _law_end, _law_key, _law_low, _law_off -/
def l_full : Fn := ⟨1, 7, (.cons (.ret (.bi .max (.cons (.op .add (.lst (.cons (.cst (.int 0)) .nil)) (.comp [1, 2, 3] (.tp (.cons (.nm 1) (.cons (.nm 2) (.cons (.nm 3) .nil)))) (.seq (.var 0)) (.cst (.bool true)) (.bi .len (.cons (.comp [4, 5, 6] (.tp (.cons (.nm 4) (.cons (.nm 5) (.cons (.nm 6) .nil)))) (.seq (.var 0)) (.chain .le .lt (.var 5) (.var 2) (.var 6)) (.cst (.int 1))) .nil)))) .nil))) .nil)⟩
/-- 74: _law_source_here, _law_piece_so, _law_period, _law_last, _law_key, _law_begin, _law_end -/
def l_round_piece : Fn := ⟨1, 7, (.cons (.set [] .val 1 (.call 40 (.cons (.var 0) (.cons (.cst (.int 6)) (.cons (.cst (.int 12)) .nil))))) (.cons (.set [] .val 2 (.op .add (.cst (.int 1)) (.call 34 (.cons (.var 0) (.cons (.idx (.lst (.cons (.cst (.int 16)) (.cons (.cst (.int 60)) .nil))) (.call 34 (.cons (.var 0) (.cons (.cst (.int 2)) .nil)))) .nil))))) (.cons (.set [] .val 3 (.bi .max (.cons (.op .add (.lst (.cons (.cst (.int 1)) .nil)) (.comp [4, 5, 6] (.tp (.cons (.nm 4) (.cons (.nm 5) (.cons (.nm 6) .nil)))) (.seq (.var 1)) (.cst (.bool true)) (.var 6))) .nil))) (.cons (.ret (.tup (.cons (.var 1) (.cons (.idx (.lst (.cons (.var 2) (.cons (.var 3) (.cons (.bi .min (.cons (.cst (.int 60)) (.cons (.op .add (.op .add (.var 3) (.cst (.int 1))) (.call 34 (.cons (.var 0) (.cons (.cst (.int 3)) .nil)))) .nil))) .nil)))) (.call 34 (.cons (.var 0) (.cons (.cst (.int 3)) .nil)))) .nil)))) .nil))))⟩
/-- 76: value -/
def require_count : Fn := ⟨1, 1, (.cons (.iff [] (.not (.call 0 (.cons (.var 0) (.cons (.cst (.int 1)) (.cons (.cst (.int 40)) .nil))))) (.cons .never .nil) .nil) .nil)⟩
/-- 77: piece, marks, one, other -/
def stretches : Fn := ⟨1, 4, (.cons (.set [] .val 1 (.op .add (.op .add (.lst (.cons (.neg (.cst (.int 1))) .nil)) (.call 6 (.cons (.var 0) .nil))) (.lst (.cons (.cst (.int 60)) .nil)))) (.cons (.ret (.comp [2, 3] (.tp (.cons (.nm 2) (.cons (.nm 3) .nil))) (.zip (.var 1) (.slc (.var 1) true false (.cst (.int 1)) (.cst .none))) (.cmp .lt (.op .add (.var 2) (.cst (.int 1))) (.var 3)) (.tup (.cons (.op .add (.var 2) (.cst (.int 1))) (.cons (.var 3) .nil))))) .nil))⟩
/-- 78: piece, count, found, first, end, beat -/
def full_stretches : Fn := ⟨2, 6, (.cons (.set [] .own 2 (.lst .nil)) (.cons (.fr [] [3, 4] (.tp (.cons (.nm 3) (.cons (.nm 4) .nil))) (.seq (.call 77 (.cons (.var 0) .nil))) (.cons (.iff [] (.cmp .gt (.bi .max (.cons (.comp [5] (.nm 5) (.rng2 (.var 3) (.var 4)) (.cst (.bool true)) (.bi .len (.cons (.call 4 (.cons (.var 0) (.cons (.var 5) .nil))) .nil))) .nil)) (.var 1)) (.cons (.app [] 2 (.tup (.cons (.var 3) (.cons (.var 4) .nil)))) .nil) .nil) .nil)) (.cons (.ret (.var 2)) .nil)))⟩
/-- 79: piece, count -/
def fewest_pressings : Fn := ⟨2, 2, (.cons (.ex [] (.call 3 (.cons (.var 0) .nil))) (.cons (.ex [] (.call 76 (.cons (.var 1) .nil))) (.cons (.ret (.ite (.cmp .le (.call 21 (.cons (.var 0) .nil)) (.var 1)) (.bi .len (.cons (.call 78 (.cons (.var 0) (.cons (.var 1) .nil))) .nil)) (.cst .none))) .nil)))⟩
/-- 80: notes, count, changes, sounding, found, is_full, beat, key, begin, end -/
def pressings_in : Fn := ⟨2, 10, (.cons (.par [] [(.val, 2), (.val, 3)] (.cons (.call 60 (.cons (.var 0) .nil)) (.cons (.call 61 (.cons (.comp [7, 8, 9] (.tp (.cons (.nm 7) (.cons (.nm 8) (.cons (.nm 9) .nil)))) (.seq (.var 0)) (.cst (.bool true)) (.tup (.cons (.var 8) (.cons (.var 9) .nil)))) .nil)) .nil))) (.cons (.unp [] (.tp (.cons (.nm 4) (.cons (.nm 5) .nil))) (.tup (.cons (.cst (.int 0)) (.cons (.cst (.bool false)) .nil)))) (.cons (.fr [] [6] (.nm 6) (.rng1 (.op .add (.bi .max (.cons (.op .add (.lst (.cons (.cst (.int 0)) .nil)) (.comp [7, 8, 9] (.tp (.cons (.nm 7) (.cons (.nm 8) (.cons (.nm 9) .nil)))) (.seq (.var 0)) (.cst (.bool true)) (.var 9))) .nil)) (.cst (.int 1)))) (.cons (.iff [] (.cmp .mem (.var 6) (.var 2)) (.cons (.set [] .val 5 (.cst (.bool false))) .nil) (.cons (.iff [] (.and (.cmp .gt (.dget (.var 3) (.var 6) (.cst (.int 0))) (.var 1)) (.not (.var 5))) (.cons (.par [] [(.val, 4), (.val, 5)] (.cons (.op .add (.var 4) (.cst (.int 1))) (.cons (.cst (.bool true)) .nil))) .nil) .nil) .nil)) .nil)) (.cons (.ret (.var 4)) .nil))))⟩
/-- 81: piece, period, count, times, many, notes, first -/
def round_pressings : Fn := ⟨4, 7, (.cons (.ex [] (.call 3 (.cons (.var 0) .nil))) (.cons (.ex [] (.call 57 (.cons (.var 0) (.cons (.var 1) .nil)))) (.cons (.ex [] (.call 76 (.cons (.var 2) .nil))) (.cons (.ex [] (.call 58 (.cons (.var 3) .nil))) (.cons (.set [] .val 4 (.bi .min (.cons (.var 3) (.cons (.call 64 (.cons (.var 0) (.cons (.var 1) .nil))) .nil)))) (.cons (.set [] .val 5 (.call 59 (.cons (.var 0) (.cons (.var 1) (.cons (.var 4) .nil))))) (.cons (.iff [] (.cmp .gt (.call 63 (.cons (.var 5) .nil)) (.var 2)) (.cons (.ret (.cst .none)) .nil) .nil) (.cons (.set [] .val 6 (.call 80 (.cons (.var 5) (.cons (.var 2) .nil)))) (.cons (.ret (.op .add (.var 6) (.op .mul (.op .sub (.var 3) (.var 4)) (.op .sub (.call 80 (.cons (.call 59 (.cons (.var 0) (.cons (.var 1) (.cons (.op .add (.var 4) (.cst (.int 1))) .nil)))) (.cons (.var 2) .nil))) (.var 6))))) .nil)))))))))⟩
/-- 82: _law_notes_so, _law_count, _law_marks_here, _law_found, _law_full_so, _law_beat, _law_many, _law_key, _law_begin, _law_end -/
def l_presses : Fn := ⟨2, 10, (.cons (.iff [] (.cmp .gt (.call 73 (.cons (.call 72 (.cons (.var 0) .nil)) .nil)) (.var 1)) (.cons (.ret (.cst .none)) .nil) .nil) (.cons (.par [] [(.val, 2), (.val, 3), (.val, 4)] (.cons (.call 71 (.cons (.var 0) .nil)) (.cons (.cst (.int 0)) (.cons (.cst (.bool false)) .nil)))) (.cons (.fr [] [5, 6] (.nm 5) (.rng1 (.bi .max (.cons (.op .add (.lst (.cons (.cst (.int 0)) .nil)) (.comp [7, 8, 9] (.tp (.cons (.nm 7) (.cons (.nm 8) (.cons (.nm 9) .nil)))) (.seq (.var 0)) (.cst (.bool true)) (.var 9))) .nil))) (.cons (.iff [] (.cmp .mem (.var 5) (.var 2)) (.cons (.set [] .val 4 (.cst (.bool false))) .nil) (.cons (.iff [] (.not (.var 4)) (.cons (.set [] .val 6 (.bi .len (.cons (.comp [7, 8, 9] (.tp (.cons (.nm 7) (.cons (.nm 8) (.cons (.nm 9) .nil)))) (.seq (.var 0)) (.chain .le .lt (.var 8) (.var 5) (.var 9)) (.cst (.int 1))) .nil))) (.cons (.iff [] (.cmp .gt (.var 6) (.var 1)) (.cons (.par [] [(.val, 3), (.val, 4)] (.cons (.op .add (.var 3) (.cst (.int 1))) (.cons (.cst (.bool true)) .nil))) .nil) .nil) .nil)) .nil) .nil)) .nil)) (.cons (.ret (.var 3)) .nil))))⟩
/-- 84: first, second, shift, moved, key, begin, end -/
def joined : Fn := ⟨2, 7, (.cons (.ex [] (.call 3 (.cons (.var 0) .nil))) (.cons (.ex [] (.call 3 (.cons (.var 1) .nil))) (.cons (.set [] .val 2 (.call 55 (.cons (.var 0) .nil))) (.cons (.iff [] (.or (.cmp .gt (.op .add (.var 2) (.call 55 (.cons (.var 1) .nil))) (.cst (.int 60))) (.cmp .gt (.op .add (.bi .len (.cons (.var 0) .nil)) (.bi .len (.cons (.var 1) .nil))) (.cst (.int 40)))) (.cons .never .nil) .nil) (.cons (.set [] .val 3 (.comp [4, 5, 6] (.tp (.cons (.nm 4) (.cons (.nm 5) (.cons (.nm 6) .nil)))) (.seq (.var 1)) (.cst (.bool true)) (.tup (.cons (.var 4) (.cons (.op .add (.var 5) (.var 2)) (.cons (.op .add (.var 6) (.var 2)) .nil)))))) (.cons (.ret (.bi .tuple (.cons (.bi .sorted (.cons (.op .add (.bi .list (.cons (.var 0) .nil)) (.var 3)) .nil)) .nil))) .nil))))))⟩
/-- 86: _law_piece_so, _law_last, _law_pedals, _law_rows, _law_beat, _law_key, _law_begin, _law_end, _law_found, _law_pedal_so, _law_longer, _law_row_so, _law_ends, _law_at, _law_off, _law_again, _law_moment_so, _law_one, _law_low, _law_high, _law_stroke_so -/
def l_all : Fn := ⟨2, 21, (.cons (.par [] [(.val, 2), (.val, 3)] (.cons (.lst (.cons (.tup .nil) .nil)) (.cons (.lst (.cons (.tup .nil) .nil)) .nil))) (.cons (.fr [] [4] (.nm 4) (.rng1 (.var 1)) (.cons (.set [] .val 2 (.op .add (.var 2) (.comp [9] (.nm 9) (.seq (.var 2)) (.cst (.bool true)) (.op .add (.var 9) (.tup (.cons (.var 4) .nil)))))) .nil)) (.cons (.fr [] [5, 6, 7, 10, 11] (.tp (.cons (.nm 5) (.cons (.nm 6) (.cons (.nm 7) .nil)))) (.seq (.var 0)) (.cons (.set [] .val 10 (.lst .nil)) (.cons (.fr [] [11] (.nm 11) (.seq (.var 3)) (.cons (.set [] .val 10 (.op .add (.var 10) (.comp [14] (.nm 14) (.rng2 (.op .add (.var 6) (.cst (.int 1))) (.op .add (.var 7) (.cst (.int 1)))) (.cst (.bool true)) (.op .add (.var 11) (.tup (.cons (.tup (.cons (.var 5) (.cons (.var 6) (.cons (.var 14) .nil)))) .nil)))))) .nil)) (.cons (.set [] .val 3 (.var 10)) .nil)))) (.cons (.set [] .own 8 (.lst .nil)) (.cons (.fr [] [5, 6, 7, 9, 11, 12, 14, 15, 16] (.nm 9) (.seq (.var 2)) (.cons (.set [] .own 12 (.dnew true)) (.cons (.fr [] [5, 6, 7, 14, 15, 16] (.tp (.cons (.nm 13) (.cons (.tp (.cons (.nm 5) (.cons (.nm 6) (.cons (.nm 7) .nil)))) .nil))) (.enu (.var 0)) (.cons (.fr [] [14, 15, 16] (.nm 14) (.rng2 (.op .add (.var 6) (.cst (.int 1))) (.op .add (.var 7) (.cst (.int 1)))) (.cons (.set [] .val 15 (.comp [17, 18, 19] (.tp (.cons (.nm 17) (.cons (.nm 18) (.cons (.nm 19) .nil)))) (.seq (.var 0)) (.and (.cmp .eq (.var 17) (.var 5)) (.cmp .ge (.var 18) (.var 14))) (.var 18))) (.cons (.set [] .val 16 (.var 14)) (.cons (.wh [] [] (.and (.cmp .mem (.var 16) (.var 9)) (.cmp .nmem (.var 16) (.var 15))) (.cons (.set [] .val 16 (.op .add (.var 16) (.cst (.int 1)))) .nil)) (.cons (.dput [] 12 (.tup (.cons (.var 13) (.cons (.var 14) .nil))) (.var 16)) .nil))))) .nil)) (.cons (.fr [] [11] (.nm 11) (.seq (.var 3)) (.cons (.iff [12] (.cmp .eq (.comp [13, 20] (.tp (.cons (.nm 13) (.cons (.nm 20) .nil))) (.enu (.var 11)) (.cmp .ne (.idx (.var 12) (.tup (.cons (.var 13) (.cons (.idx (.var 20) (.cst (.int 2))) .nil)))) (.idx (.idx (.var 0) (.var 13)) (.cst (.int 2)))) (.cst (.int 1))) (.lst .nil)) (.cons (.app [] 8 (.tup (.cons (.var 9) (.cons (.var 11) .nil)))) .nil) .nil) .nil)) .nil)))) (.cons (.ret (.var 8)) .nil))))))⟩
/-- 88: piece, pedal, beat -/
def fingers_with : Fn := ⟨2, 3, (.cons (.ex [] (.call 3 (.cons (.var 0) .nil))) (.cons (.ex [] (.call 11 (.cons (.var 1) .nil))) (.cons (.iff [] (.cmp .is_ (.call 27 (.cons (.var 0) (.cons (.var 1) .nil))) (.cst .none)) (.cons (.ret (.cst .none)) .nil) .nil) (.cons (.ret (.call 15 (.cons (.call 20 (.cons (.var 0) (.cons (.comp [2] (.nm 2) (.rng1 (.cst (.int 60))) (.cmp .nmem (.var 2) (.var 1)) (.var 2)) .nil))) .nil))) .nil))))⟩
/-- 89: _law_piece_so, _law_ups_so, _law_found, _law_key, _law_begin, _law_end, _law_off, _law_beat -/
def l_offs : Fn := ⟨2, 8, (.cons (.set [] .own 2 (.lst .nil)) (.cons (.fr [] [3, 4, 5, 6, 7] (.tp (.cons (.nm 3) (.cons (.nm 4) (.cons (.nm 5) .nil)))) (.seq (.var 0)) (.cons (.set [] .val 6 (.op .add (.var 4) (.cst (.int 1)))) (.cons (.fr [] [7] (.nm 7) (.rng2 (.var 4) (.var 5)) (.cons (.iff [] (.cmp .mem (.var 7) (.var 1)) (.cons (.set [] .val 6 (.op .add (.var 7) (.cst (.int 1)))) .nil) .nil) .nil)) (.cons (.app [] 2 (.var 6)) .nil)))) (.cons (.ret (.var 2)) .nil)))⟩
/-- 90: _law_piece_so, _law_ups_so, _law_offs_here, _law_note_so, _law_off -/
def l_short : Fn := ⟨2, 5, (.cons (.set [] .val 2 (.call 89 (.cons (.var 0) (.cons (.var 1) .nil)))) (.cons (.ret (.bi .tuple (.cons (.comp [3, 4] (.tp (.cons (.nm 3) (.cons (.nm 4) .nil))) (.zip (.var 0) (.var 2)) (.cst (.bool true)) (.tup (.cons (.idx (.var 3) (.cst (.int 0))) (.cons (.idx (.var 3) (.cst (.int 1))) (.cons (.var 4) .nil))))) .nil))) .nil))⟩
/-- 92: piece -/
def shortest_strokes : Fn := ⟨1, 1, (.cons (.ret (.call 20 (.cons (.var 0) (.cons (.call 6 (.cons (.var 0) .nil)) .nil)))) .nil)⟩
/-- 93: piece, left, right, strokes, found, last, low, high, stroke -/
def splits_of : Fn := ⟨3, 9, (.cons (.par [] [(.val, 3), (.own, 4)] (.cons (.call 92 (.cons (.var 0) .nil)) (.cons (.lst .nil) .nil))) (.cons (.fr [] [5, 6, 7] (.nm 5) (.rng1 (.op .add (.cst (.int 88)) (.cst (.int 1)))) (.cons (.set [] .val 6 (.comp [8] (.nm 8) (.seq (.var 3)) (.cmp .le (.idx (.var 8) (.cst (.int 0))) (.var 5)) (.var 8))) (.cons (.set [] .val 7 (.comp [8] (.nm 8) (.seq (.var 3)) (.cmp .gt (.idx (.var 8) (.cst (.int 0))) (.var 5)) (.var 8))) (.cons (.iff [] (.and (.cmp .le (.call 15 (.cons (.var 6) .nil)) (.var 1)) (.cmp .le (.call 15 (.cons (.var 7) .nil)) (.var 2))) (.cons (.app [] 4 (.var 5)) .nil) .nil) .nil)))) (.cons (.ret (.var 4)) .nil)))⟩
/-- 94: piece, left, right -/
def splits : Fn := ⟨3, 3, (.cons (.ex [] (.call 3 (.cons (.var 0) .nil))) (.cons (.ex [] (.call 76 (.cons (.var 1) .nil))) (.cons (.ex [] (.call 76 (.cons (.var 2) .nil))) (.cons (.ret (.call 93 (.cons (.var 0) (.cons (.var 1) (.cons (.var 2) .nil))))) .nil))))⟩
/-- 95: piece, count -/
def fewest_each : Fn := ⟨1, 2, (.cons (.ex [] (.call 3 (.cons (.var 0) .nil))) (.cons (.set [] .val 1 (.cst (.int 1))) (.cons (.wh [] [] (.cmp .eq (.call 93 (.cons (.var 0) (.cons (.var 1) (.cons (.var 1) .nil)))) (.lst .nil)) (.cons (.set [] .val 1 (.op .add (.var 1) (.cst (.int 1)))) .nil)) (.cons (.ret (.var 1)) .nil))))⟩
/-- 98: piece, strokes, found, key, begin, off, lower, at, name, first, last -/
def finger_numbers : Fn := ⟨1, 11, (.cons (.ex [] (.call 3 (.cons (.var 0) .nil))) (.cons (.par [] [(.val, 1), (.own, 2)] (.cons (.call 92 (.cons (.var 0) .nil)) (.cons (.lst .nil) .nil))) (.cons (.fr [] [3, 4, 5, 6] (.tp (.cons (.nm 3) (.cons (.nm 4) (.cons (.nm 5) .nil)))) (.seq (.var 1)) (.cons (.set [2] .val 6 (.comp [7, 8, 9, 10] (.tp (.cons (.nm 7) (.cons (.tp (.cons (.nm 8) (.cons (.nm 9) (.cons (.nm 10) .nil)))) .nil))) (.enu (.slc (.var 1) false true (.cst .none) (.bi .len (.cons (.var 2) .nil)))) (.and (.cmp .lt (.var 8) (.var 3)) (.and (.cmp .lt (.var 9) (.var 5)) (.cmp .lt (.var 4) (.var 10)))) (.op .add (.cst (.int 1)) (.idx (.var 2) (.var 7))))) (.cons (.app [] 2 (.bi .max (.cons (.op .add (.lst (.cons (.cst (.int 1)) .nil)) (.var 6)) .nil))) .nil))) (.cons (.ret (.bi .tuple (.cons (.var 2) .nil))) .nil))))⟩
/-- 99: piece -/
def fewest_ordered : Fn := ⟨1, 1, (.cons (.ret (.bi .max (.cons (.op .add (.tup (.cons (.cst (.int 0)) .nil)) (.call 98 (.cons (.var 0) .nil))) .nil))) .nil)⟩
/-- 100: _law_one, _law_two -/
def l_meets : Fn := ⟨2, 2, (.cons (.ret (.and (.cmp .lt (.idx (.var 0) (.cst (.int 1))) (.idx (.var 1) (.cst (.int 2)))) (.cmp .lt (.idx (.var 1) (.cst (.int 1))) (.idx (.var 0) (.cst (.int 2)))))) .nil)⟩
/-- 101: _law_strokes_so, _law_at, _law_best, _law_to, _law_other -/
def l_number : Fn := ⟨2, 5, (.cons (.set [] .val 2 (.cst (.int 0))) (.cons (.fr [] [3, 4] (.tp (.cons (.nm 3) (.cons (.nm 4) .nil))) (.enu (.var 0)) (.cons (.iff [] (.and (.cmp .lt (.idx (.var 4) (.cst (.int 0))) (.idx (.idx (.var 0) (.var 1)) (.cst (.int 0)))) (.call 100 (.cons (.var 4) (.cons (.idx (.var 0) (.var 1)) .nil)))) (.cons (.set [] .val 2 (.bi .max (.cons (.var 2) (.cons (.call 101 (.cons (.var 0) (.cons (.var 3) .nil))) .nil)))) .nil) .nil) .nil)) (.cons (.ret (.op .add (.var 2) (.cst (.int 1)))) .nil)))⟩
/-- 103: _law_row_so, _law_numbers_here, _law_at, _law_one, _law_to, _law_two -/
def l_is_ordered : Fn := ⟨2, 6, (.cons (.fr [] [2, 3, 4, 5] (.tp (.cons (.nm 2) (.cons (.nm 3) .nil))) (.enu (.var 0)) (.cons (.fr [] [4, 5] (.tp (.cons (.nm 4) (.cons (.nm 5) .nil))) (.enu (.var 0)) (.cons (.iff [] (.and (.cmp .lt (.idx (.var 3) (.cst (.int 0))) (.idx (.var 5) (.cst (.int 0)))) (.and (.cmp .lt (.idx (.var 3) (.cst (.int 1))) (.idx (.var 5) (.cst (.int 2)))) (.and (.cmp .lt (.idx (.var 5) (.cst (.int 1))) (.idx (.var 3) (.cst (.int 2)))) (.not (.cmp .lt (.idx (.var 1) (.var 2)) (.idx (.var 1) (.var 4))))))) (.cons (.ret (.cst (.bool false))) .nil) .nil) .nil)) .nil)) (.cons (.ret (.cst (.bool true))) .nil))⟩
/-- 104: _law_many, _law_most, _law_found, _law_turn, _law_longer, _law_row_so, _law_number -/
def l_numbers : Fn := ⟨2, 7, (.cons (.set [] .val 2 (.lst (.cons (.tup .nil) .nil))) (.cons (.fr [] [3, 4, 5] (.nm 3) (.rng1 (.var 0)) (.cons (.set [] .val 4 (.lst .nil)) (.cons (.fr [] [5] (.nm 5) (.seq (.var 2)) (.cons (.set [] .val 4 (.op .add (.var 4) (.comp [6] (.nm 6) (.rng2 (.cst (.int 1)) (.op .add (.var 1) (.cst (.int 1)))) (.cst (.bool true)) (.op .add (.var 5) (.tup (.cons (.var 6) .nil)))))) .nil)) (.cons (.set [] .val 2 (.var 4)) .nil)))) (.cons (.ret (.var 2)) .nil)))⟩
/-- 107: piece, delay, key, begin, end -/
def notes_later : Fn := ⟨2, 5, (.cons (.ret (.comp [2, 3, 4] (.tp (.cons (.nm 2) (.cons (.nm 3) (.cons (.nm 4) .nil)))) (.seq (.var 0)) (.cst (.bool true)) (.tup (.cons (.var 2) (.cons (.op .add (.var 3) (.var 1)) (.cons (.op .add (.var 4) (.var 1)) .nil)))))) .nil)⟩
/-- 108: notes, count, piece -/
def can_be : Fn := ⟨2, 3, (.cons (.set [] .val 2 (.bi .tuple (.cons (.bi .sorted (.cons (.var 0) .nil)) .nil))) (.cons (.ret (.and (.call 2 (.cons (.var 2) .nil)) (.cmp .le (.call 21 (.cons (.var 2) .nil)) (.var 1)))) .nil))⟩
/-- 109: piece, voices, count, found, delay, voice, note -/
def canon_delays : Fn := ⟨3, 7, (.cons (.ex [] (.call 3 (.cons (.var 0) .nil))) (.cons (.iff [] (.not (.call 0 (.cons (.var 1) (.cons (.cst (.int 2)) (.cons (.cst (.int 4)) .nil))))) (.cons .never .nil) .nil) (.cons (.ex [] (.call 76 (.cons (.var 2) .nil))) (.cons (.set [] .own 3 (.lst .nil)) (.cons (.fr [] [4] (.nm 4) (.rng2 (.cst (.int 1)) (.op .add (.cst (.int 60)) (.cst (.int 1)))) (.cons (.iff [] (.call 108 (.cons (.comp2 [5, 6] [6] (.nm 5) (.rng1 (.var 1)) (.nm 6) (.seq (.call 107 (.cons (.var 0) (.cons (.op .mul (.var 5) (.var 4)) .nil)))) (.cst (.bool true)) (.var 6)) (.cons (.var 2) .nil))) (.cons (.app [] 3 (.var 4)) .nil) .nil) .nil)) (.cons (.ret (.var 3)) .nil))))))⟩
/-- 111: _law_piece_so, _law_last, _law_ups, _law_pedals, _law_found, _law_beat, _law_pedal_so, _law_short_here, _law_number, _law_runs, _law_key, _law_low, _law_off -/
def l_table : Fn := ⟨2, 13, (.cons (.par [] [(.val, 2), (.val, 3), (.own, 4)] (.cons (.call 48 (.cons (.var 0) .nil)) (.cons (.lst (.cons (.tup .nil) .nil)) (.cons (.dnew false) .nil)))) (.cons (.fr [] [] (.nm 5) (.rng1 (.var 1)) (.cons (.iff [] (.cmp .nmem (.var 5) (.var 2)) (.cons (.set [] .val 3 (.op .add (.var 3) (.comp [6] (.nm 6) (.seq (.var 3)) (.cst (.bool true)) (.op .add (.var 6) (.tup (.cons (.var 5) .nil)))))) .nil) .nil) .nil)) (.cons (.fr [] [6, 7, 8, 9] (.nm 6) (.seq (.var 3)) (.cons (.set [] .val 7 (.call 90 (.cons (.var 0) (.cons (.comp [5] (.nm 5) (.rng1 (.var 1)) (.cmp .nmem (.var 5) (.var 6)) (.var 5)) .nil)))) (.cons (.set [] .val 8 (.bi .max (.cons (.op .add (.lst (.cons (.cst (.int 0)) .nil)) (.comp [5] (.nm 5) (.rng1 (.var 1)) (.cst (.bool true)) (.bi .len (.cons (.comp [10, 11, 12] (.tp (.cons (.nm 10) (.cons (.nm 11) (.cons (.nm 12) .nil)))) (.seq (.var 7)) (.chain .le .lt (.var 11) (.var 5) (.var 12)) (.cst (.int 1))) .nil)))) .nil))) (.cons (.set [] .val 9 (.bi .len (.cons (.comp [5] (.nm 5) (.seq (.var 6)) (.cmp .nmem (.op .sub (.var 5) (.cst (.int 1))) (.var 6)) (.var 5)) .nil))) (.cons (.dput [4] 4 (.var 8) (.bi .min (.cons (.dget (.var 4) (.var 8) (.cst (.int 99))) (.cons (.var 9) .nil)))) .nil))))) (.cons (.ret (.var 4)) .nil))))⟩
/-- 114: piece, count, rows, pedal, first, end, beat -/
def performance : Fn := ⟨2, 7, (.cons (.ex [] (.call 3 (.cons (.var 0) .nil))) (.cons (.ex [] (.call 76 (.cons (.var 1) .nil))) (.cons (.iff [] (.cmp .gt (.call 21 (.cons (.var 0) .nil)) (.var 1)) (.cons .never .nil) .nil) (.cons (.set [] .val 2 (.call 78 (.cons (.var 0) (.cons (.var 1) .nil)))) (.cons (.set [] .val 3 (.bi .tuple (.cons (.comp2 [4, 5, 6] [6] (.tp (.cons (.nm 4) (.cons (.nm 5) .nil))) (.seq (.var 2)) (.nm 6) (.rng2 (.var 4) (.var 5)) (.cst (.bool true)) (.var 6)) .nil))) (.cons (.ret (.tup (.cons (.var 3) (.cons (.call 20 (.cons (.var 0) (.cons (.comp [6] (.nm 6) (.rng1 (.cst (.int 60))) (.cmp .nmem (.var 6) (.var 3)) (.var 6)) .nil))) .nil)))) .nil))))))⟩
/-- 115: _law_piece_so, _law_count, _law_found, _law_full, _law_ups, _law_beat, _law_key, _law_begin, _law_end -/
def l_needed : Fn := ⟨2, 9, (.cons (.par [] [(.val, 2), (.val, 3), (.val, 4)] (.cons (.cst (.int 0)) (.cons (.cst (.bool false)) (.cons (.call 48 (.cons (.var 0) .nil)) .nil)))) (.cons (.fr [] [5] (.nm 5) (.rng1 (.cst (.int 61))) (.cons (.iff [] (.or (.cmp .eq (.var 5) (.cst (.int 60))) (.cmp .mem (.var 5) (.var 4))) (.cons (.par [] [(.val, 2), (.val, 3)] (.cons (.op .add (.var 2) (.bi .int (.cons (.var 3) .nil))) (.cons (.cst (.bool false)) .nil))) .nil) (.cons (.iff [] (.cmp .gt (.bi .len (.cons (.comp [6, 7, 8] (.tp (.cons (.nm 6) (.cons (.nm 7) (.cons (.nm 8) .nil)))) (.seq (.var 0)) (.chain .le .lt (.var 7) (.var 5) (.var 8)) (.cst (.int 1))) .nil)) (.var 1)) (.cons (.set [] .val 3 (.cst (.bool true))) .nil) .nil) .nil)) .nil)) (.cons (.ret (.var 2)) .nil)))⟩
/-- 117: piece, count -/
def require_enough : Fn := ⟨2, 2, (.cons (.iff [] (.cmp .gt (.call 21 (.cons (.var 0) .nil)) (.var 1)) (.cons .never .nil) .nil) .nil)⟩
/-- 118: piece, count, ups, found, beat -/
def sure_down : Fn := ⟨2, 5, (.cons (.ex [] (.call 3 (.cons (.var 0) .nil))) (.cons (.ex [] (.call 76 (.cons (.var 1) .nil))) (.cons (.ex [] (.call 117 (.cons (.var 0) (.cons (.var 1) .nil)))) (.cons (.par [] [(.val, 2), (.own, 3)] (.cons (.call 6 (.cons (.var 0) .nil)) (.cons (.lst .nil) .nil))) (.cons (.fr [] [4] (.nm 4) (.rng1 (.cst (.int 60))) (.cons (.iff [] (.and (.cmp .nmem (.var 4) (.var 2)) (.cmp .gt (.call 15 (.cons (.call 20 (.cons (.var 0) (.cons (.op .add (.var 2) (.lst (.cons (.var 4) .nil))) .nil))) .nil)) (.var 1))) (.cons (.app [] 3 (.var 4)) .nil) .nil) .nil)) (.cons (.ret (.var 3)) .nil))))))⟩
/-- 119: _law_piece_so, _law_last, _law_count, _law_ups, _law_pedals, _law_sure_here, _law_beat, _law_pedal_so, _law_short_here, _law_number, _law_key, _law_low, _law_off -/
def l_sure : Fn := ⟨3, 13, (.cons (.par [] [(.val, 3), (.val, 4), (.val, 5)] (.cons (.call 48 (.cons (.var 0) .nil)) (.cons (.lst (.cons (.tup .nil) .nil)) (.cons (.lrg1 (.var 1)) .nil)))) (.cons (.fr [] [] (.nm 6) (.rng1 (.var 1)) (.cons (.iff [] (.cmp .nmem (.var 6) (.var 3)) (.cons (.set [] .val 4 (.op .add (.var 4) (.comp [7] (.nm 7) (.seq (.var 4)) (.cst (.bool true)) (.op .add (.var 7) (.tup (.cons (.var 6) .nil)))))) .nil) .nil) .nil)) (.cons (.fr [] [7, 8, 9] (.nm 7) (.seq (.var 4)) (.cons (.set [] .val 8 (.call 90 (.cons (.var 0) (.cons (.comp [6] (.nm 6) (.rng1 (.var 1)) (.cmp .nmem (.var 6) (.var 7)) (.var 6)) .nil)))) (.cons (.set [] .val 9 (.bi .max (.cons (.op .add (.lst (.cons (.cst (.int 0)) .nil)) (.comp [6] (.nm 6) (.rng1 (.var 1)) (.cst (.bool true)) (.bi .len (.cons (.comp [10, 11, 12] (.tp (.cons (.nm 10) (.cons (.nm 11) (.cons (.nm 12) .nil)))) (.seq (.var 8)) (.chain .le .lt (.var 11) (.var 6) (.var 12)) (.cst (.int 1))) .nil)))) .nil))) (.cons (.iff [] (.cmp .le (.var 9) (.var 2)) (.cons (.set [] .val 5 (.comp [6] (.nm 6) (.seq (.var 5)) (.cmp .mem (.var 6) (.var 7)) (.var 6))) .nil) .nil) .nil)))) (.cons (.ret (.var 5)) .nil))))⟩
/-- 121: piece, count, index, offs, rows, last, note, off, key, begin -/
def letting_go : Fn := ⟨3, 10, (.cons (.ex [] (.call 3 (.cons (.var 0) .nil))) (.cons (.ex [] (.call 76 (.cons (.var 1) .nil))) (.cons (.ex [] (.call 117 (.cons (.var 0) (.cons (.var 1) .nil)))) (.cons (.iff [] (.not (.call 0 (.cons (.var 2) (.cons (.cst (.int 0)) (.cons (.op .sub (.bi .len (.cons (.var 0) .nil)) (.cst (.int 1))) .nil))))) (.cons .never .nil) .nil) (.cons (.set [] .val 3 (.call 19 (.cons (.var 0) (.cons (.call 6 (.cons (.var 0) .nil)) .nil)))) (.cons (.set [] .val 4 (.comp [6, 7] (.tp (.cons (.nm 6) (.cons (.nm 7) .nil))) (.zip (.var 0) (.var 3)) (.cst (.bool true)) (.tup (.cons (.idx (.var 6) (.cst (.int 0))) (.cons (.idx (.var 6) (.cst (.int 1))) (.cons (.var 7) .nil)))))) (.cons (.set [] .val 5 (.idx (.var 3) (.var 2))) (.cons (.wh [] [] (.and (.cmp .lt (.var 5) (.idx (.idx (.var 0) (.var 2)) (.cst (.int 2)))) (.cmp .lt (.bi .len (.cons (.comp [8, 9, 7] (.tp (.cons (.nm 8) (.cons (.nm 9) (.cons (.nm 7) .nil)))) (.seq (.var 4)) (.chain .le .lt (.var 9) (.var 5) (.var 7)) (.cst (.int 1))) .nil)) (.var 1))) (.cons (.set [] .val 5 (.op .add (.var 5) (.cst (.int 1)))) .nil)) (.cons (.ret (.tup (.cons (.idx (.var 3) (.var 2)) (.cons (.var 5) .nil)))) .nil)))))))))⟩
/-- 122: _law_source_here, _law_piece_so, _law_few, _law_short_here, _law_count, _law_at, _law_key, _law_begin, _law_end, _law_first, _law_last, _law_rest -/
def l_long_right : Fn := ⟨1, 12, (.cons (.set [] .val 1 (.call 40 (.cons (.var 0) (.cons (.cst (.int 30)) (.cons (.cst (.int 60)) .nil))))) (.cons (.par [] [(.val, 2), (.val, 3)] (.cons (.bi .max (.cons (.cst (.int 1)) (.cons (.call 23 (.cons (.var 1) .nil)) .nil))) (.cons (.call 90 (.cons (.var 1) (.cons (.call 48 (.cons (.var 1) .nil)) .nil))) .nil))) (.cons (.fr [] [4, 5, 6, 7, 8, 9, 10, 11] (.nm 4) (.rng2 (.var 2) (.op .add (.var 2) (.cst (.int 3)))) (.cons (.fr [] [5, 6, 7, 8, 9, 10, 11] (.tp (.cons (.nm 5) (.cons (.tp (.cons (.nm 6) (.cons (.nm 7) (.cons (.nm 8) .nil)))) .nil))) (.enu (.var 1)) (.cons (.unp [] (.tp (.cons (.nm 9) (.cons (.nm 10) .nil))) (.call 121 (.cons (.var 1) (.cons (.var 4) (.cons (.var 5) .nil))))) (.cons (.set [] .val 11 (.op .add (.slc (.var 3) false true (.cst .none) (.var 5)) (.slc (.var 3) true false (.op .add (.var 5) (.cst (.int 1))) (.cst .none)))) (.cons (.iff [] (.or (.cmp .ne (.var 9) (.idx (.idx (.var 3) (.var 5)) (.cst (.int 2)))) (.not (.chain .le .le (.var 9) (.var 10) (.var 8)))) (.cons (.ret (.cst (.bool false))) .nil) .nil) (.cons (.iff [] (.cmp .gt (.call 47 (.cons (.op .add (.var 11) (.tup (.cons (.tup (.cons (.var 6) (.cons (.var 7) (.cons (.var 10) .nil)))) .nil))) .nil)) (.var 4)) (.cons (.ret (.cst (.bool false))) .nil) .nil) (.cons (.iff [] (.and (.cmp .lt (.var 10) (.var 8)) (.cmp .le (.call 47 (.cons (.op .add (.var 11) (.tup (.cons (.tup (.cons (.var 6) (.cons (.var 7) (.cons (.op .add (.var 10) (.cst (.int 1))) .nil)))) .nil))) .nil)) (.var 4))) (.cons (.ret (.cst (.bool false))) .nil) .nil) .nil)))))) .nil)) (.cons (.ret (.cst (.bool true))) .nil))))⟩
/-- 124: piece, found, key, begin, end, row, off -/
def all_strokes : Fn := ⟨1, 7, (.cons (.set [] .val 1 (.lst (.cons (.tup .nil) .nil))) (.cons (.fr [] [2, 3, 4] (.tp (.cons (.nm 2) (.cons (.nm 3) (.cons (.nm 4) .nil)))) (.seq (.var 0)) (.cons (.set [] .val 1 (.comp2 [5, 6] [6] (.nm 5) (.seq (.var 1)) (.nm 6) (.rng2 (.op .add (.var 3) (.cst (.int 1))) (.op .add (.var 4) (.cst (.int 1)))) (.cst (.bool true)) (.op .add (.var 5) (.tup (.cons (.tup (.cons (.var 2) (.cons (.var 3) (.cons (.var 6) .nil)))) .nil))))) .nil)) (.cons (.ret (.var 1)) .nil)))⟩
/-- 125: piece, count, pedals, beat, rows, row, pedal, key, begin, end -/
def count_performances : Fn := ⟨2, 10, (.cons (.ex [] (.call 3 (.cons (.var 0) .nil))) (.cons (.iff [] (.or (.cmp .gt (.bi .len (.cons (.var 0) .nil)) (.cst (.int 3))) (.cmp .gt (.bi .max (.cons (.op .add (.lst (.cons (.cst (.int 0)) .nil)) (.comp [7, 8, 9] (.tp (.cons (.nm 7) (.cons (.nm 8) (.cons (.nm 9) .nil)))) (.seq (.var 0)) (.cst (.bool true)) (.var 9))) .nil)) (.cst (.int 6)))) (.cons .never .nil) .nil) (.cons (.ex [] (.call 76 (.cons (.var 1) .nil))) (.cons (.set [] .val 2 (.lst (.cons (.tup .nil) .nil))) (.cons (.fr [] [3] (.nm 3) (.rng1 (.bi .max (.cons (.op .add (.lst (.cons (.cst (.int 0)) .nil)) (.comp [7, 8, 9] (.tp (.cons (.nm 7) (.cons (.nm 8) (.cons (.nm 9) .nil)))) (.seq (.var 0)) (.cst (.bool true)) (.var 9))) .nil))) (.cons (.set [] .val 2 (.op .add (.var 2) (.comp [6] (.nm 6) (.seq (.var 2)) (.cst (.bool true)) (.op .add (.var 6) (.tup (.cons (.var 3) .nil)))))) .nil)) (.cons (.set [] .val 4 (.comp [5] (.nm 5) (.seq (.call 124 (.cons (.var 0) .nil))) (.cmp .le (.call 15 (.cons (.var 5) .nil)) (.var 1)) (.var 5))) (.cons (.ret (.bi .sum (.cons (.comp [6] (.nm 6) (.seq (.var 2)) (.cst (.bool true)) (.bi .len (.cons (.comp [5] (.nm 5) (.seq (.var 4)) (.cmp .eq (.call 14 (.cons (.var 6) (.cons (.var 5) .nil))) (.var 0)) (.cst (.int 1))) .nil))) .nil))) .nil)))))))⟩
/-- 128: _law_source_here, _law_piece_so, _law_key, _law_begin, _law_end, _law_one, _law_low, _law_off -/
def l_more : Fn := ⟨2, 8, (.cons (.set [] .val 2 (.idx (.lst (.cons (.cst (.int 57)) (.cons (.idx (.idx (.op .add (.var 1) (.tup (.cons (.tup (.cons (.cst (.int 57)) (.cons (.cst (.int 0)) (.cons (.cst (.int 1)) .nil)))) .nil))) (.call 34 (.cons (.var 0) (.cons (.op .add (.bi .len (.cons (.var 1) .nil)) (.cst (.int 1))) .nil)))) (.cst (.int 0))) .nil))) (.call 34 (.cons (.var 0) (.cons (.cst (.int 2)) .nil))))) (.cons (.set [] .val 3 (.call 34 (.cons (.var 0) (.cons (.cst (.int 60)) .nil)))) (.cons (.set [] .val 4 (.bi .min (.cons (.cst (.int 60)) (.cons (.op .add (.op .add (.var 3) (.cst (.int 1))) (.call 34 (.cons (.var 0) (.cons (.idx (.lst (.cons (.cst (.int 4)) (.cons (.cst (.int 30)) .nil))) (.call 34 (.cons (.var 0) (.cons (.cst (.int 2)) .nil)))) .nil)))) .nil)))) (.cons (.iff [] (.cmp .ne (.comp [5, 6, 7] (.tp (.cons (.nm 5) (.cons (.nm 6) (.cons (.nm 7) .nil)))) (.seq (.var 1)) (.and (.cmp .eq (.var 5) (.var 2)) (.and (.cmp .lt (.var 6) (.var 4)) (.cmp .lt (.var 3) (.var 7)))) (.cst (.int 1))) (.lst .nil)) (.cons (.ret (.cst .none)) .nil) .nil) (.cons (.ret (.tup (.cons (.var 2) (.cons (.var 3) (.cons (.var 4) .nil))))) .nil)))))⟩
/-- 131: piece, last, key, begin, end -/
def backwards_of : Fn := ⟨1, 5, (.cons (.set [] .val 1 (.call 55 (.cons (.var 0) .nil))) (.cons (.ret (.bi .tuple (.cons (.bi .sorted (.cons (.comp [2, 3, 4] (.tp (.cons (.nm 2) (.cons (.nm 3) (.cons (.nm 4) .nil)))) (.seq (.var 0)) (.cst (.bool true)) (.tup (.cons (.var 2) (.cons (.op .sub (.var 1) (.var 4)) (.cons (.op .sub (.var 1) (.var 3)) .nil))))) .nil)) .nil))) .nil))⟩
/-- 132: piece -/
def backwards : Fn := ⟨1, 1, (.cons (.ex [] (.call 3 (.cons (.var 0) .nil))) (.cons (.ret (.call 131 (.cons (.var 0) .nil))) .nil))⟩
/-- 134: first, second, count, delay -/
def delays : Fn := ⟨3, 4, (.cons (.ex [] (.call 3 (.cons (.var 0) .nil))) (.cons (.ex [] (.call 3 (.cons (.var 1) .nil))) (.cons (.ex [] (.call 76 (.cons (.var 2) .nil))) (.cons (.ret (.comp [3] (.nm 3) (.rng1 (.op .add (.cst (.int 60)) (.cst (.int 1)))) (.call 108 (.cons (.op .add (.bi .list (.cons (.var 0) .nil)) (.call 107 (.cons (.var 1) (.cons (.var 3) .nil)))) (.cons (.var 2) .nil))) (.var 3))) .nil))))⟩
/-- 135: _law_piece_so -/
def l_fingers : Fn := ⟨1, 1, (.cons (.ret (.call 73 (.cons (.call 90 (.cons (.var 0) (.cons (.call 48 (.cons (.var 0) .nil)) .nil))) .nil))) .nil)⟩
/-- 136: _law_first, _law_second, _law_delay, _law_notes_so, _law_key, _law_begin, _law_end -/
def l_both : Fn := ⟨3, 7, (.cons (.set [] .val 3 (.bi .sorted (.cons (.op .add (.bi .list (.cons (.var 0) .nil)) (.comp [4, 5, 6] (.tp (.cons (.nm 4) (.cons (.nm 5) (.cons (.nm 6) .nil)))) (.seq (.var 1)) (.cst (.bool true)) (.tup (.cons (.var 4) (.cons (.op .add (.var 5) (.var 2)) (.cons (.op .add (.var 6) (.var 2)) .nil)))))) .nil))) (.cons (.iff [] (.or (.cmp .gt (.bi .len (.cons (.var 3) .nil)) (.cst (.int 40))) (.or (.cmp .ne (.comp [4, 5, 6] (.tp (.cons (.nm 4) (.cons (.nm 5) (.cons (.nm 6) .nil)))) (.seq (.var 3)) (.cmp .gt (.var 6) (.cst (.int 60))) (.cst (.int 1))) (.lst .nil)) (.call 68 (.cons (.var 3) .nil)))) (.cons (.ret (.cst .none)) .nil) .nil) (.cons (.ret (.bi .tuple (.cons (.var 3) .nil))) .nil)))⟩
/-- 139: _law_piece_so, _law_delay -/
def l_pair : Fn := ⟨2, 2, (.cons (.ret (.bi .tuple (.cons (.call 67 (.cons (.var 0) (.cons (.var 1) (.cons (.cst (.int 2)) .nil)))) .nil))) .nil)⟩
/-- 141: _law_source_here, _law_piece_so, _law_found, _law_key, _law_begin, _law_end -/
def l_strokes : Fn := ⟨2, 6, (.cons (.set [] .own 2 (.lst .nil)) (.cons (.fr [] [3, 4, 5] (.tp (.cons (.nm 3) (.cons (.nm 4) (.cons (.nm 5) .nil)))) (.seq (.var 1)) (.cons (.app [] 2 (.tup (.cons (.var 3) (.cons (.var 4) (.cons (.op .add (.op .add (.var 4) (.cst (.int 1))) (.call 34 (.cons (.var 0) (.cons (.op .sub (.var 5) (.var 4)) .nil)))) .nil))))) .nil)) (.cons (.ret (.bi .tuple (.cons (.var 2) .nil))) .nil)))⟩
/-- 142: _law_source_here, _law_piece_so, _law_strokes_so, _law_sure, _law_never, _law_free_so, _law_some, _law_pedal_so, _law_beat, _law_one -/
def l_sides_right : Fn := ⟨5, 10, (.cons (.set [] .val 5 (.comp [8] (.nm 8) (.rng1 (.cst (.int 60))) (.and (.cmp .nmem (.var 8) (.var 3)) (.cmp .nmem (.var 8) (.var 4))) (.var 8))) (.cons (.set [] .val 6 (.comp [8] (.nm 8) (.seq (.var 5)) (.cmp .eq (.call 34 (.cons (.var 0) (.cons (.cst (.int 2)) .nil))) (.cst (.int 0))) (.var 8))) (.cons (.fr [] [7] (.nm 7) (.seq (.lst (.cons (.var 3) (.cons (.op .add (.var 3) (.var 5)) (.cons (.op .add (.var 3) (.var 6)) .nil))))) (.cons (.iff [] (.not (.call 50 (.cons (.var 1) (.cons (.bi .tuple (.cons (.bi .sorted (.cons (.var 7) .nil)) .nil)) (.cons (.var 2) .nil))))) (.cons (.ret (.cst (.bool false))) .nil) .nil) .nil)) (.cons (.fr [] [] (.nm 8) (.seq (.var 3)) (.cons (.iff [] (.call 50 (.cons (.var 1) (.cons (.bi .tuple (.cons (.bi .sorted (.cons (.comp [9] (.nm 9) (.seq (.op .add (.var 3) (.var 6))) (.cmp .ne (.var 9) (.var 8)) (.var 9)) .nil)) .nil)) (.cons (.var 2) .nil)))) (.cons (.ret (.cst (.bool false))) .nil) .nil) .nil)) (.cons (.ret (.cmp .eq (.comp [8] (.nm 8) (.seq (.var 4)) (.call 50 (.cons (.var 1) (.cons (.bi .tuple (.cons (.bi .sorted (.cons (.op .add (.op .add (.var 3) (.var 6)) (.lst (.cons (.var 8) .nil))) .nil)) .nil)) (.cons (.var 2) .nil)))) (.var 8)) (.lst .nil))) .nil)))))⟩
/-- 147: _law_piece_so, _law_pedal_so, _law_row_so, _law_low, _law_high, _law_at, _law_key, _law_begin, _law_off, _law_again, _law_moment_so, _law_one, _law_start_so, _law_end -/
def l_plays_so : Fn := ⟨5, 14, (.cons (.fr [] [5, 6, 7, 8, 9, 10] (.tp (.cons (.nm 5) (.cons (.tp (.cons (.nm 6) (.cons (.nm 7) (.cons (.nm 8) .nil)))) .nil))) (.enu (.var 2)) (.cons (.set [] .val 9 (.op .add (.comp [11, 12, 13] (.tp (.cons (.nm 11) (.cons (.nm 12) (.cons (.nm 13) .nil)))) (.seq (.var 2)) (.and (.cmp .eq (.var 11) (.var 6)) (.cmp .gt (.var 12) (.var 7))) (.var 12)) (.lst (.cons (.cst (.int 60)) .nil)))) (.cons (.set [] .val 10 (.ite (.chain .le .lt (.var 7) (.var 3) (.var 8)) (.bi .max (.cons (.var 8) (.cons (.var 4) .nil))) (.var 8))) (.cons (.wh [] [] (.and (.cmp .mem (.var 10) (.var 1)) (.cmp .lt (.var 10) (.idx (.var 9) (.cst (.int 0))))) (.cons (.set [] .val 10 (.op .add (.var 10) (.cst (.int 1)))) .nil)) (.cons (.iff [] (.cmp .ne (.bi .min (.cons (.var 10) (.cons (.idx (.var 9) (.cst (.int 0))) .nil))) (.idx (.idx (.var 0) (.var 5)) (.cst (.int 2)))) (.cons (.ret (.cst (.bool false))) .nil) .nil) .nil))))) (.cons (.ret (.cst (.bool true))) .nil))⟩
/-- 148: _law_piece_so, _law_last, _law_pedals, _law_rows, _law_found, _law_ups, _law_beat, _law_key, _law_begin, _law_end, _law_row_so, _law_longer, _law_number, _law_low, _law_high, _law_pedal_so, _law_off -/
def l_best : Fn := ⟨2, 17, (.cons (.par [] [(.val, 2), (.val, 3), (.own, 4)] (.cons (.lst (.cons (.tup .nil) .nil)) (.cons (.lst (.cons (.tup .nil) .nil)) (.cons (.dnew true) .nil)))) (.cons (.set [] .val 5 (.call 48 (.cons (.var 0) .nil))) (.cons (.fr [] [] (.nm 6) (.rng1 (.var 1)) (.cons (.iff [] (.cmp .nmem (.var 6) (.var 5)) (.cons (.set [] .val 2 (.op .add (.var 2) (.comp [15] (.nm 15) (.seq (.var 2)) (.cst (.bool true)) (.op .add (.var 15) (.tup (.cons (.var 6) .nil)))))) .nil) .nil) .nil)) (.cons (.fr [] [7, 8, 9, 10, 11] (.tp (.cons (.nm 7) (.cons (.nm 8) (.cons (.nm 9) .nil)))) (.seq (.var 0)) (.cons (.set [] .val 11 (.lst .nil)) (.cons (.fr [] [10] (.nm 10) (.seq (.var 3)) (.cons (.set [] .val 11 (.op .add (.var 11) (.comp [16] (.nm 16) (.rng2 (.op .add (.var 8) (.cst (.int 1))) (.op .add (.var 9) (.cst (.int 1)))) (.cst (.bool true)) (.op .add (.var 10) (.tup (.cons (.tup (.cons (.var 7) (.cons (.var 8) (.cons (.var 16) .nil)))) .nil)))))) .nil)) (.cons (.set [] .val 3 (.var 11)) .nil)))) (.cons (.fr [] [10, 12, 14] (.nm 10) (.seq (.var 3)) (.cons (.set [] .val 12 (.bi .max (.cons (.op .add (.lst (.cons (.cst (.int 0)) .nil)) (.comp [6] (.nm 6) (.rng1 (.var 1)) (.cst (.bool true)) (.bi .len (.cons (.comp [7, 13, 16] (.tp (.cons (.nm 7) (.cons (.nm 13) (.cons (.nm 16) .nil)))) (.seq (.var 10)) (.chain .le .lt (.var 13) (.var 6) (.var 16)) (.cst (.int 1))) .nil)))) .nil))) (.cons (.fr [] [14] (.nm 13) (.rng1 (.var 1)) (.cons (.fr [] [14] (.nm 14) (.rng2 (.op .add (.var 13) (.cst (.int 1))) (.op .add (.var 1) (.cst (.int 1)))) (.cons (.iff [4] (.cmp .lt (.var 12) (.dget (.var 4) (.tup (.cons (.var 13) (.cons (.var 14) .nil))) (.cst (.int 9)))) (.cons (.iff [] (.cmp .ne (.comp [15] (.nm 15) (.seq (.var 2)) (.call 147 (.cons (.var 0) (.cons (.var 15) (.cons (.var 10) (.cons (.var 13) (.cons (.var 14) .nil)))))) (.cst (.int 1))) (.lst .nil)) (.cons (.dput [] 4 (.tup (.cons (.var 13) (.cons (.var 14) .nil))) (.var 12)) .nil) .nil) .nil) .nil) .nil)) .nil)) .nil))) (.cons (.ret (.var 4)) .nil))))))⟩
/-- 149: _law_piece_so, _law_told, _law_offs_here, _law_struck_so, _law_off, _law_key, _law_begin, _law_end -/
def l_late_right : Fn := ⟨2, 8, (.cons (.par [] [(.val, 2), (.val, 3)] (.cons (.call 89 (.cons (.var 0) (.cons (.call 48 (.cons (.var 0) .nil)) .nil))) (.cons (.comp [5, 6, 7] (.tp (.cons (.nm 5) (.cons (.nm 6) (.cons (.nm 7) .nil)))) (.seq (.var 0)) (.cst (.bool true)) (.tup (.cons (.var 5) (.cons (.var 6) .nil)))) .nil))) (.cons (.fr [] [4, 5, 6, 7] (.tp (.cons (.nm 4) (.cons (.tp (.cons (.nm 5) (.cons (.nm 6) (.cons (.nm 7) .nil)))) .nil))) (.zip (.var 2) (.var 0)) (.cons (.iff [] (.and (.chain .le .lt (.var 6) (.idx (.var 1) (.cst (.int 0))) (.var 4)) (.cmp .nmem (.tup (.cons (.var 5) (.cons (.var 7) .nil))) (.var 3))) (.cons (.ret (.cst (.bool false))) .nil) .nil) .nil)) (.cons (.ret (.cst (.bool true))) .nil)))⟩
/-- 151: _law_rows, _law_beat, _law_key, _law_begin, _law_off -/
def l_depth : Fn := ⟨2, 5, (.cons (.ret (.bi .len (.cons (.comp [2, 3, 4] (.tp (.cons (.nm 2) (.cons (.nm 3) (.cons (.nm 4) .nil)))) (.seq (.var 0)) (.chain .le .lt (.var 3) (.var 1) (.var 4)) (.cst (.int 1))) .nil))) .nil)⟩
/-- 152: _law_piece_so, _law_offs_here, _law_found, _law_lasts, _law_struck_so, _law_low, _law_held_so, _law_at, _law_key, _law_begin, _law_end, _law_high, _law_last, _law_rows, _law_most_here, _law_off -/
def l_spans : Fn := ⟨1, 16, (.cons (.par [] [(.val, 1), (.own, 2)] (.cons (.call 89 (.cons (.var 0) (.cons (.call 48 (.cons (.var 0) .nil)) .nil))) (.cons (.dnew true) .nil))) (.cons (.set [] .val 3 (.srt (.op .add (.comp [8, 9, 10] (.tp (.cons (.nm 8) (.cons (.nm 9) (.cons (.nm 10) .nil)))) (.seq (.var 0)) (.cst (.bool true)) (.var 10)) (.lst (.cons (.cst (.int 60)) .nil))))) (.cons (.set [] .val 4 (.comp [8, 9, 10] (.tp (.cons (.nm 8) (.cons (.nm 9) (.cons (.nm 10) .nil)))) (.seq (.var 0)) (.cst (.bool true)) (.tup (.cons (.var 8) (.cons (.var 9) .nil))))) (.cons (.fr [] [5, 6, 10, 11, 13] (.nm 5) (.rng1 (.cst (.int 60))) (.cons (.set [] .own 6 (.lst .nil)) (.cons (.fr [] [10] (.tp (.cons (.nm 7) (.cons (.tp (.cons (.nm 8) (.cons (.nm 9) (.cons (.nm 10) .nil)))) .nil))) (.enu (.var 0)) (.cons (.iff [] (.chain .le .lt (.var 9) (.var 5) (.idx (.var 1) (.var 7))) (.cons (.app [] 6 (.tup (.cons (.var 7) (.cons (.ite (.cmp .mem (.tup (.cons (.var 8) (.cons (.var 10) .nil))) (.var 4)) (.cst (.int 60)) (.var 10)) .nil)))) .nil) .nil) .nil)) (.cons (.iff [6] (.cmp .ne (.var 6) (.lst .nil)) (.cons (.fr [] [11, 13] (.nm 11) (.seq (.comp [12] (.nm 12) (.seq (.var 3)) (.cmp .gt (.var 12) (.var 5)) (.var 12))) (.cons (.iff [6] (.cmp .eq (.comp [7, 14] (.tp (.cons (.nm 7) (.cons (.nm 14) .nil))) (.seq (.var 6)) (.cmp .lt (.var 14) (.var 11)) (.cst (.int 1))) (.lst .nil)) (.cons (.set [] .own 13 (.comp [7, 8, 9, 10] (.tp (.cons (.nm 7) (.cons (.tp (.cons (.nm 8) (.cons (.nm 9) (.cons (.nm 10) .nil)))) .nil))) (.enu (.var 0)) (.cst (.bool true)) (.tup (.cons (.var 8) (.cons (.var 9) (.cons (.idx (.var 1) (.var 7)) .nil)))))) (.cons (.frz 6) (.cons (.fr [] [] (.tp (.cons (.nm 7) (.cons (.nm 14) .nil))) (.seq (.var 6)) (.cons (.lput [13] 13 (.var 7) (.tup (.cons (.idx (.idx (.var 13) (.var 7)) (.cst (.int 0))) (.cons (.idx (.idx (.var 13) (.var 7)) (.cst (.int 1))) (.cons (.ite (.cmp .le (.idx (.var 1) (.var 7)) (.var 11)) (.op .add (.var 5) (.cst (.int 1))) (.idx (.var 1) (.var 7))) .nil))))) .nil)) (.cons (.dput [13] 2 (.tup (.cons (.var 5) (.cons (.var 11) .nil))) (.bi .max (.cons (.op .add (.lst (.cons (.cst (.int 0)) .nil)) (.comp [8, 9, 15] (.tp (.cons (.nm 8) (.cons (.nm 9) (.cons (.nm 15) .nil)))) (.seq (.var 13)) (.cst (.bool true)) (.call 151 (.cons (.var 13) (.cons (.var 9) .nil))))) .nil))) .nil)))) .nil) .nil)) .nil) .nil) .nil)))) (.cons (.ret (.var 2)) .nil)))))⟩
/-- 158: _law_one, _law_odd, _law_rows -/
def l_refused : Fn := ⟨1, 3, (.cons (.iff [] (.cmp .ne (.comp [1] (.nm 1) (.seq (.lst (.cons (.cst .none) (.cons (.neg (.cst (.int 1))) (.cons (.cst (.int 60)) (.cons (.cst (.bool true)) (.cons (.cst (.str "0")) .nil))))))) (.cst (.bool true)) (.call 157 (.cons (.cst (.int 0)) (.cons (.var 0) (.cons (.var 1) .nil))))) (.op .mul (.lst (.cons (.cst (.str "beat")) .nil)) (.cst (.int 5)))) (.cons (.ret (.cst (.bool false))) .nil) .nil) (.cons (.iff [] (.cmp .ne (.comp [1] (.nm 1) (.seq (.lst (.cons (.cst .none) (.cons (.neg (.cst (.int 1))) (.cons (.bi .len (.cons (.var 0) .nil)) (.cons (.cst (.str "0")) .nil)))))) (.cst (.bool true)) (.call 157 (.cons (.cst (.int 1)) (.cons (.var 0) (.cons (.var 1) .nil))))) (.op .mul (.lst (.cons (.cst (.str "index")) .nil)) (.cst (.int 4)))) (.cons (.ret (.cst (.bool false))) .nil) .nil) (.cons (.set [] .val 1 (.lst (.cons (.tup (.cons (.cst .none) .nil)) (.cons (.tup (.cons (.tup (.cons (.cst (.int 60)) (.cons (.cst (.int 0)) (.cons (.cst (.int 1)) .nil)))) (.cons (.tup (.cons (.cst (.int 60)) (.cons (.cst (.int 0)) (.cons (.cst (.int 1)) .nil)))) .nil))) (.cons (.tup (.cons (.tup (.cons (.cst (.int 60)) (.cons (.cst (.int 0)) (.cons (.cst (.int 4)) .nil)))) (.cons (.tup (.cons (.cst (.int 60)) (.cons (.cst (.int 3)) (.cons (.cst (.int 5)) .nil)))) .nil))) (.cons (.tup (.cons (.tup (.cons (.cst (.int 60)) (.cons (.cst (.int 0)) (.cons (.cst (.int 61)) .nil)))) .nil)) (.cons (.tup (.cons (.tup (.cons (.cst (.int 60)) (.cons (.cst (.int 0)) (.cons (.cst (.int 1)) .nil)))) (.cons (.cst (.str "x")) .nil))) .nil))))))) (.cons (.ret (.cmp .eq (.comp [2] (.nm 2) (.seq (.var 1)) (.cst (.bool true)) (.call 157 (.cons (.cst (.int 3)) (.cons (.var 2) (.cons (.cst .none) .nil))))) (.op .mul (.lst (.cons (.cst (.str "piece")) .nil)) (.cst (.int 5))))) .nil))))⟩
/-- 162: _law_source_here, _law_state_so, _law_moment_so, _law_held_so, _law_down_so, _law_heard_so, _law_notes_so, _law_way, _law_odd, _law_some, _law_turn, _law_key -/
def l_call : Fn := ⟨2, 12, (.cons (.unp [] (.tp (.cons (.nm 2) (.cons (.nm 3) (.cons (.nm 4) (.cons (.nm 5) (.cons (.nm 6) .nil)))))) (.var 1)) (.cons (.par [] [(.val, 7), (.val, 8)] (.cons (.call 34 (.cons (.var 0) (.cons (.cst (.int 12)) .nil))) (.cons (.idx (.lst (.cons (.cst .none) (.cons (.cst (.int 0)) (.cons (.cst (.int 89)) (.cons (.cst (.bool true)) (.cons (.cst (.str "60")) .nil)))))) (.call 34 (.cons (.var 0) (.cons (.cst (.int 5)) .nil)))) .nil))) (.cons (.iff [] (.cmp .lt (.var 7) (.cst (.int 4))) (.cons (.set [] .val 9 (.comp [10] (.nm 10) (.rng1 (.op .add (.cst (.int 1)) (.call 34 (.cons (.var 0) (.cons (.cst (.int 3)) .nil))))) (.cst (.bool true)) (.op .add (.cst (.int 58)) (.call 34 (.cons (.var 0) (.cons (.cst (.int 7)) .nil)))))) (.cons (.ret (.tup (.cons (.cst (.str "strike")) (.cons (.bi .tuple (.cons (.op .add (.var 9) (.op .mul (.lst (.cons (.var 8) .nil)) (.bi .int (.cons (.cmp .eq (.call 34 (.cons (.var 0) (.cons (.cst (.int 9)) .nil))) (.cst (.int 0))) .nil)))) .nil)) .nil)))) .nil)) .nil) (.cons (.iff [] (.cmp .lt (.var 7) (.cst (.int 6))) (.cons (.set [] .val 9 (.slc (.comp [11] (.nm 11) (.seq (.var 3)) (.cmp .eq (.call 34 (.cons (.var 0) (.cons (.cst (.int 2)) .nil))) (.cst (.int 0))) (.var 11)) false true (.cst .none) (.cst (.int 3)))) (.cons (.ret (.tup (.cons (.cst (.str "let_go")) (.cons (.bi .tuple (.cons (.op .add (.var 9) (.op .mul (.lst (.cons (.idx (.lst (.cons (.var 8) (.cons (.cst (.int 60)) .nil))) (.call 34 (.cons (.var 0) (.cons (.cst (.int 2)) .nil)))) .nil)) (.bi .int (.cons (.cmp .eq (.call 34 (.cons (.var 0) (.cons (.cst (.int 9)) .nil))) (.cst (.int 0))) .nil)))) .nil)) .nil)))) .nil)) .nil) (.cons (.iff [] (.cmp .lt (.var 7) (.cst (.int 8))) (.cons (.ret (.tup (.cons (.cst (.str "pedal")) (.cons (.idx (.lst (.cons (.not (.var 4)) (.cons (.not (.var 4)) (.cons (.var 4) (.cons (.cst .none) (.cons (.cst (.int 1)) (.cons (.cst (.str "up")) .nil))))))) (.call 34 (.cons (.var 0) (.cons (.cst (.int 6)) .nil)))) .nil)))) .nil) .nil) (.cons (.iff [] (.cmp .lt (.var 7) (.cst (.int 11))) (.cons (.ret (.tup (.cons (.cst (.str "wait")) (.cons (.idx (.lst (.cons (.cst (.int 1)) (.cons (.cst (.int 1)) (.cons (.op .add (.cst (.int 1)) (.call 34 (.cons (.var 0) (.cons (.cst (.int 4)) .nil)))) (.cons (.op .add (.cst (.int 1)) (.call 34 (.cons (.var 0) (.cons (.cst (.int 4)) .nil)))) (.cons (.var 8) (.cons (.cst (.int 61)) (.cons (.cst (.int 60)) .nil)))))))) (.call 34 (.cons (.var 0) (.cons (.cst (.int 7)) .nil)))) .nil)))) .nil) .nil) (.cons (.ret (.tup (.cons (.cst (.str "undo")) (.cons (.cst .none) .nil)))) .nil)))))))⟩
/-- 175: _law_rows, _law_up, _law_late, _law_key, _law_begin, _law_end -/
def l_moved : Fn := ⟨3, 6, (.cons (.ret (.bi .tuple (.cons (.comp [3, 4, 5] (.tp (.cons (.nm 3) (.cons (.nm 4) (.cons (.nm 5) .nil)))) (.seq (.var 0)) (.cst (.bool true)) (.tup (.cons (.op .add (.var 3) (.var 1)) (.cons (.op .add (.var 4) (.var 2)) (.cons (.op .add (.var 5) (.var 2)) .nil))))) .nil))) .nil)⟩
/-- 176: _law_up, _law_late, _law_piece_so, _law_strokes_so, _law_pedal_so, _law_due, _law_count -/
def l_chord_right : Fn := ⟨2, 7, (.cons (.set [] .val 2 (.call 175 (.cons (.tup (.cons (.tup (.cons (.cst (.int 28)) (.cons (.cst (.int 0)) (.cons (.cst (.int 6)) .nil)))) (.cons (.tup (.cons (.cst (.int 60)) (.cons (.cst (.int 0)) (.cons (.cst (.int 4)) .nil)))) (.cons (.tup (.cons (.cst (.int 64)) (.cons (.cst (.int 1)) (.cons (.cst (.int 4)) .nil)))) (.cons (.tup (.cons (.cst (.int 67)) (.cons (.cst (.int 2)) (.cons (.cst (.int 4)) .nil)))) .nil))))) (.cons (.var 0) (.cons (.var 1) .nil))))) (.cons (.set [] .val 3 (.call 175 (.cons (.tup (.cons (.tup (.cons (.cst (.int 28)) (.cons (.cst (.int 0)) (.cons (.cst (.int 6)) .nil)))) (.cons (.tup (.cons (.cst (.int 60)) (.cons (.cst (.int 0)) (.cons (.cst (.int 1)) .nil)))) (.cons (.tup (.cons (.cst (.int 64)) (.cons (.cst (.int 1)) (.cons (.cst (.int 2)) .nil)))) (.cons (.tup (.cons (.cst (.int 67)) (.cons (.cst (.int 2)) (.cons (.cst (.int 3)) .nil)))) .nil))))) (.cons (.var 0) (.cons (.var 1) .nil))))) (.cons (.set [] .val 4 (.tup (.cons (.op .add (.var 1) (.cst (.int 1))) (.cons (.op .add (.var 1) (.cst (.int 2))) (.cons (.op .add (.var 1) (.cst (.int 3))) .nil))))) (.cons (.iff [] (.or (.cmp .ne (.call 9 (.cons (.var 2) .nil)) (.lst (.cons (.op .add (.var 1) (.cst (.int 4))) (.cons (.op .add (.var 1) (.cst (.int 6))) .nil)))) (.cmp .ne (.bi .len (.cons (.call 8 (.cons (.var 2) (.cons (.op .add (.var 1) (.cst (.int 3))) .nil))) .nil)) (.cst (.int 4)))) (.cons (.ret (.cst (.bool false))) .nil) .nil) (.cons (.iff [] (.or (.cmp .ne (.call 16 (.cons (.var 4) (.cons (.var 3) .nil))) (.var 2)) (.cmp .ne (.call 17 (.cons (.var 3) .nil)) (.cst (.int 2)))) (.cons (.ret (.cst (.bool false))) .nil) .nil) (.cons (.iff [] (.cmp .ne (.call 53 (.cons (.op .add (.tup (.cons (.var 1) .nil)) (.var 4)) (.cons (.var 3) .nil))) (.lst (.cons (.var 1) .nil))) (.cons (.ret (.cst (.bool false))) .nil) .nil) (.cons (.iff [] (.or (.cmp .ne (.call 22 (.cons (.var 2) .nil)) (.tup (.cons (.op .add (.var 1) (.cst (.int 5))) (.cons (.op .add (.var 1) (.cst (.int 1))) (.cons (.op .add (.var 1) (.cst (.int 2))) (.cons (.op .add (.var 1) (.cst (.int 3))) .nil)))))) (.cmp .ne (.call 23 (.cons (.var 2) .nil)) (.cst (.int 2)))) (.cons (.ret (.cst (.bool false))) .nil) .nil) (.cons (.iff [] (.or (.cmp .ne (.call 24 (.cons (.var 2) .nil)) (.cst (.int 4))) (.cmp .ne (.comp [6] (.nm 6) (.seq (.tup (.cons (.cst (.int 1)) (.cons (.cst (.int 2)) (.cons (.cst (.int 3)) (.cons (.cst (.int 4)) .nil)))))) (.cst (.bool true)) (.call 79 (.cons (.var 2) (.cons (.var 6) .nil)))) (.lst (.cons (.cst .none) (.cons (.cst (.int 1)) (.cons (.cst (.int 1)) (.cons (.cst (.int 0)) .nil))))))) (.cons (.ret (.cst (.bool false))) .nil) .nil) (.cons (.iff [] (.or (.cmp .ne (.call 118 (.cons (.var 2) (.cons (.cst (.int 2)) .nil))) (.bi .list (.cons (.var 4) .nil))) (.cmp .ne (.call 118 (.cons (.var 2) (.cons (.cst (.int 3)) .nil))) (.lst (.cons (.op .add (.var 1) (.cst (.int 2))) (.cons (.op .add (.var 1) (.cst (.int 3))) .nil))))) (.cons (.ret (.cst (.bool false))) .nil) .nil) (.cons (.iff [] (.or (.cmp .ne (.call 121 (.cons (.var 2) (.cons (.cst (.int 2)) (.cons (.cst (.int 0)) .nil)))) (.tup (.cons (.op .add (.var 1) (.cst (.int 5))) (.cons (.op .add (.var 1) (.cst (.int 6))) .nil)))) (.cmp .ne (.call 121 (.cons (.var 2) (.cons (.cst (.int 3)) (.cons (.cst (.int 1)) .nil)))) (.tup (.cons (.op .add (.var 1) (.cst (.int 1))) (.cons (.op .add (.var 1) (.cst (.int 4))) .nil))))) (.cons (.ret (.cst (.bool false))) .nil) .nil) (.cons (.iff [] (.or (.cmp .ne (.call 25 (.cons (.var 2) .nil)) (.lst (.cons (.cst (.int 0)) .nil))) (.cmp .ne (.call 26 (.cons (.var 2) (.cons (.var 3) .nil))) (.tup (.cons (.bi .list (.cons (.var 4) .nil)) (.cons (.lst (.cons (.op .add (.var 1) (.cst (.int 4))) (.cons (.op .add (.var 1) (.cst (.int 6))) .nil))) .nil))))) (.cons (.ret (.cst (.bool false))) .nil) .nil) (.cons (.set [] .val 5 (.lst (.cons (.tup (.cons (.op .add (.var 1) (.cst (.int 6))) (.cons (.op .add (.var 1) (.cst (.int 6))) .nil))) (.cons (.tup (.cons (.op .add (.var 1) (.cst (.int 1))) (.cons (.op .add (.var 1) (.cst (.int 4))) .nil))) (.cons (.tup (.cons (.op .add (.var 1) (.cst (.int 2))) (.cons (.op .add (.var 1) (.cst (.int 4))) .nil))) (.cons (.tup (.cons (.op .add (.var 1) (.cst (.int 3))) (.cons (.op .add (.var 1) (.cst (.int 4))) .nil))) .nil)))))) (.cons (.iff [] (.cmp .ne (.call 28 (.cons (.var 2) (.cons (.var 4) .nil))) (.var 5)) (.cons (.ret (.cst (.bool false))) .nil) .nil) (.cons (.ret (.and (.cmp .eq (.call 88 (.cons (.var 2) (.cons (.var 4) .nil))) (.cst (.int 2))) (.cmp .eq (.call 88 (.cons (.var 2) (.cons (.tup .nil) .nil))) (.cst (.int 4))))) .nil))))))))))))))⟩
/-- 180: _law_rows, _law_call, _law_some, _law_word -/
def l_rows_right : Fn := ⟨1, 4, (.cons (.ret (.cmp .eq (.comp [1, 2, 3] (.tp (.cons (.nm 1) (.cons (.nm 2) (.cons (.nm 3) .nil)))) (.seq (.var 0)) (.cmp .ne (.call 112 (.cons (.var 1) (.cons (.var 2) .nil))) (.var 3)) (.cst (.int 1))) (.lst .nil))) .nil)⟩
/-- 181: _law_good, _law_top, _law_rows -/
def l_bounds_right : Fn := ⟨0, 3, (.cons (.par [] [(.val, 0), (.val, 1)] (.cons (.tup (.cons (.tup (.cons (.cst (.int 60)) (.cons (.cst (.int 0)) (.cons (.cst (.int 2)) .nil)))) (.cons (.tup (.cons (.cst (.int 60)) (.cons (.cst (.int 3)) (.cons (.cst (.int 4)) .nil)))) .nil))) (.cons (.op .pow (.cst (.int 10)) (.cst (.int 12))) .nil))) (.cons (.set [] .own 2 (.lst (.cons (.tup (.cons (.cst (.int 4)) (.cons (.tup (.cons (.var 0) (.cons (.cst (.int 60)) (.cons (.var 1) (.cons (.cst (.int 0)) .nil))))) (.cons (.cst (.str "fine")) .nil)))) (.cons (.tup (.cons (.cst (.int 4)) (.cons (.tup (.cons (.var 0) (.cons (.cst (.int 4)) (.cons (.op .add (.var 1) (.cst (.int 1))) (.cons (.cst (.int 0)) .nil))))) (.cons (.cst (.str "number")) .nil)))) (.cons (.tup (.cons (.cst (.int 4)) (.cons (.tup (.cons (.var 0) (.cons (.cst (.int 4)) (.cons (.cst (.int 0)) (.cons (.cst (.int 0)) .nil))))) (.cons (.cst (.str "number")) .nil)))) .nil))))) (.cons (.set [2] .own 2 (.op .add (.var 2) (.lst (.cons (.tup (.cons (.cst (.int 4)) (.cons (.tup (.cons (.var 0) (.cons (.cst (.int 61)) (.cons (.cst (.int 1)) (.cons (.cst (.int 0)) .nil))))) (.cons (.cst (.str "number")) .nil)))) (.cons (.tup (.cons (.cst (.int 4)) (.cons (.tup (.cons (.var 0) (.cons (.cst (.int 0)) (.cons (.cst (.int 1)) (.cons (.cst (.int 0)) .nil))))) (.cons (.cst (.str "number")) .nil)))) (.cons (.tup (.cons (.cst (.int 4)) (.cons (.tup (.cons (.var 0) (.cons (.cst (.int 3)) (.cons (.cst (.int 1)) (.cons (.cst (.int 0)) .nil))))) (.cons (.cst (.str "not")) .nil)))) .nil)))))) (.cons (.set [2] .own 2 (.op .add (.var 2) (.lst (.cons (.tup (.cons (.cst (.int 8)) (.cons (.tup (.cons (.var 0) (.cons (.cst (.int 4)) (.cons (.cst (.int 40)) (.cons (.cst (.int 1)) .nil))))) (.cons (.cst (.str "fine")) .nil)))) (.cons (.tup (.cons (.cst (.int 8)) (.cons (.tup (.cons (.var 0) (.cons (.cst (.int 4)) (.cons (.cst (.int 41)) (.cons (.cst (.int 1)) .nil))))) (.cons (.cst (.str "number")) .nil)))) (.cons (.tup (.cons (.cst (.int 8)) (.cons (.tup (.cons (.var 0) (.cons (.cst (.int 3)) (.cons (.cst (.int 1)) (.cons (.cst (.int 1)) .nil))))) (.cons (.cst (.str "not")) .nil)))) .nil)))))) (.cons (.set [2] .own 2 (.op .add (.var 2) (.lst (.cons (.tup (.cons (.cst (.int 5)) (.cons (.tup (.cons (.var 0) (.cons (.cst (.int 40)) (.cons (.cst (.int 40)) (.cons (.cst (.int 0)) .nil))))) (.cons (.cst (.str "fine")) .nil)))) (.cons (.tup (.cons (.cst (.int 5)) (.cons (.tup (.cons (.var 0) (.cons (.cst (.int 0)) (.cons (.cst (.int 1)) (.cons (.cst (.int 0)) .nil))))) (.cons (.cst (.str "number")) .nil)))) (.cons (.tup (.cons (.cst (.int 5)) (.cons (.tup (.cons (.var 0) (.cons (.cst (.int 1)) (.cons (.cst (.int 41)) (.cons (.cst (.int 0)) .nil))))) (.cons (.cst (.str "number")) .nil)))) .nil)))))) (.cons (.set [2] .own 2 (.op .add (.var 2) (.lst (.cons (.tup (.cons (.cst (.int 7)) (.cons (.tup (.cons (.var 0) (.cons (.cst (.int 4)) (.cons (.cst (.int 1)) (.cons (.cst (.int 0)) .nil))))) (.cons (.cst (.str "fine")) .nil)))) (.cons (.tup (.cons (.cst (.int 7)) (.cons (.tup (.cons (.var 0) (.cons (.cst (.int 5)) (.cons (.cst (.int 1)) (.cons (.cst (.int 0)) .nil))))) (.cons (.cst (.str "number")) .nil)))) (.cons (.tup (.cons (.cst (.int 7)) (.cons (.tup (.cons (.var 0) (.cons (.cst (.int 1)) (.cons (.cst (.int 1)) (.cons (.cst (.int 0)) .nil))))) (.cons (.cst (.str "number")) .nil)))) .nil)))))) (.cons (.set [2] .own 2 (.op .add (.var 2) (.lst (.cons (.tup (.cons (.cst (.int 6)) (.cons (.tup (.cons (.var 0) (.cons (.tup .nil) (.cons (.cst (.int 40)) (.cons (.cst (.int 0)) .nil))))) (.cons (.cst (.str "fine")) .nil)))) (.cons (.tup (.cons (.cst (.int 6)) (.cons (.tup (.cons (.var 0) (.cons (.tup .nil) (.cons (.cst (.int 0)) (.cons (.cst (.int 0)) .nil))))) (.cons (.cst (.str "number")) .nil)))) .nil))))) (.cons (.app [] 2 (.tup (.cons (.cst (.int 6)) (.cons (.tup (.cons (.var 0) (.cons (.rev (.var 0)) (.cons (.cst (.int 1)) (.cons (.cst (.int 0)) .nil))))) (.cons (.cst (.str "piece")) .nil))))) (.cons (.ret (.call 180 (.cons (.var 2) .nil))) .nil)))))))))⟩
/-- 184: _law_many, _law_key, _law_times, _law_run, _law_at -/
def l_run_right : Fn := ⟨3, 5, (.cons (.set [] .val 3 (.bi .tuple (.cons (.comp [4] (.nm 4) (.rng1 (.var 0)) (.cst (.bool true)) (.tup (.cons (.op .add (.var 1) (.var 4)) (.cons (.var 4) (.cons (.var 0) .nil))))) .nil))) (.cons (.iff [] (.or (.cmp .ne (.call 65 (.cons (.var 3) (.cons (.var 0) (.cons (.var 2) .nil)))) (.cst (.int 1))) (.cmp .ne (.call 98 (.cons (.var 3) .nil)) (.op .mul (.tup (.cons (.cst (.int 1)) .nil)) (.var 0)))) (.cons (.ret (.cst (.bool false))) .nil) .nil) (.cons (.iff [] (.or (.cmp .ne (.call 81 (.cons (.var 3) (.cons (.var 0) (.cons (.cst (.int 1)) (.cons (.var 2) .nil))))) (.var 2)) (.cmp .ne (.call 81 (.cons (.var 3) (.cons (.var 0) (.cons (.var 0) (.cons (.var 2) .nil))))) (.cst (.int 0)))) (.cons (.ret (.cst (.bool false))) .nil) .nil) (.cons (.iff [] (.or (.cmp .ne (.call 94 (.cons (.var 3) (.cons (.cst (.int 1)) (.cons (.cst (.int 1)) .nil)))) (.lrg1 (.cst (.int 89)))) (.cmp .ne (.call 109 (.cons (.var 3) (.cons (.cst (.int 2)) (.cons (.cst (.int 1)) .nil)))) (.lrg2 (.var 0) (.op .sub (.cst (.int 61)) (.var 0))))) (.cons (.ret (.cst (.bool false))) .nil) .nil) (.cons (.ret (.and (.cmp .eq (.call 66 (.cons (.var 3) .nil)) (.lrg2 (.var 0) (.cst (.int 61)))) (.cmp .eq (.call 95 (.cons (.var 3) .nil)) (.cst (.int 1))))) .nil)))))⟩
/-- 187: rows, beat, until, found, key, begin, off, kept -/
def with_span_1 : Fn := ⟨3, 8, (.cons (.set [] .own 3 (.lst .nil)) (.cons (.fr [] [4, 5, 6, 7] (.tp (.cons (.nm 4) (.cons (.nm 5) (.cons (.nm 6) .nil)))) (.seq (.var 0)) (.cons (.set [] .val 7 (.chn3 .le .lt .le (.var 5) (.var 1) (.var 6) (.var 2))) (.cons (.app [] 3 (.tup (.cons (.var 4) (.cons (.var 5) (.cons (.ite (.var 7) (.op .add (.var 1) (.cst (.int 1))) (.var 6)) .nil))))) .nil))) (.cons (.ret (.var 3)) .nil)))⟩
/-- 188: piece, rows, best, beat, until, fingers -/
def best_of_1 : Fn := ⟨1, 6, (.cons (.set [] .val 1 (.call 20 (.cons (.var 0) (.cons (.call 6 (.cons (.var 0) .nil)) .nil)))) (.cons (.set [] .val 2 (.tup (.cons (.call 15 (.cons (.var 1) .nil)) (.cons (.cst .none) .nil)))) (.cons (.fr [] [3, 4, 5] (.nm 3) (.rng1 (.cst (.int 60))) (.cons (.set [] .val 4 (.call 29 (.cons (.var 0) (.cons (.var 1) (.cons (.var 3) .nil))))) (.cons (.set [] .val 5 (.call 15 (.cons (.call 187 (.cons (.var 1) (.cons (.var 3) (.cons (.var 4) .nil)))) .nil))) (.cons (.iff [] (.cmp .lt (.var 5) (.idx (.var 2) (.cst (.int 0)))) (.cons (.set [] .val 2 (.tup (.cons (.var 5) (.cons (.tup (.cons (.var 3) (.cons (.var 4) .nil))) .nil)))) .nil) .nil) .nil)))) (.cons (.ret (.var 2)) .nil))))⟩
/-- 189: piece -/
def fewest_with_middle_1 : Fn := ⟨1, 1, (.cons (.ex [] (.call 3 (.cons (.var 0) .nil))) (.cons (.ret (.idx (.call 188 (.cons (.var 0) .nil)) (.cst (.int 0)))) .nil))⟩
/-- 190: piece -/
def middle_span_1 : Fn := ⟨1, 1, (.cons (.ex [] (.call 3 (.cons (.var 0) .nil))) (.cons (.ret (.idx (.call 188 (.cons (.var 0) .nil)) (.cst (.int 1)))) .nil))⟩
/-- 193: _law_piece_so, _law_told, _law_best, _law_low, _law_high, _law_offs_here, _law_rows, _law_at, _law_key, _law_begin, _law_end, _law_off, _law_again, _law_one, _law_start_so, _law_last -/
def l_told_right_1 : Fn := ⟨3, 16, (.cons (.unp [] (.tp (.cons (.nm 3) (.cons (.nm 4) .nil))) (.var 1)) (.cons (.par [] [(.val, 5), (.own, 6)] (.cons (.call 89 (.cons (.var 0) (.cons (.call 48 (.cons (.var 0) .nil)) .nil))) (.cons (.lst .nil) .nil))) (.cons (.fr [] [7, 8, 9, 10, 11, 12] (.tp (.cons (.nm 7) (.cons (.tp (.cons (.nm 8) (.cons (.nm 9) (.cons (.nm 10) .nil)))) .nil))) (.enu (.var 0)) (.cons (.set [] .val 11 (.idx (.var 5) (.var 7))) (.cons (.iff [] (.chain .le .lt (.var 9) (.var 3) (.var 11)) (.cons (.set [] .val 12 (.comp [13, 14, 15] (.tp (.cons (.nm 13) (.cons (.nm 14) (.cons (.nm 15) .nil)))) (.seq (.var 0)) (.and (.cmp .eq (.var 13) (.var 8)) (.cmp .eq (.var 14) (.var 10))) (.cst (.int 1)))) (.cons (.iff [] (.and (.cmp .gt (.var 4) (.var 10)) (.cmp .eq (.var 12) (.lst .nil))) (.cons (.ret (.cst (.bool false))) .nil) .nil) (.cons (.set [] .val 11 (.ite (.cmp .le (.var 11) (.var 4)) (.op .add (.var 3) (.cst (.int 1))) (.var 11))) .nil))) .nil) (.cons (.app [] 6 (.tup (.cons (.var 8) (.cons (.var 9) (.cons (.var 11) .nil))))) .nil)))) (.cons (.ret (.and (.chn3 .le .lt .le (.cst (.int 0)) (.var 3) (.var 4) (.cst (.int 60))) (.cmp .eq (.call 47 (.cons (.var 6) .nil)) (.var 2)))) .nil))))⟩
/-- 197: _law_piece_so, _law_more_here, _law_offs, _law_note_so, _law_off -/
def l_grown_1 : Fn := ⟨2, 5, (.cons (.set [] .own 2 (.dnew true)) (.cons (.fr [] [] (.tp (.cons (.nm 3) (.cons (.nm 4) .nil))) (.zip (.var 1) (.call 22 (.cons (.var 1) .nil))) (.cons (.dput [] 2 (.var 3) (.var 4)) .nil)) (.cons (.ret (.cmp .eq (.comp [3, 4] (.tp (.cons (.nm 3) (.cons (.nm 4) .nil))) (.zip (.var 0) (.call 22 (.cons (.var 0) .nil))) (.cmp .lt (.idx (.var 2) (.var 3)) (.var 4)) (.cst (.int 1))) (.lst .nil))) .nil)))⟩
/-- 199: _law_piece_so, _law_rows, _law_pedals, _law_pedal_so, _law_row_so, _law_beat, _law_good, _law_due, _law_few, _law_at, _law_offs -/
def l_small_right_1 : Fn := ⟨1, 11, (.cons (.par [] [(.own, 1), (.val, 2)] (.cons (.dnew true) (.cons (.lst (.cons (.tup .nil) .nil)) .nil))) (.cons (.fr [] [] (.tp (.cons (.nm 3) (.cons (.nm 4) .nil))) (.seq (.call 86 (.cons (.var 0) (.cons (.cst (.int 6)) .nil)))) (.cons (.dput [1] 1 (.var 3) (.op .add (.dget (.var 1) (.var 3) (.lst .nil)) (.lst (.cons (.var 4) .nil)))) .nil)) (.cons (.fr [] [5] (.nm 5) (.rng1 (.cst (.int 6))) (.cons (.set [] .val 2 (.op .add (.var 2) (.comp [3] (.nm 3) (.seq (.var 2)) (.cst (.bool true)) (.op .add (.var 3) (.tup (.cons (.var 5) .nil)))))) .nil)) (.cons (.fr [] [3, 6, 7, 8, 9, 10] (.nm 3) (.seq (.var 2)) (.cons (.par [1] [(.val, 6), (.own, 7), (.val, 8)] (.cons (.dget (.var 1) (.var 3) (.lst .nil)) (.cons (.cst .none) (.cons (.cst .none) .nil)))) (.cons (.iff [] (.cmp .ne (.var 6) (.lst .nil)) (.cons (.par [] [(.own, 7), (.val, 8)] (.cons (.lst .nil) (.cons (.bi .min (.cons (.comp [4] (.nm 4) (.seq (.var 6)) (.cst (.bool true)) (.call 47 (.cons (.var 4) .nil))) .nil)) .nil))) (.cons (.fr [] [9, 10] (.nm 9) (.rng1 (.bi .len (.cons (.var 0) .nil))) (.cons (.set [] .val 10 (.comp [4] (.nm 4) (.seq (.var 6)) (.cst (.bool true)) (.idx (.idx (.var 4) (.var 9)) (.cst (.int 2))))) (.cons (.app [] 7 (.tup (.cons (.bi .min (.cons (.var 10) .nil)) (.cons (.bi .max (.cons (.var 10) .nil)) .nil)))) .nil))) .nil)) .nil) (.cons (.iff [7] (.or (.cmp .ne (.call 28 (.cons (.var 0) (.cons (.var 3) .nil))) (.var 7)) (.cmp .ne (.call 88 (.cons (.var 0) (.cons (.var 3) .nil))) (.var 8))) (.cons (.ret (.cst (.bool false))) .nil) .nil) .nil)))) (.cons (.ret (.cst (.bool true))) .nil)))))⟩
end F
end

section
set_option Elab.async false
set_option linter.all false
set_option maxRecDepth 100000
set_option maxHeartbeats 1000000
/-! how the small language computes: lemmas for the plain laws -/
namespace Co
open PySem
/-- a run that ends, with Q -/
def Ok {α : Type} (r : Res α) (Q : α → Mem → Prop) : Prop := match r with
  | .ok a M => Q a M
  | _ => False
theorem Ok_ok {α : Type} {a : α} {M : Mem} {Q : α → Mem → Prop} : Ok (.ok a M) Q = Q a M := rfl
theorem Ok_bind {α β : Type} {r : Res α} {k : α → Mem → Res β} {Q : β → Mem → Prop} : Ok (r.bind k) Q = Ok r fun a M => Ok (k a M) Q := by
  cases r <;> rfl
theorem Ok.imp {α : Type} {r : Res α} {P Q : α → Mem → Prop} (h : Ok r P) (f : ∀ a M, P a M → Q a M) : Ok r Q := by
  cases r with
  | ok a M => exact f a M h
  | _ => exact h
theorem Ok.of {α : Type} {r : Res α} {Q : α → Mem → Prop} {a : α} {M : Mem} (e : r = .ok a M) (h : Q a M) : Ok r Q := by rw [e]; exact h
theorem Ok.get {α : Type} {r : Res α} {Q : α → Mem → Prop} (h : Ok r Q) : ∃ a M, r = .ok a M ∧ Q a M := by
  cases r with
  | ok a M => exact ⟨a, M, rfl, h⟩
  | _ => exact h.elim
theorem Res.bind_ok {α β : Type} {a : α} {M : Mem} {k : α → Mem → Res β} : (Res.ok a M).bind k = k a M := Eq.trans (Eq.refl _) (Eq.refl _)
theorem Res.lift_some {α : Type} {a : α} {M : Mem} : Res.lift (some a) M = .ok a M := rfl
theorem ifB_b {α : Type} {b : Bool} {x y : Res α} : ifB (.dat (.bool b)) x y = if b then x else y := by cases b <;> rfl
/-! typed data -/
structure N3 where
  k : Int
  b : Int
  e : Int
deriving DecidableEq
def eI (i : Int) : Dt := .int i
def eN (n : N3) : Dt := .tuple [.int n.k, .int n.b, .int n.e]
/-! shapes and equality of encodings -/
structure En {α : Type} (E : α → Dt) (n : Nat) : Prop where
  lay : ∀ a, (E a).canLay0 = true
  dep : ∀ a, (E a).depth ≤ n
  eqv : ∀ a b, PyData.eqv (E a) (E b) = true ↔ a = b
theorem layAll {α : Type} {E : α → Dt} (h : ∀ a, (E a).canLay0 = true) : ∀ xs : List α, PyData.canLayAll0 (xs.map E) = true
  | [] => by simp [PyData.canLayAll0]
  | x :: xs => by simp [PyData.canLayAll0, h x, layAll h xs]
theorem depAll {α : Type} {E : α → Dt} {n : Nat} (h : ∀ a, (E a).depth ≤ n) : ∀ xs : List α, PyData.depthAll (xs.map E) ≤ n
  | [] => by simp [PyData.depthAll]
  | x :: xs => by
    simp only [List.map_cons, PyData.depthAll]
    exact Nat.max_le.mpr ⟨h x, depAll h xs⟩
theorem eqvAll {α : Type} {E : α → Dt} (h : ∀ a b, PyData.eqv (E a) (E b) = true ↔ a = b) : ∀ xs ys : List α, PyData.eqvAll (xs.map E) (ys.map E) = true ↔ xs = ys
  | [], [] => by simp [PyData.eqvAll]
  | [], y :: ys => by simp [PyData.eqvAll]
  | x :: xs, [] => by simp [PyData.eqvAll]
  | x :: xs, y :: ys => by simp [PyData.eqvAll, h x y, eqvAll h xs ys]
theorem En.int : En PyData.int 0 := ⟨fun a => by simp [PyData.canLay0], fun a => by simp [PyData.depth], fun a b => by simp [PyData.eqv]⟩
theorem En.n3 : En eN 1 := ⟨fun a => by simp [eN, PyData.canLay0, PyData.canLayAll0], fun a => by simp [eN, PyData.depth, PyData.depthAll], fun a b => by
  cases a; cases b
  simp [eN, PyData.eqv, PyData.eqvAll]⟩
theorem En.list {α : Type} {E : α → Dt} {n : Nat} (h : En E n) : En (fun xs : List α => PyData.list (xs.map E)) (n + 1) := ⟨fun xs => by simp [PyData.canLay0, layAll h.lay], fun xs => by simp only [PyData.depth]; exact Nat.succ_le_succ (depAll h.dep xs), fun xs ys => by simp [PyData.eqv, eqvAll h.eqv]⟩
theorem En.tuple {α : Type} {E : α → Dt} {n : Nat} (h : En E n) : En (fun xs : List α => PyData.tuple (xs.map E)) (n + 1) := ⟨fun xs => by simp [PyData.canLay0, layAll h.lay], fun xs => by simp only [PyData.depth]; exact Nat.succ_le_succ (depAll h.dep xs), fun xs ys => by simp [PyData.eqv, eqvAll h.eqv]⟩
theorem En.shp {α : Type} {E : α → Dt} {n : Nat} (h : En E n) (hn : n ≤ 64) (a : α) : Co.shp (E a) = true := by
  unfold Co.shp SeqAt.shaped
  rw [h.lay a]
  exact decide_eq_true (Nat.le_trans (h.dep a) hn)
theorem En.eq {α : Type} [DecidableEq α] {E : α → Dt} {n : Nat} (h : En E n) (hn : n ≤ 64) (a b : α) : cmpD .eq (E a) (E b) = some (decide (a = b)) := by
  have : cmpD .eq (E a) (E b) = if (Co.shp (E a) && Co.shp (E b)) = true then some (PyData.eqv (E a) (E b)) else none := by unfold cmpD; rfl
  rw [this, h.shp hn, h.shp hn]
  simp only [Bool.and_self, if_true]
  congr 1
  by_cases e : a = b
  · rw [decide_eq_true e]; exact (h.eqv a b).mpr e
  · rw [decide_eq_false e]
    cases q : PyData.eqv (E a) (E b) with
    | true => exact absurd ((h.eqv a b).mp q) e
    | false => rfl
theorem En.ne {α : Type} [DecidableEq α] {E : α → Dt} {n : Nat} (h : En E n) (hn : n ≤ 64) (a b : α) : cmpD .ne (E a) (E b) = some (!decide (a = b)) := by
  have e := h.eq hn a b
  have e1 : cmpD .eq (E a) (E b) = if (Co.shp (E a) && Co.shp (E b)) = true then some (PyData.eqv (E a) (E b)) else none := by unfold cmpD; rfl
  have e2 : cmpD .ne (E a) (E b) = if (Co.shp (E a) && Co.shp (E b)) = true then some (!PyData.eqv (E a) (E b)) else none := by unfold cmpD; rfl
  rw [e1, h.shp hn, h.shp hn] at e
  rw [e2, h.shp hn, h.shp hn]
  simp only [Bool.and_self, if_true, Option.some.injEq] at e ⊢
  rw [e]
theorem any_eqv {α : Type} [DecidableEq α] {E : α → Dt} {n : Nat} (h : En E n) (a : α) : ∀ xs : List α, ((xs.map E).any fun z => PyData.eqv z (E a)) = decide (a ∈ xs)
  | [] => by simp
  | x :: xs => by
    rw [List.map_cons, List.any_cons, any_eqv h a xs]
    by_cases e : x = a
    · subst e
      rw [(h.eqv x x).mpr rfl]; simp
    · have : PyData.eqv (E x) (E a) = false := by
        cases q : PyData.eqv (E x) (E a) with
        | true => exact absurd ((h.eqv x a).mp q) e
        | false => rfl
      rw [this, Bool.false_or]
      simp [List.mem_cons, Ne.symm e]
theorem En.memL {α : Type} [DecidableEq α] {E : α → Dt} {n : Nat} (h : En E n) (hn : n ≤ 63) (a : α) (xs : List α) : memD (E a) (.list (xs.map E)) = some (decide (a ∈ xs)) := by
  have e : memD (E a) (.list (xs.map E)) = if (Co.shp (E a) && Co.shp (.list (xs.map E))) = true then some ((xs.map E).any fun z => PyData.eqv z (E a)) else none := by unfold memD; rfl
  rw [e, h.shp (by omega), show Co.shp (.list (xs.map E)) = true from h.list.shp (by omega) xs, any_eqv h]; rfl
theorem En.memT {α : Type} [DecidableEq α] {E : α → Dt} {n : Nat} (h : En E n) (hn : n ≤ 63) (a : α) (xs : List α) : memD (E a) (.tuple (xs.map E)) = some (decide (a ∈ xs)) := by
  have e : memD (E a) (.tuple (xs.map E)) = if (Co.shp (E a) && Co.shp (.tuple (xs.map E))) = true then some ((xs.map E).any fun z => PyData.eqv z (E a)) else none := by unfold memD; rfl
  rw [e, h.shp (by omega), show Co.shp (.tuple (xs.map E)) = true from h.tuple.shp (by omega) xs, any_eqv h]; rfl
/-! comprehensions -/
theorem cLoop_map {α β : Type} {body : Dt → Mem → Res (Option Dt)} {M : Mem} (enc : α → Dt) (p : α → Bool) (f : α → β) (E : β → Dt) : ∀ (as : List α), (∀ a ∈ as, body (enc a) M = .ok (if p a then some (E (f a)) else none) M) → cLoop body (as.map enc) M = .ok (((as.filter p).map f).map E) M
  | [], _ => rfl
  | a :: as, h => by
    rw [List.map_cons]
    unfold cLoop
    rw [h a List.mem_cons_self]
    simp only [Res.bind_ok]
    rw [cLoop_map enc p f E as fun b hb => h b (List.mem_cons_of_mem _ hb)]
    simp only [Res.bind_ok]
    cases e : p a with
    | true => rw [List.filter_cons_of_pos (by simpa using e)]; rfl
    | false => rw [List.filter_cons_of_neg (by simp [e])]; rfl
theorem cLoop_all {α β : Type} {body : Dt → Mem → Res (Option Dt)} {M : Mem} (enc : α → Dt) (f : α → β) (E : β → Dt) (as : List α) (h : ∀ a ∈ as, body (enc a) M = .ok (some (E (f a))) M) : cLoop body (as.map enc) M = .ok ((as.map f).map E) M := by
  have := cLoop_map (body := body) (M := M) enc (fun _ => true) f E as fun a ha => h a ha
  rwa [List.filter_eq_self.mpr fun _ _ => rfl] at this
theorem cLoop2_map {α β : Type} {body : Dt → Mem → Res (List Dt)} {M : Mem} (enc : α → Dt) (f : α → List β) (E : β → Dt) : ∀ (as : List α), (∀ a ∈ as, body (enc a) M = .ok ((f a).map E) M) → cLoop2 body (as.map enc) M = .ok ((as.flatMap f).map E) M
  | [], _ => rfl
  | a :: as, h => by
    rw [List.map_cons]
    unfold cLoop2
    rw [h a List.mem_cons_self]
    simp only [Res.bind_ok]
    rw [cLoop2_map enc f E as fun b hb => h b (List.mem_cons_of_mem _ hb)]
    simp only [Res.bind_ok, List.flatMap_cons, List.map_append]
theorem nx_ok' {α : Type} {a : α} {M : Mem} : nx (Res.ok a M) = .ok a M := rfl
/-- a comprehension whose turns change the memory -/
theorem Ok_cLoop {α : Type} {body : Dt → Mem → Res (Option Dt)} (enc : α → Dt) (J : List Dt → Mem → Prop) : ∀ (as : List α) (acc : List Dt) (M : Mem), J acc M → (∀ a ∈ as, ∀ acc M, J acc M → Ok (body (enc a) M) fun o M' => J (acc ++ o.toList) M') → Ok (cLoop body (as.map enc) M) fun r M' => J (acc ++ r) M'
  | [], acc, M, h0, _ => by rw [List.map_nil]; unfold cLoop; rw [Ok_ok, List.append_nil]; exact h0
  | a :: as, acc, M, h0, hs => by
    rw [List.map_cons]
    unfold cLoop
    rw [Ok_bind]
    refine (hs a List.mem_cons_self acc M h0).imp fun o M1 h1 => ?_
    rw [Ok_bind]
    refine (Ok_cLoop enc J as (acc ++ o.toList) M1 h1 fun b hb => hs b (List.mem_cons_of_mem _ hb)).imp fun r M2 h2 => ?_
    rw [Ok_ok]
    cases o with
    | none => simpa using h2
    | some d => simpa using h2
/-! loops -/
def FlQ (J : Rho → Mem → Prop) (R : Vl → Mem → Prop) : Fl → Mem → Prop
  | .next ρ, M => J ρ M
  | .ret v, M => R v M
theorem Ok_floop {α : Type} {wp : List Nat} {body : Dt → Rho → Mem → Res Fl} (enc : α → Dt) (J : List α → Rho → Mem → Prop) (R : Vl → Mem → Prop) : ∀ (as pre : List α) (ρ : Rho) (M : Mem), J pre ρ M →
    (∀ (pre post : List α) (a : α) (ρ : Rho) (M : Mem), J pre ρ M → a ∈ as → Ok (body (enc a) ρ M) (FlQ (fun ρ' M' => J (pre ++ [a]) (wipeD ρ' wp) M') R)) → Ok (floop wp body (as.map enc) ρ M) (FlQ (J (pre ++ as)) R)
  | [], pre, ρ, M, h0, _ => by rw [List.map_nil]; unfold floop; rw [Ok_ok, List.append_nil]; exact h0
  | a :: as, pre, ρ, M, h0, hs => by
    rw [List.map_cons]
    unfold floop
    rw [Ok_bind]
    refine (hs pre [] a ρ M h0 List.mem_cons_self).imp fun f M1 h1 => ?_
    cases f with
    | next ρ' =>
      have := Ok_floop enc J R as (pre ++ [a]) _ M1 h1 fun pre post b ρ M h hb => hs pre post b ρ M h (List.mem_cons_of_mem _ hb)
      rwa [List.append_assoc] at this
    | ret v => exact h1
/-- a while loop: n bounds the turns left -/
theorem Ok_wloop {wp : List Nat} {c : Rho → Mem → Res Vl} {body : Rho → Mem → Res Fl} (J : Nat → Rho → Mem → Prop) (E : Rho → Mem → Prop) (R : Vl → Mem → Prop)
    (hs : ∀ n ρ M, J n ρ M → Ok (c ρ M) fun k M' => ∃ b, k = .dat (.bool b) ∧ if b then Ok (body ρ M') (FlQ (fun ρ' M' => ∃ m, m < n ∧ J m (wipeD ρ' wp) M') R) else E ρ M') :
    ∀ (fuel n : Nat) (ρ : Rho) (M : Mem), n < fuel → J n ρ M → Ok (wloop wp c body fuel ρ M) (FlQ E R)
  | 0, n, _, _, h, _ => absurd h (Nat.not_lt_zero n)
  | fuel + 1, n, ρ, M, h, hj => by
    unfold wloop
    rw [Ok_bind]
    refine (hs n ρ M hj).imp fun k M1 ⟨b, e, h1⟩ => ?_
    subst e
    rw [ifB_b]
    cases b with
    | true =>
      rw [if_pos rfl] at h1 ⊢
      rw [Ok_bind]
      refine h1.imp fun f M2 h2 => ?_
      cases f with
      | next ρ' =>
        obtain ⟨m, hm, h3⟩ := h2
        exact Ok_wloop J E R hs fuel m _ M2 (by omega) h3
      | ret v => exact h2
    | false =>
      rw [if_neg Bool.false_ne_true] at h1 ⊢
      exact h1
/-! equations for simp -/
theorem bind_ite {α β : Type} {c : Prop} [Decidable c] {x y : Res α} {k : α → Mem → Res β} : (if c then x else y).bind k = if c then x.bind k else y.bind k := by by_cases h : c <;> simp [h]
theorem ite_and {b c : Bool} {M : Mem} : (if b = true then Res.ok (Vl.dat (.bool c)) M else Res.ok (Vl.dat (.bool b)) M) = Res.ok (Vl.dat (.bool (b && c))) M := by cases b <;> rfl
theorem ite_or {b c : Bool} {M : Mem} : (if b = true then Res.ok (Vl.dat (.bool b)) M else Res.ok (Vl.dat (.bool c)) M) = Res.ok (Vl.dat (.bool (b || c))) M := by cases b <;> rfl
theorem notV_b {b : Bool} : notV (.dat (.bool b)) = some (.dat (.bool !b)) := rfl
theorem negV_i {i : Int} : negV (.dat (.int i)) = some (.dat (.int (-i))) := rfl
theorem fin_dat {n : Nat} {d : Dt} {M : Mem} : finish n (.ok (.ret (.dat d)) M) = .ok (.dat d) (M.take n) := rfl
theorem fin_nw {n : Nat} {d : List Dt} {M : Mem} : finish n (.ok (.ret (.nw d)) M) = .ok (.nw d) (M.take n) := rfl
theorem fin_nwd {n : Nat} {t : Bool} {d : List (Dt × Dt)} {M : Mem} : finish n (.ok (.ret (.nwd t d)) M) = .ok (.nwd t d) (M.take n) := rfl
theorem fin_next {n : Nat} {ρ : Rho} {M : Mem} : finish n (.ok (.next ρ) M) = .ok (.dat .none) (M.take n) := rfl
theorem fin_ite {n : Nat} {c : Prop} [Decidable c] {x y : Res Fl} : finish n (if c then x else y) = if c then finish n x else finish n y := by by_cases h : c <;> simp [h]
theorem ty_int_int {i : Int} : isTy "int" [.int i] = some (.dat (.bool true)) := rfl
theorem ty_int_bool {i : Bool} : isTy "int" [.bool i] = some (.dat (.bool true)) := rfl
theorem ty_bool_int {i : Int} : isTy "bool" [.int i] = some (.dat (.bool false)) := rfl
theorem ty_bool_bool {i : Bool} : isTy "bool" [.bool i] = some (.dat (.bool true)) := rfl
theorem ty_tup_tup {i : List Dt} : isTy "tuple" [.tuple i] = some (.dat (.bool true)) := rfl
theorem ty_tup_int {i : Int} : isTy "tuple" [.int i] = some (.dat (.bool false)) := rfl
theorem ty_tup_list {i : List Dt} : isTy "tuple" [.list i] = some (.dat (.bool false)) := rfl
theorem bi_isInt {d : Dt} : biV .isInt [.dat d] = isTy "int" [d] := rfl
theorem bi_isBool {d : Dt} : biV .isBool [.dat d] = isTy "bool" [d] := rfl
theorem bi_isTuple {d : Dt} : biV .isTuple [.dat d] = isTy "tuple" [d] := rfl
theorem min_ii {i j : Int} : biV .min [.dat (.int i), .dat (.int j)] = some (.dat (.int (if j < i then j else i))) := rfl
theorem max_ii {i j : Int} : biV .max [.dat (.int i), .dat (.int j)] = some (.dat (.int (if j > i then j else i))) := rfl
theorem int_b {b : Bool} : biV .int [.dat (.bool b)] = some (.dat (.int (if b then 1 else 0))) := rfl
theorem cast3 : (((0 + 1 + 1 + 1 : Nat)) : Int) = 3 := rfl
theorem cast2 : (((0 + 1 + 1 : Nat)) : Int) = 2 := rfl
theorem cmp_lt {i j : Int} : cmpV .lt (.dat (.int i)) (.dat (.int j)) = some (.dat (.bool (decide (i < j)))) := rfl
theorem cmp_le {i j : Int} : cmpV .le (.dat (.int i)) (.dat (.int j)) = some (.dat (.bool (decide (i ≤ j)))) := rfl
theorem cmp_gt {i j : Int} : cmpV .gt (.dat (.int i)) (.dat (.int j)) = some (.dat (.bool (decide (i > j)))) := rfl
theorem cmp_ge {i j : Int} : cmpV .ge (.dat (.int i)) (.dat (.int j)) = some (.dat (.bool (decide (i ≥ j)))) := rfl
theorem cmp_dd {c : Cp} {a b : Dt} {k : Bool} (h : cmpD c a b = some k) : cmpV c (.dat a) (.dat b) = some (.dat (.bool k)) := by
  unfold cmpV
  simp only [Vl.get]
  rw [h]; rfl
theorem cmp_nd {c : Cp} {a : List Dt} {b : Dt} {k : Bool} (h : cmpD c (.list a) b = some k) : cmpV c (.nw a) (.dat b) = some (.dat (.bool k)) := by
  unfold cmpV
  simp only [Vl.get]
  rw [h]; rfl
theorem cmp_dn {c : Cp} {a : Dt} {b : List Dt} {k : Bool} (h : cmpD c a (.list b) = some k) : cmpV c (.dat a) (.nw b) = some (.dat (.bool k)) := by
  unfold cmpV
  simp only [Vl.get]
  rw [h]; rfl
theorem cmp_nn {c : Cp} {a b : List Dt} {k : Bool} (h : cmpD c (.list a) (.list b) = some k) : cmpV c (.nw a) (.nw b) = some (.dat (.bool k)) := by
  unfold cmpV
  simp only [Vl.get]
  rw [h]; rfl
theorem cmp_eq {i j : Int} : cmpV .eq (.dat (.int i)) (.dat (.int j)) = some (.dat (.bool (decide (i = j)))) := cmp_dd (En.int.eq (by decide) i j)
theorem cmp_ne {i j : Int} : cmpV .ne (.dat (.int i)) (.dat (.int j)) = some (.dat (.bool (!decide (i = j)))) := cmp_dd (En.int.ne (by decide) i j)
theorem cmp_memL {i : Int} {ns : List Int} : cmpV .mem (.dat (.int i)) (.dat (.list (ns.map .int))) = some (.dat (.bool (decide (i ∈ ns)))) := cmp_dd (show memD _ _ = _ from En.int.memL (by decide) i ns)
theorem cmp_memT {i : Int} {ns : List Int} : cmpV .mem (.dat (.int i)) (.dat (.tuple (ns.map .int))) = some (.dat (.bool (decide (i ∈ ns)))) := cmp_dd (show memD _ _ = _ from En.int.memT (by decide) i ns)
theorem nmem_of {a b : Dt} {k : Bool} (h : memD a b = some k) : cmpD .nmem a b = some (!k) := by
  show (memD a b).map (!·) = _
  rw [h]; rfl
theorem cmp_nmemL {i : Int} {ns : List Int} : cmpV .nmem (.dat (.int i)) (.dat (.list (ns.map .int))) = some (.dat (.bool (!decide (i ∈ ns)))) := cmp_dd (nmem_of (En.int.memL (by decide) i ns))
theorem cmp_nmemT {i : Int} {ns : List Int} : cmpV .nmem (.dat (.int i)) (.dat (.tuple (ns.map .int))) = some (.dat (.bool (!decide (i ∈ ns)))) := cmp_dd (nmem_of (En.int.memT (by decide) i ns))
theorem cmp_nmemN {i : Int} {ns : List Int} : cmpV .nmem (.dat (.int i)) (.nw (ns.map .int)) = some (.dat (.bool (!decide (i ∈ ns)))) := cmp_dn (nmem_of (En.int.memL (by decide) i ns))
theorem op_add {i j : Int} : opV .add (.dat (.int i)) (.dat (.int j)) = some (.dat (.int (i + j))) := rfl
theorem op_sub {i j : Int} : opV .sub (.dat (.int i)) (.dat (.int j)) = some (.dat (.int (i - j))) := rfl
theorem len_tup {xs : List Dt} : biV .len [.dat (.tuple xs)] = some (.dat (.int xs.length)) := rfl
theorem len_list {xs : List Dt} : biV .len [.dat (.list xs)] = some (.dat (.int xs.length)) := rfl
theorem len_nw {xs : List Dt} : biV .len [.nw xs] = some (.dat (.int xs.length)) := rfl
theorem idx_tup {M : Mem} {xs : List Dt} {i : Int} : idxV M (.dat (.tuple xs)) (.dat (.int i)) = (at? xs i).map .dat := rfl
theorem idx_list {M : Mem} {xs : List Dt} {i : Int} : idxV M (.dat (.list xs)) (.dat (.int i)) = (at? xs i).map .dat := rfl
theorem idx_nw {M : Mem} {xs : List Dt} {i : Int} : idxV M (.nw xs) (.dat (.int i)) = (at? xs i).map .dat := rfl
theorem idx_scr {M : Mem} {xs : List Int} {i : Int} : idxV M (.scr xs) (.dat (.int i)) = (at? xs i).map fun k => .dat (.int k) := rfl
theorem at_3_0 {a b c : Dt} : at? [a, b, c] 0 = some a := rfl
theorem at_3_1 {a b c : Dt} : at? [a, b, c] 1 = some b := rfl
theorem at_3_2 {a b c : Dt} : at? [a, b, c] 2 = some c := rfl
theorem at_2_0 {a b : Dt} : at? [a, b] 0 = some a := rfl
theorem at_2_1 {a b : Dt} : at? [a, b] 1 = some b := rfl
theorem bools_map : ∀ bs : List Bool, bools? (bs.map .bool) = some bs
  | [] => rfl
  | b :: bs => by
    show (bools? (bs.map .bool)).map _ = _
    rw [bools_map bs]; rfl
theorem ints_map : ∀ ns : List Int, ints? (ns.map .int) = some ns
  | [] => rfl
  | n :: ns => by
    show (ints? (ns.map .int)).map _ = _
    rw [ints_map ns]; rfl
theorem all_nw {bs : List Bool} : biV .all [.nw (bs.map .bool)] = some (.dat (.bool (bs.all id))) := by
  show (bools? _).map _ = _
  rw [bools_map]; rfl
theorem any_nw {bs : List Bool} : biV .any [.nw (bs.map .bool)] = some (.dat (.bool (bs.any id))) := by
  show (bools? _).map _ = _
  rw [bools_map]; rfl
theorem insU_len0 (i : Int) : ∀ xs : List Int, (insU i xs).length ≤ xs.length + 1
  | [] => Nat.le_refl _
  | x :: xs => by
    unfold insU
    have := insU_len0 i xs
    split
    · exact Nat.le_refl _
    · split
      · exact Nat.le_succ _
      · rw [List.length_cons, List.length_cons]; omega
theorem srtU_len0 : ∀ xs : List Int, (srtU xs).length ≤ xs.length
  | [] => Nat.le_refl _
  | x :: xs => Nat.le_trans (insU_len0 x (srtU xs)) (Nat.succ_le_succ (srtU_len0 xs))
theorem srt_gen {ns : List Int} {v : Vl} (hv : seq? v = some (ns.map .int)) (h : ns.length < 4000) (h2 : (srtU ns).length < 64) : srtV v = some (.nw ((srtU ns).map .int)) := by
  unfold srtV
  rw [hv, Option.bind_some, ints_map, Option.bind_some, if_pos ⟨h, h2⟩]
theorem srt_nw {ns : List Int} (h : ns.length < 64) : srtV (.nw (ns.map .int)) = some (.nw ((srtU ns).map .int)) := srt_gen rfl (by omega) (by have := srtU_len0 ns; omega)
theorem max_nw {n : Int} {ns : List Int} : biV .max [.nw (.int n :: ns.map .int)] = some (.dat (.int (ns.foldl (fun a b => if b > a then b else a) n))) := by
  show (ints? (.int n :: ns.map .int)).bind _ = _
  rw [show (.int n :: ns.map .int : List Dt) = (n :: ns).map .int from rfl, ints_map]; rfl
theorem sorted_ints {ns : List Int} : biV .sorted [.nw (ns.map .int)] = some (.nw ((sortI ns).map .int)) := by
  show sortedD [.list (ns.map .int)] = _
  simp only [sortedD]
  rw [ints_map]
def l3 (n : N3) : List Int := [n.k, n.b, n.e]
def lexN (x y : N3) : Bool := HT.lexLt (l3 x) (l3 y)
def insN (i : N3) : List N3 → List N3
  | [] => [i]
  | j :: js => if lexN j i then j :: insN i js else i :: j :: js
def sortN (xs : List N3) : List N3 := xs.foldr insN []
theorem insT_l3 (i : N3) : ∀ js : List N3, insT (l3 i) (js.map l3) = (insN i js).map l3
  | [] => rfl
  | j :: js => by
    rw [List.map_cons]
    unfold insT insN
    by_cases h : lexN j i = true
    · rw [if_pos h, if_pos (show HT.lexLt (l3 j) (l3 i) = true from h), insT_l3 i js]; rfl
    · rw [if_neg h, if_neg (show ¬ HT.lexLt (l3 j) (l3 i) = true from h)]; rfl
theorem sortT_l3 : ∀ js : List N3, sortT (js.map l3) = (sortN js).map l3
  | [] => rfl
  | j :: js => by
    show insT (l3 j) (sortT (js.map l3)) = (insN j (sortN js)).map l3
    rw [sortT_l3 js, insT_l3]
theorem tups_n3 : ∀ js : List N3, tups? (js.map eN) = some (js.map l3)
  | [] => rfl
  | j :: js => by
    show (tups? (js.map eN)).map _ = _
    rw [tups_n3 js]; rfl
theorem sorted_n3D (js : List N3) : sortedD [.list (js.map eN)] = some (.nw ((sortN js).map eN)) := by
  simp only [sortedD]
  cases js with
  | nil => rfl
  | cons j js =>
    have : ints? ((j :: js).map eN) = none := rfl
    rw [this, tups_n3, Option.map_some, sortT_l3, List.map_map]
    rfl
theorem sorted_n3 {js : List N3} : biV .sorted [.nw (js.map eN)] = some (.nw ((sortN js).map eN)) := sorted_n3D js
theorem sorted_n3L {js : List N3} : biV .sorted [.dat (.list (js.map eN))] = some (.nw ((sortN js).map eN)) := sorted_n3D js
theorem tup_nw {xs : List Dt} : biV .tuple [.nw xs] = some (.dat (.tuple xs)) := rfl
theorem tup_list {xs : List Dt} : biV .tuple [.dat (.list xs)] = some (.dat (.tuple xs)) := rfl
theorem list_tup {xs : List Dt} : biV .list [.dat (.tuple xs)] = some (.nw xs) := rfl
theorem seq_tup {xs : List Dt} : seq? (.dat (.tuple xs)) = some xs := rfl
theorem seq_list {xs : List Dt} : seq? (.dat (.list xs)) = some xs := rfl
theorem seq_nw {xs : List Dt} : seq? (.nw xs) = some xs := rfl
/-! notes -/
theorem fold_n3 {a b c : Int} : PyData.tuple [.int a, .int b, .int c] = eN ⟨a, b, c⟩ := rfl
theorem bind_n3 {i j k : Nat} {n : N3} {ρ : Rho} : bindT (.tp (.cons (.nm i) (.cons (.nm j) (.cons (.nm k) .nil)))) (eN n) ρ = some (((ρ.set i (.dat (.int n.k))).set j (.dat (.int n.b))).set k (.dat (.int n.e))) := rfl
theorem bind_pr {i j : Nat} {a b : Dt} {ρ : Rho} : bindT (.tp (.cons (.nm i) (.cons (.nm j) .nil))) (.tuple [a, b]) ρ = some ((ρ.set i (.dat a)).set j (.dat b)) := rfl
theorem bind_nm {i : Nat} {a : Dt} {ρ : Rho} : bindT (.nm i) a ρ = some (ρ.set i (.dat a)) := rfl
theorem idx_n0 {n : N3} {M : Mem} : idxV M (.dat (eN n)) (.dat (.int 0)) = some (.dat (.int n.k)) := rfl
theorem idx_n1 {n : N3} {M : Mem} : idxV M (.dat (eN n)) (.dat (.int 1)) = some (.dat (.int n.b)) := rfl
theorem idx_n2 {n : N3} {M : Mem} : idxV M (.dat (eN n)) (.dat (.int 2)) = some (.dat (.int n.e)) := rfl
theorem len_n3 {n : N3} : biV .len [.dat (eN n)] = some (.dat (.int 3)) := rfl
theorem ty_n3 {n : N3} : isTy "tuple" [eN n] = some (.dat (.bool true)) := rfl
theorem lt_n3 {x y : N3} : cmpV .lt (.dat (eN x)) (.dat (eN y)) = some (.dat (.bool (lexN x y))) := rfl
theorem ite_notand {b c : Bool} {M : Mem} : (if (!b) = true then Res.ok (Vl.dat (.bool false)) M else Res.ok (Vl.dat (.bool c)) M) = Res.ok (Vl.dat (.bool (b && c))) M := by cases b <;> rfl
def ePr {α β : Type} (E : α → Dt) (F : β → Dt) (p : α × β) : Dt := .tuple [E p.1, F p.2]
theorem zip_map {α β : Type} (E : α → Dt) (F : β → Dt) (as : List α) (bs : List β) : ((as.map E).zip (bs.map F)).map (fun p => PyData.tuple [p.1, p.2]) = (as.zip bs).map (ePr E F) := by
  rw [List.zip_map, List.map_map]; rfl
theorem zip_tt {α β : Type} {E : α → Dt} {F : β → Dt} {as : List α} {bs : List β} : zip? (.dat (.tuple (as.map E))) (.dat (.tuple (bs.map F))) = some ((as.zip bs).map (ePr E F)) := congrArg some (zip_map E F as bs)
theorem zip_tl {α β : Type} {E : α → Dt} {F : β → Dt} {as : List α} {bs : List β} : zip? (.dat (.tuple (as.map E))) (.dat (.list (bs.map F))) = some ((as.zip bs).map (ePr E F)) := congrArg some (zip_map E F as bs)
theorem zip_ll {α β : Type} {E : α → Dt} {F : β → Dt} {as : List α} {bs : List β} : zip? (.dat (.list (as.map E))) (.dat (.list (bs.map F))) = some ((as.zip bs).map (ePr E F)) := congrArg some (zip_map E F as bs)
theorem zip_ln {α β : Type} {E : α → Dt} {F : β → Dt} {as : List α} {bs : List β} : zip? (.dat (.list (as.map E))) (.nw (bs.map F)) = some ((as.zip bs).map (ePr E F)) := congrArg some (zip_map E F as bs)
theorem bind_ePr {α β : Type} {E : α → Dt} {F : β → Dt} {i j : Nat} {p : α × β} {ρ : Rho} : bindT (.tp (.cons (.nm i) (.cons (.nm j) .nil))) (ePr E F p) ρ = some ((ρ.set i (.dat (E p.1))).set j (.dat (F p.2))) := rfl
theorem cut_tail {α : Type} (xs : List α) : cut xs (some 1) none = xs.tail := by
  cases xs with
  | nil => rfl
  | cons x xs =>
    unfold cut
    rw [HT.sIx_none, show (some (1 : Int)) = some ((1 : Nat) : Int) from rfl, HT.sIx_nat]
    have : min 1 (x :: xs).length = 1 := by simp
    rw [this]
    simp
theorem slc_tail {α : Type} {E : α → Dt} {xs : List α} : slcV (.dat (.tuple (xs.map E))) (some 1) none = some (.dat (.tuple (xs.tail.map E))) := by
  show some (Vl.dat (.tuple (cut (xs.map E) (some 1) none))) = _
  rw [cut_tail, List.map_tail]
theorem slc_tailL {α : Type} {E : α → Dt} {xs : List α} : slcV (.dat (.list (xs.map E))) (some 1) none = some (.nw (xs.tail.map E)) := by
  show some (Vl.nw (cut (xs.map E) (some 1) none)) = _
  rw [cut_tail, List.map_tail]
theorem ends_t {i : Int} : ends? true (.dat (.int i)) = some (some i) := rfl
theorem ends_f {v : Vl} : ends? false v = some none := rfl
/-! constructs with a body -/
section
variable {cf : Nat → List Vl → Mem → Res Vl} {ρ : Rho} {M : Mem}
theorem comp_map {α β : Type} {own : List Nat} {tg : Tg} {it : It} {c e : Ex} (enc : α → Dt) (p : α → Bool) (f : α → β) (E : β → Dt) (as : List α) (hI : evI cf it ρ M = .ok (as.map enc) M)
    (h : ∀ a ∈ as, (match bindT tg (enc a) (wipeD ρ own) with
      | none => Res.bad
      | some ρ' => (ev cf c ρ' M).bind fun k M => ifB k ((ev cf e ρ' M).bind fun v M => .lift (v.get.map some) M) (.ok none M)) = if p a then .ok (some (E (f a))) M else .ok none M) :
    ev cf (.comp own tg it c e) ρ M = .ok (.nw (((as.filter p).map f).map E)) M := by
  simp only [ev]
  rw [hI]
  simp only [Res.bind_ok]
  rw [cLoop_map enc p f E as fun a ha => (h a ha).trans (by cases p a <;> rfl)]
  rfl
theorem comp_all {α β : Type} {own : List Nat} {tg : Tg} {it : It} {c e : Ex} (enc : α → Dt) (f : α → β) (E : β → Dt) (as : List α) (hI : evI cf it ρ M = .ok (as.map enc) M)
    (h : ∀ a ∈ as, (match bindT tg (enc a) (wipeD ρ own) with
      | none => Res.bad
      | some ρ' => (ev cf c ρ' M).bind fun k M => ifB k ((ev cf e ρ' M).bind fun v M => .lift (v.get.map some) M) (.ok none M)) = .ok (some (E (f a))) M) :
    ev cf (.comp own tg it c e) ρ M = .ok (.nw ((as.map f).map E)) M := by
  have := comp_map (own := own) (tg := tg) (c := c) (e := e) enc (fun _ => true) f E as hI fun a ha => (h a ha).trans (if_pos rfl).symm
  rwa [List.filter_eq_self.mpr fun _ _ => rfl] at this
theorem comp2_map {α β γ : Type} {own own1 : List Nat} {tg tg1 : Tg} {it it1 : It} {c e : Ex} (enc : α → Dt) (enc1 : β → Dt) (src : α → List β) (p : α → β → Bool) (f : α → β → γ) (E : γ → Dt) (as : List α) (hI : evI cf it ρ M = .ok (as.map enc) M)
    (h1 : ∀ a ∈ as, ∃ ρ', bindT tg (enc a) (wipeD ρ own) = some ρ' ∧ evI cf it1 ρ' M = .ok ((src a).map enc1) M ∧ ∀ b ∈ src a, (match bindT tg1 (enc1 b) (wipeD ρ' own1) with
      | none => Res.bad
      | some ρ'' => (ev cf c ρ'' M).bind fun k M => ifB k ((ev cf e ρ'' M).bind fun v M => .lift (v.get.map some) M) (.ok none M)) = if p a b then .ok (some (E (f a b))) M else .ok none M)
    (hl : (as.flatMap fun a => ((src a).filter (p a)).map (f a)).length ≤ lim) :
    ev cf (.comp2 own own1 tg it tg1 it1 c e) ρ M = .ok (.nw ((as.flatMap fun a => ((src a).filter (p a)).map (f a)).map E)) M := by
  simp only [ev]
  rw [hI]
  simp only [Res.bind_ok]
  rw [cLoop2_map enc (fun a => ((src a).filter (p a)).map (f a)) E as fun a ha => by
    obtain ⟨ρ', e1, e2, e3⟩ := h1 a ha
    rw [e1]
    dsimp only
    rw [e2]
    simp only [Res.bind_ok]
    exact cLoop_map enc1 (p a) (f a) E (src a) fun b hb => (e3 b hb).trans (by cases p a b <;> rfl)]
  simp only [nx_ok', Res.bind_ok, List.length_map]
  rw [if_pos hl]
theorem exec_fr {α : Type} {vs wp : List Nat} {tg : Tg} {it : It} {body : Stms} {M' : Mem} (enc : α → Dt) (as : List α) (hI : evIv cf vs it ρ M = .ok (as.map enc) M') : exec cf (.fr vs wp tg it body) ρ M = floop wp (fun x ρ M => match bindT tg x ρ with
      | some ρ' => execs cf body ρ' M
      | none => Res.bad) (as.map enc) (wipeD ρ wp) M' := by
  simp only [exec]
  rw [hI]; rfl
theorem floop_fold {α σ : Type} {wp : List Nat} {body : Dt → Rho → Mem → Res Fl} (enc : α → Dt) (S : σ → Rho) (step : σ → α → σ) : ∀ (as : List α) (s : σ), (∀ s, ∀ a ∈ as, ∃ ρ', body (enc a) (S s) M = .ok (.next ρ') M ∧ wipeD ρ' wp = S (step s a)) → floop wp body (as.map enc) (S s) M = .ok (.next (S (as.foldl step s))) M
  | [], s, _ => rfl
  | a :: as, s, h => by
    obtain ⟨ρ', e1, e2⟩ := h s a List.mem_cons_self
    rw [List.map_cons]
    unfold floop
    rw [e1]
    simp only [Res.bind_ok]
    rw [e2]
    exact floop_fold enc S step as _ fun s b hb => h s b (List.mem_cons_of_mem _ hb)
theorem fr_fold {α σ : Type} {vs wp : List Nat} {tg : Tg} {it : It} {body : Stms} (enc : α → Dt) (as : List α) (S : σ → Rho) (step : σ → α → σ) (s0 : σ) (hI : evIv cf vs it ρ M = .ok (as.map enc) M) (h0 : wipeD ρ wp = S s0)
    (h : ∀ s, ∀ a ∈ as, ∃ ρ', (match bindT tg (enc a) (S s) with
      | some ρ' => execs cf body ρ' M
      | none => Res.bad) = .ok (.next ρ') M ∧ wipeD ρ' wp = S (step s a)) : exec cf (.fr vs wp tg it body) ρ M = .ok (.next (S (as.foldl step s0))) M := by
  rw [exec_fr enc as hI, h0]
  exact floop_fold enc S step as s0 h
theorem exec_wh {vs wp : List Nat} {c : Ex} {body : Stms} : exec cf (.wh vs wp c body) ρ M = wloop wp (fun ρ M => ev cf c (view ρ vs) M) (fun ρ M => execs cf body ρ M) FUEL (wipeD ρ wp) M := by simp only [exec]
end
/-! assignments -/
theorem asg_vd {i : Nat} {d : Dt} {ρ : Rho} {M : Mem} : asg .val i (.dat d) ρ M = .ok (ρ.set i (.dat d)) M := rfl
theorem asg_vn {i : Nat} {d : List Dt} {ρ : Rho} {M : Mem} : asg .val i (.nw d) ρ M = .ok (ρ.set i (.dat (.list d))) M := rfl
theorem asg_vm {i : Nat} {t : Bool} {d : List (Dt × Dt)} {ρ : Rho} {M : Mem} : asg .val i (.nwd t d) ρ M = .ok (ρ.set i (.dat (.dict (mkD t d)))) M := rfl
theorem asg_vc {i n : Nat} {ρ : Rho} {M : Mem} : asg .val i (.cell n) ρ M = .ok (ρ.set i (.cell n)) M := rfl
theorem asg_vs {i : Nat} {n : List Int} {ρ : Rho} {M : Mem} : asg .val i (.scr n) ρ M = .ok (ρ.set i (.scr n)) M := rfl
theorem asg_on {i : Nat} {d : List Dt} {ρ : Rho} {M : Mem} : asg .own i (.nw d) ρ M = .ok (ρ.set i (.own d)) M := rfl
theorem asg_om {i : Nat} {t : Bool} {d : List (Dt × Dt)} {ρ : Rho} {M : Mem} : asg .own i (.nwd t d) ρ M = .ok (ρ.set i (.odc t d)) M := rfl
theorem asg_cn {i : Nat} {d : List Dt} {ρ : Rho} {M : Mem} : asg .cell i (.nw d) ρ M = if noLs d then .ok (ρ.set i (.cell M.length)) (M ++ [.lst d]) else .bad := rfl
theorem asgs_0 {ρ : Rho} {M : Mem} : asgs [] [] ρ M = .ok ρ M := rfl
theorem asgs_1 {k : Kd} {i : Nat} {ts : List (Kd × Nat)} {v : Vl} {vs : List Vl} {ρ : Rho} {M : Mem} : asgs ((k, i) :: ts) (v :: vs) ρ M = (asgs ts vs ρ M).bind fun ρ M => asg k i v ρ M := rfl
/-! calls -/
def Has (T : Nat → Option Fn) : List (Nat × Fn) → Prop
  | [] => True
  | (i, f) :: r => T i = some f ∧ Has T r
theorem Has.mem {T : Nat → Option Fn} : ∀ {l : List (Nat × Fn)}, Has T l → ∀ p ∈ l, T p.1 = some p.2
  | _ :: _, h, p, hp => (List.mem_cons.mp hp).elim (fun e => by rw [e]; exact h.1) (Has.mem h.2 p)
theorem Has.of {T : Nat → Option Fn} : ∀ {l : List (Nat × Fn)}, (∀ p ∈ l, T p.1 = some p.2) → Has T l
  | [], _ => trivial
  | p :: r, h => ⟨h p List.mem_cons_self, Has.of fun q hq => h q (List.mem_cons_of_mem _ hq)⟩
theorem Has.sub {T : Nat → Option Fn} {l l' : List (Nat × Fn)} (h : Has T l) (hs : ∀ p ∈ l', p ∈ l) : Has T l' := Has.of fun p hp => h.mem p (hs p hp)
theorem callAt_def {T : Nat → Option Fn} {l i : Nat} {fn : Fn} {as : List Vl} {M : Mem} (h : T i = some fn) (hn : as.length = fn.np) : callAt T (l + 1) i as M = finish M.length (execs (callAt T l) fn.body (as ++ List.replicate (fn.nl - fn.np) .und) M) := by
  rw [callAt, h]
  dsimp only
  rw [if_pos hn]
theorem take_self {M : Mem} : M.take M.length = M := List.take_length
end Co
end

section
set_option Elab.async false
set_option linter.all false
set_option maxRecDepth 100000
set_option maxHeartbeats 1000000
namespace Co
open PySem
example : True := by
  have := @exec.eq_1
  have := @exec.eq_2
  have := @exec.eq_3
  have := @exec.eq_4
  have := @exec.eq_5
  have := @exec.eq_6
  have := @exec.eq_7
  have := @exec.eq_8
  have := @exec.eq_9
  have := @exec.eq_12
  have := @exec.eq_13
  have := @exec.eq_14
  have := @exec.eq_15
  have := @exec.eq_16
  have := @exec.eq_17
  have := @exec.eq_18
  have := @ev.eq_1
  have := @ev.eq_2
  have := @ev.eq_3
  have := @ev.eq_4
  have := @ev.eq_5
  have := @ev.eq_6
  have := @ev.eq_7
  have := @ev.eq_8
  have := @ev.eq_9
  have := @ev.eq_10
  have := @ev.eq_11
  have := @ev.eq_12
  have := @ev.eq_13
  have := @ev.eq_14
  have := @ev.eq_15
  have := @ev.eq_16
  have := @ev.eq_17
  have := @ev.eq_18
  have := @ev.eq_19
  have := @ev.eq_20
  have := @ev.eq_21
  have := @ev.eq_22
  have := @ev.eq_23
  have := @ev.eq_24
  trivial
local macro_rules | `(tactic| get_elem_tactic_extensible) => `(tactic| simp only [*, execs, exec.eq_1, exec.eq_2, exec.eq_3, exec.eq_4, exec.eq_5, exec.eq_6, exec.eq_7, exec.eq_8, exec.eq_9, exec.eq_12, exec.eq_13, exec.eq_14, exec.eq_15, exec.eq_16, exec.eq_17, exec.eq_18, ev.eq_1, ev.eq_2, ev.eq_3, ev.eq_4, ev.eq_5, ev.eq_6, ev.eq_7, ev.eq_8, ev.eq_9, ev.eq_10, ev.eq_11, ev.eq_12, ev.eq_13, ev.eq_14, ev.eq_15, ev.eq_16, ev.eq_17, ev.eq_18, ev.eq_19, ev.eq_20, ev.eq_21, ev.eq_22, ev.eq_23, ev.eq_24, evs, evI, evIv, evp, view, bor, okv, okv1, asg_vd, asg_vn, asg_vm, asg_vc, asg_vs, asg_on, asg_om, asg_cn, asgs_0, asgs_1, Res.bind_ok, Res.lift_some, nx_ok', ifB_b, bind_ite, ite_and, ite_or, ite_notand, List.isEmpty_nil, List.isEmpty_cons, Bool.true_or, Bool.false_or, Bool.or_true, Bool.or_false, Bool.true_and, Bool.and_true, Bool.not_true, Bool.not_false, if_true, Bool.false_eq_true, if_false, List.getD_eq_getElem?_getD, List.getElem?_cons_zero, List.getElem?_cons_succ, Option.getD_some, List.length_cons, List.length_nil, List.length_map, Nat.sub_self, Nat.reduceAdd, Nat.reduceSub, List.replicate, List.cons_append, List.nil_append, List.append_nil, List.map_cons, List.map_nil, fin1, fin_dat, fin_nw, fin_nwd, fin_next, fin_ite, take_self, bind_n3, bind_pr, bind_ePr, bind_nm, List.set_cons_zero, List.set_cons_succ, wipeD, gets, Vl.get, Vl.nrm, Option.map_some, notV_b, negV_i, bi_isInt, bi_isBool, bi_isTuple, ty_int_int, ty_int_bool, ty_bool_int, ty_bool_bool, ty_tup_tup, ty_n3, min_ii, max_ii, int_b, len_tup, len_list, len_nw, len_n3, all_nw, any_nw, max_nw, tup_nw, tup_list, list_tup, sorted_n3, sorted_n3L, sorted_ints, cmp_lt, cmp_le, cmp_gt, cmp_ge, cmp_eq, cmp_ne, cmp_memL, cmp_memT, cmp_nmemL, cmp_nmemT, cmp_nmemN, lt_n3, op_add, op_sub, idx_n0, idx_n1, idx_n2, idx_tup, idx_list, idx_nw, at_2_0, at_2_1, seq_tup, seq_list, seq_nw, fold_n3, zip_tt, zip_tl, zip_ll, zip_ln, slc_tail, slc_tailL, ends_t, ends_f, cast3, cast2, decide_true, decide_false])
theorem is_integer_int {T : Nat → Option Fn} (h : T 0 = some F.is_integer) (l : Nat) (i lo hi : Int) (M : Mem) : callAt T (l + 1) 0 [.dat (.int i), .dat (.int lo), .dat (.int hi)] M = .ok (.dat (.bool (decide (lo ≤ i) && decide (i ≤ hi)))) M := by
  rw [callAt_def h rfl]
  unfold F.is_integer
  get_elem_tactic_extensible
def noteOk (n : N3) : Bool := (decide (1 ≤ n.k) && decide (n.k ≤ 88)) && ((decide (0 ≤ n.b) && decide (n.b ≤ 60)) && (decide (n.b + 1 ≤ n.e) && decide (n.e ≤ 60)))
theorem is_note_n3 {T : Nat → Option Fn} (h0 : T 0 = some F.is_integer) (h : T 1 = some F.is_note) (l : Nat) (n : N3) (M : Mem) : callAt T (l + 2) 1 [.dat (eN n)] M = .ok (.dat (.bool (noteOk n))) M := by
  rw [callAt_def h rfl]
  unfold F.is_note
  have e0 := is_integer_int h0 l
  clear h h0
  get_elem_tactic_extensible
  rfl
def pairOk (x y : N3) : Bool := lexN x y && (!decide (x.k = y.k) || decide (x.e ≤ y.b))
def pieceOk (p : List N3) : Bool := decide (p.length ≤ 40) && (p.all noteOk && (p.zip p.tail).all fun q => pairOk q.1 q.2)
def eP (p : List N3) : Vl := .dat (.tuple (p.map eN))
theorem is_piece_n3 {T : Nat → Option Fn} (h0 : T 0 = some F.is_integer) (h1 : T 1 = some F.is_note) (h : T 2 = some F.is_piece) (l : Nat) (p : List N3) (M : Mem) : callAt T (l + 3) 2 [eP p] M = .ok (.dat (.bool (pieceOk p))) M := by
  rw [callAt_def h rfl]
  unfold F.is_piece eP
  have e1 := is_note_n3 h0 h1 l
  clear h h0 h1
  get_elem_tactic_extensible
  rw [comp_all (tg := .nm 4) eN noteOk .bool p (by get_elem_tactic_extensible) (fun a _ => by get_elem_tactic_extensible)]
  get_elem_tactic_extensible
  rw [comp_all (own := [2, 3]) (ePr eN eN) (fun q => pairOk q.1 q.2) .bool (p.zip p.tail) (by get_elem_tactic_extensible) (fun a _ => by get_elem_tactic_extensible; rfl)]
  get_elem_tactic_extensible
  unfold pieceOk
  by_cases h1 : p.length ≤ 40
  · have h2 : ¬ (p.length : Int) > 40 := by omega
    simp only [decide_eq_true h1, decide_eq_false h2, Bool.false_eq_true, if_false, Bool.true_and, List.all_map]
    show _ = Res.ok (Vl.dat (.bool (p.all (id ∘ noteOk) && (p.zip p.tail).all (id ∘ fun q => pairOk q.1 q.2)))) M
    cases p.all (id ∘ noteOk) <;> rfl
  · have h2 : (p.length : Int) > 40 := by omega
    simp only [decide_eq_false h1, decide_eq_true h2, if_true, Bool.false_and]
theorem require_piece_n3 {T : Nat → Option Fn} (h0 : T 0 = some F.is_integer) (h1 : T 1 = some F.is_note) (h2 : T 2 = some F.is_piece) (h : T 3 = some F.require_piece) (l : Nat) (p : List N3) (hp : pieceOk p = true) (M : Mem) : callAt T (l + 4) 3 [eP p] M = .ok (.dat .none) M := by
  rw [callAt_def h rfl]
  unfold F.require_piece
  have e1 := is_piece_n3 h0 h1 h2 l p
  rw [hp] at e1
  unfold eP at e1 ⊢
  clear h h0 h1 h2
  get_elem_tactic_extensible
theorem sounding_at_n3 {T : Nat → Option Fn} (h : T 4 = some F.sounding_at) (l : Nat) (p : List N3) (b : Int) (M : Mem) : callAt T (l + 1) 4 [eP p, .dat (.int b)] M = .ok (.nw (((p.filter fun n => decide (n.b ≤ b) && decide (b < n.e)).map N3.k).map .int)) M := by
  rw [callAt_def h rfl]
  unfold F.sounding_at eP
  clear h
  get_elem_tactic_extensible
  rw [comp_map eN (fun n => decide (n.b ≤ b) && decide (b < n.e)) N3.k .int p (by get_elem_tactic_extensible) (fun a _ => by get_elem_tactic_extensible)]
  get_elem_tactic_extensible
def struck (p : List N3) (n : N3) : Bool := p.any fun m => decide (m.k = n.k) && decide (m.b = n.e)
theorem struck_again_n3 {T : Nat → Option Fn} (h : T 5 = some F.struck_again) (l : Nat) (p : List N3) (n : N3) (M : Mem) : callAt T (l + 1) 5 [eP p, .dat (eN n)] M = .ok (.dat (.bool (struck p n))) M := by
  rw [callAt_def h rfl]
  unfold F.struck_again eP
  clear h
  get_elem_tactic_extensible
  rw [comp_all eN (fun m => decide (m.k = n.k) && decide (m.b = n.e)) .bool p (by get_elem_tactic_extensible) (fun a _ => by get_elem_tactic_extensible)]
  get_elem_tactic_extensible
  simp only [List.any_map]
  rfl
def changesOf (p : List N3) : List Int := srtU ((p.filter fun n => decide (n.e < 60) && !struck p n).map N3.e)
theorem changes_of_n3 {T : Nat → Option Fn} (h5 : T 5 = some F.struck_again) (h : T 6 = some F.changes_of) (l : Nat) (p : List N3) (hp : p.length ≤ 40) (M : Mem) : callAt T (l + 2) 6 [eP p] M = .ok (.nw ((changesOf p).map .int)) M := by
  rw [callAt_def h rfl]
  unfold F.changes_of
  have e1 := struck_again_n3 h5 l p
  clear h h5
  unfold eP at *
  get_elem_tactic_extensible
  rw [comp_map eN (fun n => decide (n.e < 60) && !struck p n) N3.e .int p (by get_elem_tactic_extensible) (fun a _ => by get_elem_tactic_extensible)]
  have hl : (((p.filter fun n => decide (n.e < 60) && !struck p n).map N3.e)).length < 64 := by
    rw [List.length_map]
    have := List.length_filter_le (fun n => decide (n.e < 60) && !struck p n) p
    omega
  have e2 := srt_nw hl
  get_elem_tactic_extensible
  rfl
theorem require_beat_i {T : Nat → Option Fn} (h0 : T 0 = some F.is_integer) (h : T 7 = some F.require_beat) (l : Nat) (b : Int) (hb : 0 ≤ b ∧ b ≤ 59) (M : Mem) : callAt T (l + 2) 7 [.dat (.int b)] M = .ok (.dat .none) M := by
  rw [callAt_def h rfl]
  unfold F.require_beat
  have e1 := is_integer_int h0 l
  clear h h0
  get_elem_tactic_extensible
  have h2 : b ≤ 60 - 1 := by omega
  simp only [decide_eq_true hb.1, decide_eq_true h2, Bool.true_and, Bool.not_true, Bool.false_eq_true, if_false]
theorem sounding_n3 {T : Nat → Option Fn} (h0 : T 0 = some F.is_integer) (h1 : T 1 = some F.is_note) (h2 : T 2 = some F.is_piece) (h3 : T 3 = some F.require_piece) (h4 : T 4 = some F.sounding_at) (h7 : T 7 = some F.require_beat) (h : T 8 = some F.sounding) (l : Nat) (p : List N3) (hp : pieceOk p = true) (b : Int) (hb : 0 ≤ b ∧ b ≤ 59) (M : Mem) :
    callAt T (l + 5) 8 [eP p, .dat (.int b)] M = .ok (.nw (((p.filter fun n => decide (n.b ≤ b) && decide (b < n.e)).map N3.k).map .int)) M := by
  rw [callAt_def h rfl]
  unfold F.sounding
  have e1 := require_piece_n3 h0 h1 h2 h3 l p hp
  have e2 := require_beat_i h0 h7 (l + 2) b hb
  have e3 := sounding_at_n3 h4 (l + 3) p b
  clear h h0 h1 h2 h3 h4 h7 hp hb
  unfold eP at *
  get_elem_tactic_extensible
theorem changes_n3 {T : Nat → Option Fn} (h0 : T 0 = some F.is_integer) (h1 : T 1 = some F.is_note) (h2 : T 2 = some F.is_piece) (h3 : T 3 = some F.require_piece) (h5 : T 5 = some F.struck_again) (h6 : T 6 = some F.changes_of) (h : T 9 = some F.changes) (l : Nat) (p : List N3) (hp : pieceOk p = true) (hl : p.length ≤ 40) (M : Mem) :
    callAt T (l + 5) 9 [eP p] M = .ok (.nw ((changesOf p).map .int)) M := by
  rw [callAt_def h rfl]
  unfold F.changes
  have e1 := require_piece_n3 h0 h1 h2 h3 l p hp
  have e3 := changes_of_n3 h5 h6 (l + 2) p hl
  clear h h0 h1 h2 h3 h5 h6 hp hl
  unfold eP at *
  get_elem_tactic_extensible
end Co
end

section
set_option Elab.async false
set_option linter.all false
set_option maxRecDepth 100000
set_option maxHeartbeats 1000000
namespace Co
open PySem
theorem idx_cell {M : Mem} {n : Nat} {i : Int} : idxV M (.cell n) (.dat (.int i)) = match M[n]? with
  | some (.lst xs) => (at? xs i).map .dat
  | none => none := rfl
theorem len_scr {ns : List Int} : biV .len [.scr ns] = some (.dat (.int ns.length)) := rfl
theorem take_set {M : Mem} {n : Nat} {x : Cell} : (M.set n x).take M.length = M.set n x := by
  have : (M.set n x).length = M.length := List.length_set
  rw [← this]; exact List.take_length
theorem ix_3_0 : ix 3 0 = some 0 := rfl
theorem ix_3_1 : ix 3 1 = some 1 := rfl
theorem at_some {α : Type} (xs : List α) (i : Int) (h0 : 0 ≤ i) (h : i < xs.length) : ∃ x ∈ xs, at? xs i = some x := by
  obtain ⟨j, rfl⟩ := Int.eq_ofNat_of_zero_le h0
  have hj : j < xs.length := by omega
  refine ⟨xs[j], List.getElem_mem hj, ?_⟩
  unfold at? L2.atI
  have : L2.ixN xs.length (j : Int) = some j := by
    unfold L2.ixN
    rw [if_pos h0, if_pos h]; rfl
  rw [this]; simp [hj]
theorem op_mod {i j : Int} (h : 0 < j) : opV .mod (.dat (.int i)) (.dat (.int j)) = some (.dat (.int (i % j))) := by
  show (if 0 < j then some (Vl.dat (.int (i % j))) else none) = _
  rw [if_pos h]
theorem op_fdiv {i j : Int} (h : 0 < j ∧ j < 1073741824) : opV .fdiv (.dat (.int i)) (.dat (.int j)) = some (.dat (.int (i / j))) := by
  show (if 0 < j ∧ j < 1073741824 then some (Vl.dat (.int (i / j))) else none) = _
  rw [if_pos h]
theorem op_mul {i j : Int} (h : -(2 ^ 64) < i ∧ i < 2 ^ 64) : opV .mul (.dat (.int i)) (.dat (.int j)) = some (.dat (.int (i * j))) := by
  show (if (-(2 ^ 64) < i ∧ i < 2 ^ 64) ∨ (-(2 ^ 64) < j ∧ j < 2 ^ 64) then some (Vl.dat (.int (i * j))) else none) = _
  rw [if_pos (Or.inl h)]
theorem op_mulR {i j : Int} (h : -(2 ^ 64) < j ∧ j < 2 ^ 64) : opV .mul (.dat (.int i)) (.dat (.int j)) = some (.dat (.int (i * j))) := by
  show (if (-(2 ^ 64) < i ∧ i < 2 ^ 64) ∨ (-(2 ^ 64) < j ∧ j < 2 ^ 64) then some (Vl.dat (.int (i * j))) else none) = _
  rw [if_pos (Or.inr h)]
theorem op_pow {i j : Int} (h : 0 ≤ j ∧ j ≤ 1000000 ∧ i.natAbs < 2 ^ 64) : opV .pow (.dat (.int i)) (.dat (.int j)) = some (.dat (.int (i ^ j.toNat))) := by
  show (if 0 ≤ j ∧ j ≤ 1000000 ∧ i.natAbs < 2 ^ 64 then some (Vl.dat (.int (i ^ j.toNat))) else none) = _
  rw [if_pos h]
/-- a source in memory -/
def SrcAt (M : Mem) (n : Nat) : Prop := ∃ c s p : Int, M[n]? = some (.lst [.int c, .int s, .int p]) ∧ (0 < p ∧ p < 2147483648) ∧ 0 ≤ s ∧ s < 4294967296
/-- only the place n has changed -/
def Upd (n : Nat) (M M' : Mem) : Prop := M'.length = M.length ∧ ∀ j, j ≠ n → M'[j]? = M[j]?
theorem Upd.refl {n : Nat} {M : Mem} : Upd n M M := ⟨rfl, fun _ _ => rfl⟩
theorem Upd.trans {n : Nat} {A B C : Mem} (h : Upd n A B) (k : Upd n B C) : Upd n A C := ⟨k.1.trans h.1, fun j hj => (k.2 j hj).trans (h.2 j hj)⟩
theorem Upd.set {n : Nat} {M : Mem} {x : Cell} : Upd n M (M.set n x) := ⟨List.length_set, fun j hj => List.getElem?_set_ne (Ne.symm hj)⟩
example : True := by
  have := @exec.eq_1
  have := @exec.eq_2
  have := @exec.eq_3
  have := @exec.eq_4
  have := @exec.eq_5
  have := @exec.eq_6
  have := @exec.eq_7
  have := @exec.eq_8
  have := @exec.eq_9
  have := @exec.eq_12
  have := @exec.eq_13
  have := @exec.eq_14
  have := @exec.eq_15
  have := @exec.eq_16
  have := @exec.eq_17
  have := @exec.eq_18
  have := @ev.eq_1
  have := @ev.eq_2
  have := @ev.eq_3
  have := @ev.eq_4
  have := @ev.eq_5
  have := @ev.eq_6
  have := @ev.eq_7
  have := @ev.eq_8
  have := @ev.eq_9
  have := @ev.eq_10
  have := @ev.eq_11
  have := @ev.eq_12
  have := @ev.eq_13
  have := @ev.eq_14
  have := @ev.eq_15
  have := @ev.eq_16
  have := @ev.eq_17
  have := @ev.eq_18
  have := @ev.eq_19
  have := @ev.eq_20
  have := @ev.eq_21
  have := @ev.eq_22
  have := @ev.eq_23
  have := @ev.eq_24
  trivial
local macro_rules | `(tactic| get_elem_tactic_extensible) => `(tactic| simp only [*, execs, exec.eq_1, exec.eq_2, exec.eq_3, exec.eq_4, exec.eq_5, exec.eq_6, exec.eq_7, exec.eq_8, exec.eq_9, exec.eq_12, exec.eq_13, exec.eq_14, exec.eq_15, exec.eq_16, exec.eq_17, exec.eq_18, ev.eq_1, ev.eq_2, ev.eq_3, ev.eq_4, ev.eq_5, ev.eq_6, ev.eq_7, ev.eq_8, ev.eq_9, ev.eq_10, ev.eq_11, ev.eq_12, ev.eq_13, ev.eq_14, ev.eq_15, ev.eq_16, ev.eq_17, ev.eq_18, ev.eq_19, ev.eq_20, ev.eq_21, ev.eq_22, ev.eq_23, ev.eq_24, evs, evI, evIv, evp, view, bor, okv, okv1, asg_vd, asg_vn, asg_vm, asg_vc, asg_vs, asg_on, asg_om, asg_cn, asgs_0, asgs_1, Res.bind_ok, Res.lift_some, nx_ok', ifB_b, bind_ite, ite_and, ite_or, ite_notand, List.isEmpty_nil, List.isEmpty_cons, Bool.true_or, Bool.false_or, Bool.or_true, Bool.or_false, Bool.true_and, Bool.and_true, Bool.not_true, Bool.not_false, if_true, Bool.false_eq_true, if_false, List.getD_eq_getElem?_getD, List.getElem?_cons_zero, List.getElem?_cons_succ, Option.getD_some, List.length_cons, List.length_nil, List.length_map, Nat.sub_self, Nat.reduceAdd, Nat.reduceSub, List.replicate, List.cons_append, List.nil_append, List.append_nil, List.map_cons, List.map_nil, fin1, fin_dat, fin_nw, fin_nwd, fin_next, fin_ite, take_self, bind_n3, bind_pr, bind_ePr, bind_nm, List.set_cons_zero, List.set_cons_succ, wipeD, gets, Vl.get, Vl.nrm, Option.map_some, notV_b, negV_i, bi_isInt, bi_isBool, bi_isTuple, ty_int_int, ty_int_bool, ty_bool_int, ty_bool_bool, ty_tup_tup, ty_n3, min_ii, max_ii, int_b, len_tup, len_list, len_nw, len_n3, all_nw, any_nw, max_nw, tup_nw, tup_list, list_tup, sorted_n3, sorted_n3L, sorted_ints, cmp_lt, cmp_le, cmp_gt, cmp_ge, cmp_eq, cmp_ne, cmp_memL, cmp_memT, cmp_nmemL, cmp_nmemT, cmp_nmemN, lt_n3, op_add, op_sub, idx_n0, idx_n1, idx_n2, idx_tup, idx_list, idx_nw, at_2_0, at_2_1, seq_tup, seq_list, seq_nw, fold_n3, zip_tt, zip_tl, zip_ll, zip_ln, slc_tail, slc_tailL, ends_t, ends_f, cast3, cast2, decide_true, decide_false, idx_scr, idx_cell, len_scr, take_set, at_3_0, at_3_1, at_3_2, ix_3_0, ix_3_1])
theorem pick {T : Nat → Option Fn} (h : T 34 = some F.l_pick) (l n : Nat) (M : Mem) (hs : SrcAt M n) (k : Int) (hk : 0 < k ∧ k < 1073741824) : ∃ d M', callAt T (l + 1) 34 [.cell n, .dat (.int k)] M = .ok (.dat (.int d)) M' ∧ (0 ≤ d ∧ d < k) ∧ SrcAt M' n ∧ Upd n M M' := by
  obtain ⟨c, s, p, hM, hp, hs⟩ := hs
  have hn : n < M.length := by
    rcases Nat.lt_or_ge n M.length with h | h
    · exact h
    · rw [List.getElem?_eq_none h] at hM; cases hM
  have hset : ∀ x : Cell, (M.set n x)[n]? = some x := fun x => by rw [List.getElem?_set_self hn]
  by_cases hc : c > 0
  · refine ⟨c % k, M.set n (.lst [.int (c / k), .int s, .int p]), ?_, ⟨Int.emod_nonneg _ (by omega), Int.emod_lt_of_pos _ hk.1⟩, ⟨c / k, s, p, hset _, hp, hs⟩, Upd.set⟩
    rw [callAt_def h rfl]
    unfold F.l_pick
    have e1 := op_mod (i := c) hk.1
    have e2 := op_fdiv (i := c) hk
    have e3 := decide_eq_true hc
    clear h hs hp hn hset hk hc
    get_elem_tactic_extensible
    simp only [noL, if_true, Res.bind_ok, hM, at_3_0, at_3_1, at_3_2, Option.map_some]
    get_elem_tactic_extensible
  · have hq : 0 ≤ s * 48271 % p + 1 ∧ s * 48271 % p + 1 < 4294967296 := by
      have := Int.emod_nonneg (s * 48271) (show p ≠ 0 by omega)
      have := Int.emod_lt_of_pos (s * 48271) hp.1
      omega
    refine ⟨(s * 48271 % p + 1) * (s * 48271 % p + 1) % 2147483423 / 7 % k, M.set n (.lst [.int c, .int (s * 48271 % p + 1), .int p]), ?_, ⟨Int.emod_nonneg _ (by omega), Int.emod_lt_of_pos _ hk.1⟩, ⟨c, s * 48271 % p + 1, p, hset _, hp, hq⟩, Upd.set⟩
    rw [callAt_def h rfl]
    unfold F.l_pick
    have e1 : opV .mul (.dat (.int s)) (.dat (.int 48271)) = _ := op_mulR (by decide)
    have e2 := op_mod (i := s * 48271) hp.1
    have e3 := op_mul (i := s * 48271 % p + 1) (j := s * 48271 % p + 1) ⟨by omega, by omega⟩
    have e4 : opV .mod (.dat (.int ((s * 48271 % p + 1) * (s * 48271 % p + 1)))) (.dat (.int 2147483423)) = _ := op_mod (by decide)
    have e5 : opV .fdiv (.dat (.int ((s * 48271 % p + 1) * (s * 48271 % p + 1) % 2147483423))) (.dat (.int 7)) = _ := op_fdiv (by decide)
    have e6 := op_mod (i := (s * 48271 % p + 1) * (s * 48271 % p + 1) % 2147483423 / 7) hk.1
    have e7 := decide_eq_false hc
    have e8 := hset (.lst [.int c, .int (s * 48271 % p + 1), .int p])
    clear h hs hp hn hset hk hc hq
    get_elem_tactic_extensible
    simp only [noL, if_true, Res.bind_ok, hM, at_3_0, at_3_1, at_3_2, Option.map_some]
    get_elem_tactic_extensible
theorem source {T : Nat → Option Fn} (h : T 33 = some F.l_source) (l : Nat) (ns : List Int) (k : Int) (hk : 0 ≤ k ∧ k < 1000000) (M : Mem) : ∃ c s p : Int, callAt T (l + 1) 33 [.scr ns, .dat (.int k)] M = .ok (.nw [.int c, .int s, .int p]) M ∧ (0 < p ∧ p < 2147483648) ∧ 0 ≤ s ∧ s < 4294967296 := by
  obtain ⟨c, hc⟩ : ∃ c : Int, (k < ns.length → at? ns k = some c) ∧ (¬ k < ns.length → c = 0) := by
    by_cases hl : k < ns.length
    · obtain ⟨x, _, e⟩ := at_some ns k hk.1 hl
      exact ⟨x, fun _ => e, fun h => absurd hl h⟩
    · exact ⟨0, fun h => absurd h hl, fun _ => rfl⟩
  obtain ⟨p, hp, ep⟩ := at_some (α := Int) [2147483647, 2147483629, 2147483587, 2147483579, 2147483563, 2147483549, 2147483543, 2147483497] (k % 8) (Int.emod_nonneg _ (by decide)) (Int.emod_lt_of_pos _ (by decide))
  have ep' : at? [PyData.int 2147483647, .int 2147483629, .int 2147483587, .int 2147483579, .int 2147483563, .int 2147483549, .int 2147483543, .int 2147483497] (k % 8) = some (.int p) := by
    have : ∀ (xs : List Int) i x, at? xs i = some x → at? (xs.map PyData.int) i = some (.int x) := by
      intro xs i x e
      unfold at? L2.atI at *
      rw [List.length_map]
      cases q : L2.ixN xs.length i with
      | none => rw [q] at e; cases e
      | some j => rw [q] at e; simp only [Option.bind_some, List.getElem?_map] at *; rw [e]; rfl
    exact this _ _ _ ep
  have hpr : 0 < p ∧ p < 2147483648 := by
    simp only [List.mem_cons, List.not_mem_nil, or_false] at hp
    omega
  have g1 := Int.emod_nonneg ((c % 2147483489 + 1) * (48271 + 2 * k)) (show (2147483489 : Int) ≠ 0 by decide)
  have g2 := Int.emod_lt_of_pos ((c % 2147483489 + 1) * (48271 + 2 * k)) (show (0 : Int) < 2147483489 by decide)
  generalize hz : (c % 2147483489 + 1) * (48271 + 2 * k) % 2147483489 = z at g1 g2
  have g3 := Int.emod_nonneg (z * z) (show (2147483477 : Int) ≠ 0 by decide)
  have g4 := Int.emod_lt_of_pos (z * z) (show (0 : Int) < 2147483477 by decide)
  refine ⟨if c ≥ 10 ^ 18 then c else 0, z * z % 2147483477 + k + 1, p, ?_, hpr, by omega, by omega⟩
  rw [callAt_def h rfl]
  unfold F.l_source
  have e1 : opV .mod (.dat (.int c)) (.dat (.int 2147483489)) = _ := op_mod (by decide)
  have e2 : opV .mul (.dat (.int 2)) (.dat (.int k)) = _ := op_mul (by decide)
  have e3 := op_mulR (i := c % 2147483489 + 1) (j := 48271 + 2 * k) ⟨by omega, by omega⟩
  have e4 : opV .mod (.dat (.int ((c % 2147483489 + 1) * (48271 + 2 * k)))) (.dat (.int 2147483489)) = _ := op_mod (by decide)
  rw [hz] at e4
  have e5 := op_mul (i := z) (j := z) ⟨by omega, by omega⟩
  have e6 : opV .mod (.dat (.int (z * z))) (.dat (.int 2147483477)) = _ := op_mod (by decide)
  have e7 : opV .pow (.dat (.int 10)) (.dat (.int 18)) = _ := op_pow (by decide)
  have e8 : opV .mod (.dat (.int k)) (.dat (.int 8)) = _ := op_mod (by decide)
  rw [show ((18 : Int).toNat) = 18 from rfl] at e7
  clear g1 g2 g3 g4 hz h hk hp ep hpr
  by_cases hl : k < ns.length
  · have hc := hc.1 hl
    get_elem_tactic_extensible
    by_cases hq : c ≥ 10 ^ 18
    · simp only [hq, decide_true, if_true]; get_elem_tactic_extensible
    · simp only [hq, decide_false, if_true]; get_elem_tactic_extensible
  · have hc := hc.2 hl
    subst hc
    get_elem_tactic_extensible
    by_cases hq : (0 : Int) ≥ 10 ^ 18
    · exact absurd hq (by decide)
    · simp only [hq, decide_false, if_true]; get_elem_tactic_extensible
end Co
end

section
set_option Elab.async false
set_option linter.all false
set_option maxRecDepth 100000
set_option maxHeartbeats 1000000
namespace Co
open PySem
theorem Ok_flp {α : Type} {wp : List Nat} {body : Dt → Rho → Mem → Res Fl} (enc : α → Dt) (all : List α) (J : List α → Rho → Mem → Prop) (R : Vl → Mem → Prop)
    (hs : ∀ (pre post : List α) (a : α) (ρ : Rho) (M : Mem), all = pre ++ a :: post → J pre ρ M → Ok (body (enc a) ρ M) (FlQ (fun ρ' M' => J (pre ++ [a]) (wipeD ρ' wp) M') R)) : ∀ (as pre : List α) (ρ : Rho) (M : Mem), all = pre ++ as → J pre ρ M → Ok (floop wp body (as.map enc) ρ M) (FlQ (J all) R)
  | [], pre, ρ, M, he, h0 => by
    rw [List.append_nil] at he; subst he
    rw [List.map_nil]; unfold floop; exact h0
  | a :: as, pre, ρ, M, he, h0 => by
    rw [List.map_cons]
    unfold floop
    rw [Ok_bind]
    refine (hs pre as a ρ M he h0).imp fun f M1 h1 => ?_
    cases f with
    | next ρ' => exact Ok_flp enc all J R hs as (pre ++ [a]) _ M1 (by rw [he, List.append_assoc]; rfl) h1
    | ret v => exact h1
theorem rng_nn {i j : Int} (h0 : 0 ≤ i ∧ i ≤ 100000) (h : 0 ≤ j ∧ j ≤ 100000) : rng i j = some ((List.range (j - i).toNat).map fun (k : Nat) => PyData.int (i + k)) := by
  unfold rng
  have hl : lim = 16777216 := by decide
  have hb : big = 4611686018427387904 := by decide
  rw [if_pos ⟨by rw [hb]; omega, by rw [hb]; omega, by rw [hb]; omega, by rw [hb]; omega, by rw [hl]; omega⟩]; rfl
theorem rng0 {j : Int} (h : 0 ≤ j ∧ j ≤ 100000) : rng 0 j = some ((List.range j.toNat).map fun (k : Nat) => PyData.int (0 + k)) := by
  have := rng_nn (i := 0) (by decide) h
  rwa [Int.sub_zero] at this
theorem at_int (xs : List Int) (i : Int) (h0 : 0 ≤ i) (h : i < xs.length) : ∃ x ∈ xs, at? (xs.map PyData.int) i = some (.int x) := by
  obtain ⟨x, hx, e⟩ := at_some xs i h0 h
  refine ⟨x, hx, ?_⟩
  unfold at? L2.atI at *
  rw [List.length_map]
  cases q : L2.ixN xs.length i with
  | none => rw [q] at e; cases e
  | some j => rw [q] at e; simp only [Option.bind_some, List.getElem?_map] at *; rw [e]; rfl
/-! dicts of ints by ints -/
def encF (fs : List (Int × Int)) : List (Dt × Dt) := fs.map fun q => (.int q.1, .int q.2)
def lookF : List (Int × Int) → Int → Option Int
  | [], _ => none
  | q :: r, k => if q.1 = k then some q.2 else lookF r k
def putF (fs : List (Int × Int)) (k v : Int) : List (Int × Int) := if fs.any (fun q => decide (q.1 = k)) then fs.map (fun q => if q.1 = k then (q.1, v) else q) else fs ++ [(k, v)]
theorem isK_int {a k : Int} : isK (.inl k) (.int a) = decide (a = k) := by
  unfold isK toK
  by_cases h : a = k
  · subst h; simp
  · simp [h]
theorem findD_encF (k : Int) : ∀ fs, findD (isK (.inl k)) (encF fs) = (lookF fs k).map PyData.int
  | [] => rfl
  | q :: r => by
    show (if isK (.inl k) (.int q.1) = true then some (PyData.int q.2) else findD (isK (.inl k)) (encF r)) = (if q.1 = k then some q.2 else lookF r k).map PyData.int
    rw [isK_int, findD_encF k r]
    by_cases h : q.1 = k <;> simp [h]
theorem dGet_encF (k : Int) (fs : List (Int × Int)) : dGet (encF fs) (.int k) = some ((lookF fs k).map PyData.int) := by
  cases fs with
  | nil => rfl
  | cons q r =>
    show some (findD (isK (.inl k)) (encF (q :: r))) = _
    rw [findD_encF]
theorem dget_encF {k d : Int} {fs : List (Int × Int)} : dgetV (encF fs) (.dat (.int k)) (.dat (.int d)) = some (.dat (.int ((lookF fs k).getD d))) := by
  show (dGet (encF fs) (.int k)).map (fun o => Vl.dat (o.getD (.int d))) = _
  rw [dGet_encF]
  cases lookF fs k <;> rfl
theorem dput_encF {k v : Int} {fs : List (Int × Int)} : dPut false (encF fs) (.int k) (.int v) = some (encF (putF fs k v)) := by
  show some (putD (isK (.inl k)) (.int k) (.int v) (encF fs)) = _
  congr 1
  unfold putD putF encF
  simp only [List.any_map, Function.comp_def, isK_int, List.map_map]
  by_cases h : (fs.any fun q => decide (q.1 = k)) = true
  · rw [if_pos h, if_pos h, List.map_map]
    apply List.map_congr_left
    intro q _
    simp only [Function.comp_def, isK_int]
    by_cases e : q.1 = k <;> simp [e]
  · rw [if_neg h, if_neg h, List.map_append]; rfl
theorem mkD_f {kvs : List (Dt × Dt)} : mkD false kvs = kvs := rfl
theorem dict_d {kvs : List (Dt × Dt)} : dict? (.dat (.dict kvs)) = some kvs := rfl
theorem len_putF {fs : List (Int × Int)} {k v : Int} : (putF fs k v).length ≤ fs.length + 1 := by
  unfold putF
  by_cases h : (fs.any fun q => decide (q.1 = k)) = true
  · rw [if_pos h, List.length_map]; omega
  · rw [if_neg h, List.length_append]; simp
theorem look_map (k v : Int) (j : Int) : ∀ fs : List (Int × Int), lookF (fs.map fun q => if q.1 = k then (q.1, v) else q) j = if j = k then (if (fs.any fun q => decide (q.1 = k)) then some v else none) else lookF fs j
  | [] => by simp [lookF]
  | q :: r => by
    rw [List.map_cons, lookF, look_map k v j r]
    by_cases h1 : q.1 = k
    · by_cases h2 : j = k
      · subst h2; simp [h1]
      · rw [if_pos h1]
        have : ¬ q.1 = j := fun e => h2 (e ▸ h1)
        simp only [this, if_false, h2, lookF]
    · rw [if_neg h1]
      by_cases h2 : j = k
      · subst h2
        rw [List.any_cons, decide_eq_false h1, Bool.false_or, if_pos rfl, if_pos rfl, if_neg h1]
      · simp only [h2, if_false, lookF]
theorem look_app (k v : Int) (j : Int) : ∀ fs : List (Int × Int), ¬ (fs.any fun q => decide (q.1 = k)) = true → lookF (fs ++ [(k, v)]) j = if j = k then some v else lookF fs j
  | [], _ => by
    simp only [List.nil_append, lookF]
    by_cases h : k = j
    · subst h; simp
    · simp [h, Ne.symm h]
  | q :: r, h => by
    simp only [List.any_cons, Bool.or_eq_true, decide_eq_true_eq, not_or] at h
    rw [List.cons_append, lookF, look_app k v j r h.2, lookF]
    by_cases h2 : q.1 = j
    · have : ¬ j = k := fun e => h.1 (h2.trans e)
      simp [h2, this]
    · simp [h2]
theorem look_put {k v j : Int} {fs : List (Int × Int)} : lookF (putF fs k v) j = if j = k then some v else lookF fs j := by
  unfold putF
  by_cases h : (fs.any fun q => decide (q.1 = k)) = true
  · rw [if_pos h, look_map]
    by_cases e : j = k <;> simp [e, h]
  · rw [if_neg h, look_app k v j fs h]
/-- what a found list of notes keeps -/
structure FInv (fs : List (Int × Int)) (found : List N3) (last : Int) : Prop where
  bd : ∀ x ∈ found, (58 ≤ x.k ∧ x.k ≤ 65) ∧ (0 ≤ x.b ∧ x.b < x.e ∧ x.e ≤ last) ∧ ∃ v, lookF fs x.k = some v ∧ x.e ≤ v
  nn : ∀ k v, lookF fs k = some v → 0 ≤ v
  pw : found.Pairwise fun x y => x.k = y.k → x.e ≤ y.b
theorem FInv.nil {last : Int} : FInv [] [] last := ⟨fun x h => (by cases h), fun k v h => (by cases h), List.Pairwise.nil⟩
theorem FInv.add {fs : List (Int × Int)} {found : List N3} {last : Int} (h : FInv fs found last) (n : N3) (hk : 58 ≤ n.k ∧ n.k ≤ 65) (hb : 0 ≤ n.b ∧ n.b < n.e ∧ n.e ≤ last) (hl : ∀ v, lookF fs n.k = some v → v ≤ n.b) : FInv (putF fs n.k n.e) (found ++ [n]) last := by
  refine ⟨fun x hx => ?_, fun k v e => ?_, ?_⟩
  · rcases List.mem_append.mp hx with hx | hx
    · obtain ⟨h1, h2, v, h3, h4⟩ := h.bd x hx
      refine ⟨h1, h2, ?_⟩
      rw [look_put]
      by_cases e : x.k = n.k
      · rw [if_pos e]
        rw [e] at h3
        have := hl v h3
        exact ⟨n.e, rfl, by omega⟩
      · rw [if_neg e]; exact ⟨v, h3, h4⟩
    · rw [List.mem_singleton] at hx; subst hx
      refine ⟨hk, hb, x.e, ?_, Int.le_refl _⟩
      rw [look_put, if_pos rfl]
  · rw [look_put] at e
    by_cases g : k = n.k
    · rw [if_pos g] at e; cases e; omega
    · rw [if_neg g] at e; exact h.nn k v e
  · rw [List.pairwise_append]
    refine ⟨h.pw, List.pairwise_singleton _ _, fun x hx y hy => ?_⟩
    rw [List.mem_singleton] at hy; subst hy
    intro e
    obtain ⟨_, _, v, h3, h4⟩ := h.bd x hx
    rw [e] at h3
    have := hl v h3
    omega
/-- a valid piece -/
structure Piece (p : List N3) : Prop where
  len : p.length ≤ 40
  bd : ∀ n ∈ p, (1 ≤ n.k ∧ n.k ≤ 88) ∧ 0 ≤ n.b ∧ n.b < n.e ∧ n.e ≤ 60
  ord : p.Pairwise fun x y => lexN x y = true ∧ (x.k = y.k → x.e ≤ y.b)
theorem lexN_iff {x y : N3} : lexN x y = true ↔ x.k < y.k ∨ (x.k = y.k ∧ (x.b < y.b ∨ (x.b = y.b ∧ x.e < y.e))) := by
  unfold lexN l3
  simp only [HT.lexLt]
  by_cases h1 : x.k = y.k
  · by_cases h2 : x.b = y.b
    · by_cases h3 : x.e = y.e
      · simp [h1, h2, h3]
      · simp [h1, h2, h3]
    · simp [h1, h2]
  · simp [h1]
theorem insN_perm (i : N3) : ∀ js, (insN i js).Perm (i :: js)
  | [] => .refl _
  | j :: js => by
    unfold insN
    by_cases h : lexN j i = true
    · rw [if_pos h]; exact ((insN_perm i js).cons j).trans (List.Perm.swap i j js)
    · rw [if_neg h]
theorem sortN_perm : ∀ js, (sortN js).Perm js
  | [] => .refl _
  | j :: js => (insN_perm j (sortN js)).trans ((sortN_perm js).cons j)
def leN (x y : N3) : Prop := lexN y x = false
theorem leN_iff {x y : N3} : leN x y ↔ x.k < y.k ∨ (x.k = y.k ∧ (x.b < y.b ∨ (x.b = y.b ∧ x.e ≤ y.e))) := by
  unfold leN
  rw [← Bool.not_eq_true, lexN_iff]
  omega
theorem insN_le (i : N3) : ∀ js : List N3, js.Pairwise leN → (insN i js).Pairwise leN
  | [], _ => List.pairwise_singleton _ _
  | j :: js, h => by
    unfold insN
    obtain ⟨h1, h2⟩ := List.pairwise_cons.mp h
    by_cases e : lexN j i = true
    · rw [if_pos e, List.pairwise_cons]
      refine ⟨fun x hx => ?_, insN_le i js h2⟩
      rcases List.mem_cons.mp ((insN_perm i js).mem_iff.mp hx) with rfl | hx
      · rw [lexN_iff] at e
        rw [leN_iff]; omega
      · exact h1 x hx
    · rw [if_neg e, List.pairwise_cons]
      refine ⟨fun x hx => ?_, h⟩
      have e' : leN i j := by unfold leN; simpa using e
      rcases List.mem_cons.mp hx with rfl | hx
      · exact e'
      · have := h1 x hx
        rw [leN_iff] at *
        omega
theorem sortN_le : ∀ js : List N3, (sortN js).Pairwise leN
  | [] => .nil
  | j :: js => insN_le j _ (sortN_le js)
theorem FInv.piece {fs : List (Int × Int)} {found : List N3} {last : Int} (h : FInv fs found last) (hl : last ≤ 60) (hn : found.length ≤ 40) : Piece (sortN found) := by
  refine ⟨by rw [(sortN_perm found).length_eq]; exact hn, fun n hx => ?_, ?_⟩
  · obtain ⟨h1, h2, _⟩ := h.bd n ((sortN_perm found).mem_iff.mp hx)
    omega
  · have hs : found.Pairwise fun x y => x.k = y.k → (x.e ≤ y.b ∨ y.e ≤ x.b) := h.pw.imp fun g e => Or.inl (g e)
    have hs := ((sortN_perm found).pairwise_iff (R := fun x y => x.k = y.k → (x.e ≤ y.b ∨ y.e ≤ x.b)) (fun {x y} g e => (g e.symm).symm)).mpr hs
    have hm : ∀ x ∈ sortN found, x.b < x.e := fun x hx => (h.bd x ((sortN_perm found).mem_iff.mp hx)).2.1.2.1
    refine List.Pairwise.imp_of_mem ?_ (hs.and (sortN_le found))
    intro x y hx hy ⟨g1, g2⟩
    have := hm x hx
    have := hm y hy
    rw [leN_iff] at g2
    rw [lexN_iff]
    by_cases e : x.k = y.k
    · have := g1 e
      omega
    · omega
theorem zip_tail_pw {α : Type} {R : α → α → Prop} : ∀ (p : List α), p.Pairwise R → ∀ q ∈ p.zip p.tail, R q.1 q.2
  | [], _, _, h => by cases h
  | [x], _, _, h => by cases h
  | x :: y :: r, hp, q, h => by
    rw [List.tail_cons, List.zip_cons_cons] at h
    obtain ⟨h1, h2⟩ := List.pairwise_cons.mp hp
    rcases List.mem_cons.mp h with rfl | h
    · exact h1 y List.mem_cons_self
    · exact zip_tail_pw (y :: r) h2 q h
theorem Piece.ok {p : List N3} (h : Piece p) : pieceOk p = true := by
  unfold pieceOk
  simp only [Bool.and_eq_true, decide_eq_true_eq, List.all_eq_true]
  refine ⟨h.len, fun n hn => ?_, fun q hq => ?_⟩
  · have := h.bd n hn
    unfold noteOk
    simp only [Bool.and_eq_true, decide_eq_true_eq]
    omega
  · obtain ⟨h1, h2⟩ := zip_tail_pw p h.ord q hq
    unfold pairOk
    simp only [Bool.and_eq_true, Bool.or_eq_true, Bool.not_eq_true', decide_eq_true_eq, decide_eq_false_iff_not]
    exact ⟨h1, by by_cases e : q.1.k = q.2.k <;> simp [e]; exact h2 e⟩
theorem Ok_fin {n : Nat} {r : Res Fl} {Q : Vl → Mem → Prop} : Ok (finish n r) Q = Ok r fun f M => Ok (finish n (.ok f M)) Q := by
  cases r <;> rfl
example : True := by
  have := @exec.eq_1
  have := @exec.eq_2
  have := @exec.eq_3
  have := @exec.eq_4
  have := @exec.eq_5
  have := @exec.eq_6
  have := @exec.eq_7
  have := @exec.eq_8
  have := @exec.eq_9
  have := @exec.eq_12
  have := @exec.eq_13
  have := @exec.eq_14
  have := @exec.eq_15
  have := @exec.eq_16
  have := @exec.eq_17
  have := @exec.eq_18
  have := @ev.eq_1
  have := @ev.eq_2
  have := @ev.eq_3
  have := @ev.eq_4
  have := @ev.eq_5
  have := @ev.eq_6
  have := @ev.eq_7
  have := @ev.eq_8
  have := @ev.eq_9
  have := @ev.eq_10
  have := @ev.eq_11
  have := @ev.eq_12
  have := @ev.eq_13
  have := @ev.eq_14
  have := @ev.eq_15
  have := @ev.eq_16
  have := @ev.eq_17
  have := @ev.eq_18
  have := @ev.eq_19
  have := @ev.eq_20
  have := @ev.eq_21
  have := @ev.eq_22
  have := @ev.eq_23
  have := @ev.eq_24
  trivial
local macro_rules | `(tactic| get_elem_tactic_extensible) => `(tactic| simp only [*, execs, exec.eq_1, exec.eq_2, exec.eq_3, exec.eq_4, exec.eq_5, exec.eq_6, exec.eq_7, exec.eq_8, exec.eq_9, exec.eq_12, exec.eq_13, exec.eq_14, exec.eq_15, exec.eq_16, exec.eq_17, exec.eq_18, ev.eq_1, ev.eq_2, ev.eq_3, ev.eq_4, ev.eq_5, ev.eq_6, ev.eq_7, ev.eq_8, ev.eq_9, ev.eq_10, ev.eq_11, ev.eq_12, ev.eq_13, ev.eq_14, ev.eq_15, ev.eq_16, ev.eq_17, ev.eq_18, ev.eq_19, ev.eq_20, ev.eq_21, ev.eq_22, ev.eq_23, ev.eq_24, evs, evI, evIv, evp, view, bor, okv, okv1, asg_vd, asg_vn, asg_vm, asg_vc, asg_vs, asg_on, asg_om, asg_cn, asgs_0, asgs_1, Res.bind_ok, Res.lift_some, nx_ok', ifB_b, bind_ite, ite_and, ite_or, ite_notand, List.isEmpty_nil, List.isEmpty_cons, Bool.true_or, Bool.false_or, Bool.or_true, Bool.or_false, Bool.true_and, Bool.and_true, Bool.not_true, Bool.not_false, if_true, Bool.false_eq_true, if_false, List.getD_eq_getElem?_getD, List.getElem?_cons_zero, List.getElem?_cons_succ, Option.getD_some, List.length_cons, List.length_nil, List.length_map, Nat.sub_self, Nat.reduceAdd, Nat.reduceSub, List.replicate, List.cons_append, List.nil_append, List.append_nil, List.map_cons, List.map_nil, fin1, fin_dat, fin_nw, fin_nwd, fin_next, fin_ite, take_self, bind_n3, bind_pr, bind_ePr, bind_nm, List.set_cons_zero, List.set_cons_succ, wipeD, gets, Vl.get, Vl.nrm, Option.map_some, notV_b, negV_i, bi_isInt, bi_isBool, bi_isTuple, ty_int_int, ty_int_bool, ty_bool_int, ty_bool_bool, ty_tup_tup, ty_n3, min_ii, max_ii, int_b, len_tup, len_list, len_nw, len_n3, all_nw, any_nw, max_nw, tup_nw, tup_list, list_tup, sorted_n3, sorted_n3L, sorted_ints, cmp_lt, cmp_le, cmp_gt, cmp_ge, cmp_eq, cmp_ne, cmp_memL, cmp_memT, cmp_nmemL, cmp_nmemT, cmp_nmemN, lt_n3, op_add, op_sub, idx_n0, idx_n1, idx_n2, idx_tup, idx_list, idx_nw, at_2_0, at_2_1, seq_tup, seq_list, seq_nw, fold_n3, zip_tt, zip_tl, zip_ll, zip_ln, slc_tail, slc_tailL, ends_t, ends_f, cast3, cast2, decide_true, decide_false, idx_scr, idx_cell, len_scr, take_set, at_3_0, at_3_1, at_3_2, ix_3_0, ix_3_1, List.all_cons, List.all_nil, noL, noLs, noLkv, Nat.reduceLT, mkD_f, dict_d, dget_encF, dput_encF])
theorem made {T : Nat → Option Fn} (h34 : T 34 = some F.l_pick) (h : T 40 = some F.l_piece) (l n : Nat) (M : Mem) (hs : SrcAt M n) (most last : Int) (hm : 0 ≤ most ∧ most ≤ 40) (hl : 0 < last ∧ last ≤ 60) :
    ∃ p M', callAt T (l + 2) 40 [.cell n, .dat (.int most), .dat (.int last)] M = .ok (eP p) M' ∧ Piece p ∧ (p.length ≤ most ∧ ∀ x ∈ p, (58 ≤ x.k ∧ x.k ≤ 65) ∧ x.e ≤ last) ∧ SrcAt M' n ∧ Upd n M M' := by
  obtain ⟨many, M1, e1, b1, s1, u1⟩ := pick h34 l n M hs (most + 1) ⟨by omega, by omega⟩
  obtain ⟨wide, M2, e2, b2, s2, u2⟩ := pick h34 l n M1 s1 6 (by decide)
  have hr := rng0 (j := many) ⟨b1.1, by omega⟩
  have key : Ok (callAt T (l + 2) 40 [.cell n, .dat (.int most), .dat (.int last)] M) fun v M' => ∃ p, v = eP p ∧ Piece p ∧ (p.length ≤ most ∧ ∀ x ∈ p, (58 ≤ x.k ∧ x.k ≤ 65) ∧ x.e ≤ last) ∧ SrcAt M' n ∧ Upd n M M' := by
    rw [callAt_def h rfl]
    unfold F.l_piece
    have hp := pick h34 l n
    clear h34 h
    get_elem_tactic_extensible
    rw [Ok_fin, Ok_bind, exec_fr (M' := M2) (fun k : Nat => PyData.int (0 + k)) (List.range many.toNat) (by get_elem_tactic_extensible)]
    refine (Ok_flp (fun k : Nat => PyData.int (0 + k)) (List.range many.toNat) (fun pre ρ M' => ∃ fs found, ρ = [.cell n, .dat (.int most), .dat (.int last), .odc false (encF fs), .own (found.map eN), .dat (.int many), .dat (.int (1 + wide)), .und, .und, .und, .und, .und] ∧ (SrcAt M' n ∧ Upd n M M') ∧ FInv fs found last ∧ found.length ≤ pre.length ∧ fs.length ≤ pre.length) (fun _ _ => False) ?step _ [] _ _ rfl ?base).imp ?fin
    case base => exact ⟨[], [], rfl, ⟨s2, u1.trans u2⟩, .nil, Nat.le_refl _, Nat.le_refl _⟩
    case fin =>
      intro f M' hf
      cases f with
      | ret v => exact hf.elim
      | next ρ =>
        obtain ⟨fs, found, rfl, ⟨s3, u3⟩, hi, l1, l2⟩ := hf
        have hT : M'.take M.length = M' := by rw [← u3.1]; exact List.take_length
        have hN : (List.range many.toNat).length = many.toNat := List.length_range
        have g1 : Piece (sortN found) := hi.piece hl.2 (by omega)
        have g2 : (sortN found).length ≤ most := by rw [(sortN_perm found).length_eq]; omega
        have g3 : ∀ x ∈ sortN found, (58 ≤ x.k ∧ x.k ≤ 65) ∧ x.e ≤ last := fun x hx => by
          obtain ⟨q1, q2, _⟩ := hi.bd x ((sortN_perm found).mem_iff.mp hx)
          exact ⟨q1, q2.2.2⟩
        clear hp hs e1 e2 hr hi
        get_elem_tactic_extensible
        refine ⟨_, rfl, g1, ⟨g2, g3⟩, ?_⟩
        rw [hT]
        exact ⟨s3, u3⟩
    case step =>
      intro pre post a ρ M3 he ⟨fs, found, hρ, ⟨s3, u3⟩, hi, l1, l2⟩
      subst hρ
      have hN : pre.length < many.toNat := by
        have : (List.range many.toNat).length = (pre ++ a :: post).length := by rw [he]
        rw [List.length_range, List.length_append, List.length_cons] at this
        omega
      clear e1 e2 hr he
      obtain ⟨d1, M4, e1, c1, s4, u4⟩ := hp M3 s3 (2 + (1 + wide)) ⟨by omega, by omega⟩
      obtain ⟨d2, M5, e2, c2, s5, u5⟩ := hp M4 s4 last ⟨by omega, by omega⟩
      obtain ⟨d3, M6, e3, c3, s6, u6⟩ := hp M5 s5 4 (by decide)
      obtain ⟨d4, M7, e4, c4, s7, u7⟩ := hp M6 s6 4 (by decide)
      obtain ⟨d5, M8, e5, c5, s8, u8⟩ := hp M7 s7 4 (by decide)
      obtain ⟨d6, M9, e6, c6, s9, u9⟩ := hp M8 s8 last ⟨by omega, by omega⟩
      obtain ⟨d7, M10, e7, c7, s10, u10⟩ := hp M9 s9 4 (by decide)
      have u := u3.trans (u4.trans (u5.trans (u6.trans (u7.trans (u8.trans (u9.trans u10))))))
      obtain ⟨a1, m1, x1⟩ := at_int [0, 0, 1, d3] d4 c4.1 c4.2
      have hb : 0 ≤ (lookF fs (58 + d1)).getD d2 ∧ ∀ v, lookF fs (58 + d1) = some v → v ≤ (lookF fs (58 + d1)).getD d2 := by
        cases q : lookF fs (58 + d1) with
        | none => exact ⟨c2.1, fun v h => by cases h⟩
        | some v => exact ⟨hi.nn _ v q, fun w h => by cases h; exact Int.le_refl _⟩
      generalize hq : (lookF fs (58 + d1)).getD d2 = q at hb
      obtain ⟨a2, m2, x2⟩ := at_int [q + a1 + 1, q + a1 + 1 + d5, q + a1 + 1 + d6, last] d7 c7.1 c7.2
      simp only [List.map_cons, List.map_nil] at x1 x2
      have hlim : lim = 16777216 := by decide
      have f1 : found.length < lim := by rw [hlim]; omega
      have f2 : (encF fs).length < lim := by
        have : (encF fs).length = fs.length := List.length_map _
        rw [this, hlim]; omega
      have ha : 0 ≤ a1 := by
        simp only [List.mem_cons, List.not_mem_nil, or_false] at m1
        omega
      clear hp hlim u3 u4 u5 u6 u7 u8 u9 u10 s3 s4 s5 s6 s7 s8 s9 m1 m2
      by_cases hc : q + a1 < if a2 < last then a2 else last
      · have hc' := decide_eq_true hc
        have hi' := hi.add ⟨58 + d1, q + a1, if a2 < last then a2 else last⟩ ⟨by simp only []; omega, by simp only []; omega⟩ ⟨by simp only []; omega, hc, by simp only []; split <;> omega⟩ (fun v hv => by have := hb.2 v hv; simp only []; omega)
        have l1' : (found ++ [⟨58 + d1, q + a1, if a2 < last then a2 else last⟩] : List N3).length ≤ (pre ++ [a]).length := by rw [List.length_append, List.length_append]; exact Nat.add_le_add_right l1 1
        have l2' : (putF fs (58 + d1) (if a2 < last then a2 else last)).length ≤ (pre ++ [a]).length := by
          rw [List.length_append]
          exact Nat.le_trans len_putF (Nat.add_le_add_right l2 1)
        clear c1 c2 c3 c4 c5 c6 c7 hb hN hi l1 l2 hm hl b1 b2 u1 u2 s1 s2 hs hc
        generalize hn : (if a2 < last then a2 else last) = e at *
        get_elem_tactic_extensible
        exact ⟨_, found ++ [⟨58 + d1, q + a1, e⟩], by rw [List.map_append]; rfl, ⟨s10, u⟩, hi', l1', l2'⟩
      · have hc' := decide_eq_false hc
        clear c1 c2 c3 c4 c5 c6 c7 hb hN hm hl b1 b2 u1 u2 s1 s2 hs hc
        get_elem_tactic_extensible
        exact ⟨fs, found, rfl, ⟨s10, u⟩, hi, by rw [List.length_append]; omega, by rw [List.length_append]; omega⟩
  obtain ⟨v, M', e, p, rfl, h1, h2, h3, h4⟩ := key.get
  exact ⟨p, M', e, h1, h2, h3, h4⟩
end Co
end

section
set_option Elab.async false
set_option linter.all false
set_option maxRecDepth 100000
set_option maxHeartbeats 1000000
namespace Co
open PySem
theorem floop_pre {α : Type} {wp : List Nat} {body : Dt → Rho → Mem → Res Fl} {M : Mem} (enc : α → Dt) (all : List α) (S : List α → Rho)
    (h : ∀ pre a post, all = pre ++ a :: post → ∃ ρ', body (enc a) (S pre) M = .ok (.next ρ') M ∧ wipeD ρ' wp = S (pre ++ [a])) : ∀ (as pre : List α), all = pre ++ as → floop wp body (as.map enc) (S pre) M = .ok (.next (S all)) M
  | [], pre, e => by rw [List.append_nil] at e; subst e; rfl
  | a :: as, pre, e => by
    obtain ⟨ρ', e1, e2⟩ := h pre a as e
    rw [List.map_cons]
    unfold floop
    rw [e1]
    simp only [Res.bind_ok]
    rw [e2]
    exact floop_pre enc all S h as (pre ++ [a]) (by rw [e, List.append_assoc]; rfl)
theorem fr_pre {cf : Nat → List Vl → Mem → Res Vl} {ρ : Rho} {M M' : Mem} {α : Type} {vs wp : List Nat} {tg : Tg} {it : It} {body : Stms} (enc : α → Dt) (as : List α) (S : List α → Rho) (hI : evIv cf vs it ρ M = .ok (as.map enc) M') (h0 : wipeD ρ wp = S [])
    (h : ∀ pre a post, as = pre ++ a :: post → ∃ ρ', (match bindT tg (enc a) (S pre) with
      | some ρ' => execs cf body ρ' M'
      | none => Res.bad) = .ok (.next ρ') M' ∧ wipeD ρ' wp = S (pre ++ [a])) : exec cf (.fr vs wp tg it body) ρ M = .ok (.next (S as)) M' := by
  rw [exec_fr enc as hI, h0]
  exact floop_pre enc as S h as [] rfl
theorem op_addN {xs ys : List Dt} : opV .add (.nw xs) (.nw ys) = if xs.length + ys.length ≤ lim then some (.nw (xs ++ ys)) else none := rfl
def maxI : List Int → Int
  | [] => 0
  | n :: ns => ns.foldl (fun a b => if b > a then b else a) n
theorem max_ns {n : Int} {ns : List Int} : biV .max [.nw ((n :: ns).map .int)] = some (.dat (.int (maxI (n :: ns)))) := max_nw
theorem max_ne {ns : List Int} (h : ns ≠ []) : biV .max [.nw (ns.map .int)] = some (.dat (.int (maxI ns))) := by
  cases ns with
  | nil => exact absurd rfl h
  | cons n ns => exact max_nw
theorem fold_max : ∀ (ns : List Int) (n : Int), (ns.foldl (fun a b => if b > a then b else a) n = n ∨ ns.foldl (fun a b => if b > a then b else a) n ∈ ns) ∧ n ≤ ns.foldl (fun a b => if b > a then b else a) n ∧ ∀ x ∈ ns, x ≤ ns.foldl (fun a b => if b > a then b else a) n
  | [], n => ⟨Or.inl rfl, Int.le_refl _, fun x h => by cases h⟩
  | m :: ns, n => by
    rw [List.foldl_cons]
    obtain ⟨h1, h2, h3⟩ := fold_max ns (if m > n then m else n)
    refine ⟨?_, ?_, fun x hx => ?_⟩
    · rcases h1 with h1 | h1
      · rw [h1]
        by_cases e : m > n
        · rw [if_pos e]; exact Or.inr List.mem_cons_self
        · rw [if_neg e]; exact Or.inl rfl
      · exact Or.inr (List.mem_cons_of_mem _ h1)
    · refine Int.le_trans ?_ h2
      split <;> omega
    · rcases List.mem_cons.mp hx with rfl | hx
      · refine Int.le_trans ?_ h2
        split <;> omega
      · exact h3 x hx
theorem maxI_mem : ∀ {ns : List Int}, ns ≠ [] → maxI ns ∈ ns
  | [], h => absurd rfl h
  | n :: ns, _ => by
    rcases (fold_max ns n).1 with h | h
    · show List.foldl _ n ns ∈ _; rw [h]; exact List.mem_cons_self
    · exact List.mem_cons_of_mem _ h
theorem maxI_le : ∀ {ns : List Int} {x : Int}, x ∈ ns → x ≤ maxI ns
  | n :: ns, x, h => by
    rcases List.mem_cons.mp h with rfl | h
    · exact (fold_max ns x).2.1
    · exact (fold_max ns n).2.2 x h
theorem maxI_eq {ns ms : List Int} (hn : ns ≠ []) (hm : ms ≠ []) (h1 : ∀ x ∈ ns, ∃ y ∈ ms, x ≤ y) (h2 : ∀ y ∈ ms, ∃ x ∈ ns, y ≤ x) : maxI ns = maxI ms := by
  obtain ⟨y, hy, e⟩ := h1 _ (maxI_mem hn)
  obtain ⟨x, hx, e'⟩ := h2 _ (maxI_mem hm)
  have := maxI_le hy
  have := maxI_le hx
  omega
theorem cmp_ne_nil {xs : List Int} : cmpV .ne (.nw (xs.map .int)) (.nw []) = some (.dat (.bool (!decide (xs = [])))) := cmp_nn (En.int.list.ne (by decide) xs [])
theorem ne_dd {xs : List Int} : cmpV .ne (.dat (.list (xs.map .int))) (.dat (.list (xs.map .int))) = some (.dat (.bool false)) := by
  rw [cmp_dd (En.int.list.ne (by decide) xs xs), decide_eq_true rfl]; rfl
theorem ne_nd {xs : List Int} : cmpV .ne (.nw (xs.map .int)) (.dat (.list (xs.map .int))) = some (.dat (.bool false)) := by
  rw [cmp_nd (En.int.list.ne (by decide) xs xs), decide_eq_true rfl]; rfl
theorem ne_dn {xs : List Int} : cmpV .ne (.dat (.list (xs.map .int))) (.nw (xs.map .int)) = some (.dat (.bool false)) := by
  rw [cmp_dn (En.int.list.ne (by decide) xs xs), decide_eq_true rfl]; rfl
theorem ne_nn {xs : List Int} : cmpV .ne (.nw (xs.map .int)) (.nw (xs.map .int)) = some (.dat (.bool false)) := by
  rw [cmp_nn (En.int.list.ne (by decide) xs xs), decide_eq_true rfl]; rfl
/-! ascending lists -/
theorem srtU_mem (z : Int) : ∀ xs : List Int, z ∈ srtU xs ↔ z ∈ xs
  | [] => Iff.rfl
  | x :: xs => by
    show z ∈ insU x (srtU xs) ↔ _
    rw [mem_insU, srtU_mem z xs, List.mem_cons]
theorem sortI_of_le : ∀ xs : List Int, xs.Pairwise (· ≤ ·) → sortI xs = xs
  | [], _ => rfl
  | x :: xs, h => by
    obtain ⟨g1, g2⟩ := List.pairwise_cons.mp h
    show insI x (sortI xs) = _
    rw [sortI_of_le xs g2]
    cases xs with
    | nil => rfl
    | cons y ys =>
      unfold insI
      rw [if_pos (g1 y List.mem_cons_self)]
theorem Piece.keys {p : List N3} (h : Piece p) (q : N3 → Bool) : ((p.filter q).map N3.k).Pairwise (· ≤ ·) := by
  rw [List.pairwise_map]
  refine (h.ord.filter q).imp fun {x y} ⟨e, _⟩ => ?_
  rw [lexN_iff] at e
  omega
/-! counts of sounding notes -/
def snd (t : Int) (n : N3) : Bool := decide (n.b ≤ t) && decide (t < n.e)
def cnt (p : List N3) (t : Int) : Int := ((p.filter (snd t)).length : Int)
def mostOf (p : List N3) : Int := maxI (0 :: p.map fun n => cnt p n.b)
def lawMost (p : List N3) : Int := maxI ((List.range 60).map fun k : Nat => cnt p (0 + k))
theorem cnt_mono {p : List N3} {t u : Int} (h : ∀ n ∈ p, snd t n = true → snd u n = true) : cnt p t ≤ cnt p u := by
  unfold cnt
  have : ∀ xs : List N3, (∀ n ∈ xs, snd t n = true → snd u n = true) → (xs.filter (snd t)).length ≤ (xs.filter (snd u)).length := by
    intro xs
    induction xs with
    | nil => intro _; exact Nat.le_refl _
    | cons x xs ih =>
      intro h
      have := ih fun n hn => h n (List.mem_cons_of_mem _ hn)
      rw [List.filter_cons, List.filter_cons]
      by_cases e : snd t x = true
      · rw [if_pos e, if_pos (h x List.mem_cons_self e), List.length_cons, List.length_cons]; omega
      · rw [if_neg e]
        by_cases g : snd u x = true
        · rw [if_pos g, List.length_cons]; omega
        · rw [if_neg g]; exact this
  have := this p h
  omega
/-- the latest begin -/
theorem exists_max {α : Type} (f : α → Int) : ∀ xs : List α, xs ≠ [] → ∃ x ∈ xs, ∀ y ∈ xs, f y ≤ f x
  | [], h => absurd rfl h
  | [x], _ => ⟨x, List.mem_cons_self, fun y hy => by rw [List.mem_singleton] at hy; subst hy; exact Int.le_refl _⟩
  | x :: y :: r, _ => by
    obtain ⟨z, hz, h⟩ := exists_max f (y :: r) (List.cons_ne_nil _ _)
    by_cases e : f x ≤ f z
    · refine ⟨z, List.mem_cons_of_mem _ hz, fun w hw => ?_⟩
      rcases List.mem_cons.mp hw with rfl | hw
      · exact e
      · exact h w hw
    · refine ⟨x, List.mem_cons_self, fun w hw => ?_⟩
      rcases List.mem_cons.mp hw with rfl | hw
      · exact Int.le_refl _
      · have := h w hw; omega
theorem snd_iff {t : Int} {n : N3} : snd t n = true ↔ n.b ≤ t ∧ t < n.e := by simp [snd]
theorem most_eq {p : List N3} (h : Piece p) : lawMost p = mostOf p := by
  unfold lawMost mostOf
  refine maxI_eq (by simp) (by simp) (fun x hx => ?_) (fun y hy => ?_)
  · obtain ⟨k, hk, rfl⟩ := List.mem_map.mp hx
    by_cases e : p.filter (snd (0 + k)) = []
    · refine ⟨0, List.mem_cons_self, ?_⟩
      unfold cnt; rw [e]; exact Int.le_refl _
    · obtain ⟨z, hz, hm⟩ := exists_max N3.b _ e
      obtain ⟨z1, z2⟩ := List.mem_filter.mp hz
      refine ⟨cnt p z.b, List.mem_cons_of_mem _ (List.mem_map.mpr ⟨z, z1, rfl⟩), cnt_mono fun n hn g => ?_⟩
      have := hm n (List.mem_filter.mpr ⟨hn, g⟩)
      rw [snd_iff] at *
      omega
  · have h0 : ∀ t, 0 ≤ cnt p t := fun t => by unfold cnt; omega
    rcases List.mem_cons.mp hy with rfl | hy
    · exact ⟨cnt p (0 + (0 : Nat)), List.mem_map.mpr ⟨0, List.mem_range.mpr (by decide), rfl⟩, h0 _⟩
    · obtain ⟨n, hn, rfl⟩ := List.mem_map.mp hy
      have := h.bd n hn
      refine ⟨cnt p (0 + (n.b.toNat : Nat)), List.mem_map.mpr ⟨n.b.toNat, List.mem_range.mpr (by omega), rfl⟩, ?_⟩
      rw [show (0 : Int) + (n.b.toNat : Nat) = n.b by omega]
      exact Int.le_refl _
/-! moments of change -/
def chg (p : List N3) (t : Int) : Bool := !decide ((((p.filter fun n => decide (n.e = t)).map N3.k).filter fun k => !decide (k ∈ (p.filter fun n => decide (n.b = t)).map N3.k)) = [])
def lawChanges (p : List N3) : List Int := ((List.range 59).map fun k : Nat => (1 + k : Int)).filter (chg p)
theorem chg_iff {p : List N3} {t : Int} : chg p t = true ↔ ∃ n ∈ p, n.e = t ∧ ¬ ∃ m ∈ p, m.b = t ∧ m.k = n.k := by
  unfold chg
  have hne : ∀ xs : List Int, (¬ xs = []) ↔ ∃ x, x ∈ xs := fun xs => by
    cases xs with
    | nil => simp
    | cons x xs => exact ⟨fun _ => ⟨x, List.mem_cons_self⟩, fun _ => List.cons_ne_nil _ _⟩
  rw [Bool.not_eq_true', decide_eq_false_iff_not, hne]
  simp only [List.mem_filter, List.mem_map, Bool.not_eq_true', decide_eq_false_iff_not, decide_eq_true_eq]
  constructor
  · rintro ⟨k, ⟨n, ⟨h1, h2⟩, rfl⟩, h3⟩
    exact ⟨n, h1, h2, fun ⟨m, g1, g2, g3⟩ => h3 ⟨m, ⟨g1, g2⟩, g3⟩⟩
  · rintro ⟨n, h1, h2, h3⟩
    exact ⟨n.k, ⟨n, ⟨h1, h2⟩, rfl⟩, fun ⟨m, ⟨g1, g2⟩, g3⟩ => h3 ⟨m, g1, g2, g3⟩⟩
theorem struck_iff {p : List N3} {n : N3} : struck p n = true ↔ ∃ m ∈ p, m.k = n.k ∧ m.b = n.e := by
  unfold struck
  simp [List.any_eq_true]
theorem mem_changes {p : List N3} {t : Int} : t ∈ changesOf p ↔ t < 60 ∧ ∃ n ∈ p, n.e = t ∧ ¬ ∃ m ∈ p, m.b = t ∧ m.k = n.k := by
  unfold changesOf
  rw [srtU_mem, List.mem_map]
  constructor
  · rintro ⟨n, h, rfl⟩
    obtain ⟨h1, h2⟩ := List.mem_filter.mp h
    simp only [Bool.and_eq_true, decide_eq_true_eq, Bool.not_eq_true', ← Bool.not_eq_true, struck_iff] at h2
    exact ⟨h2.1, n, h1, rfl, fun ⟨m, g1, g2, g3⟩ => h2.2 ⟨m, g1, g3, g2⟩⟩
  · rintro ⟨h0, n, h1, rfl, h2⟩
    refine ⟨n, List.mem_filter.mpr ⟨h1, ?_⟩, rfl⟩
    simp only [Bool.and_eq_true, decide_eq_true_eq, Bool.not_eq_true', ← Bool.not_eq_true, struck_iff]
    exact ⟨h0, fun ⟨m, g1, g2, g3⟩ => h2 ⟨m, g1, g3, g2⟩⟩
theorem changes_eq {p : List N3} (h : Piece p) : lawChanges p = changesOf p := by
  refine lt_uniq ?_ (srtU_lt _) fun z => ?_
  · unfold lawChanges
    refine List.Pairwise.filter _ ?_
    rw [List.pairwise_map]
    exact List.pairwise_lt_range.imp fun h => by omega
  · rw [mem_changes]
    unfold lawChanges
    rw [List.mem_filter, chg_iff, List.mem_map]
    constructor
    · rintro ⟨⟨k, hk, rfl⟩, h2⟩
      rw [List.mem_range] at hk
      exact ⟨by omega, h2⟩
    · rintro ⟨h1, n, h2, h3, h4⟩
      have := h.bd n h2
      exact ⟨⟨(z - 1).toNat, List.mem_range.mpr (by omega), by omega⟩, n, h2, h3, h4⟩
theorem eq_nn {xs : List Int} : cmpV .eq (.nw (xs.map .int)) (.nw (xs.map .int)) = some (.dat (.bool true)) := by
  rw [cmp_nn (En.int.list.eq (by decide) xs xs), decide_eq_true rfl]
theorem insU_len (i : Int) : ∀ xs : List Int, (insU i xs).length ≤ xs.length + 1
  | [] => Nat.le_refl _
  | x :: xs => by
    unfold insU
    have := insU_len i xs
    split
    · exact Nat.le_refl _
    · split
      · exact Nat.le_succ _
      · rw [List.length_cons, List.length_cons]; omega
theorem srtU_len : ∀ xs : List Int, (srtU xs).length ≤ xs.length
  | [] => Nat.le_refl _
  | x :: xs => Nat.le_trans (insU_len x (srtU xs)) (Nat.succ_le_succ (srtU_len xs))
theorem changesOf_len (p : List N3) : (changesOf p).length ≤ p.length := by
  unfold changesOf
  refine Nat.le_trans (srtU_len _) ?_
  rw [List.length_map]
  exact List.length_filter_le _ _
theorem src_new (M : Mem) (c s p : Int) (hp : 0 < p ∧ p < 2147483648) (hs : 0 ≤ s ∧ s < 4294967296) : SrcAt (M ++ [.lst [.int c, .int s, .int p]]) M.length := ⟨c, s, p, by simp, hp, hs⟩
example : True := by
  have := @exec.eq_1
  have := @exec.eq_2
  have := @exec.eq_3
  have := @exec.eq_4
  have := @exec.eq_5
  have := @exec.eq_6
  have := @exec.eq_7
  have := @exec.eq_8
  have := @exec.eq_9
  have := @exec.eq_12
  have := @exec.eq_13
  have := @exec.eq_14
  have := @exec.eq_15
  have := @exec.eq_16
  have := @exec.eq_17
  have := @exec.eq_18
  have := @ev.eq_1
  have := @ev.eq_2
  have := @ev.eq_3
  have := @ev.eq_4
  have := @ev.eq_5
  have := @ev.eq_6
  have := @ev.eq_7
  have := @ev.eq_8
  have := @ev.eq_9
  have := @ev.eq_10
  have := @ev.eq_11
  have := @ev.eq_12
  have := @ev.eq_13
  have := @ev.eq_14
  have := @ev.eq_15
  have := @ev.eq_16
  have := @ev.eq_17
  have := @ev.eq_18
  have := @ev.eq_19
  have := @ev.eq_20
  have := @ev.eq_21
  have := @ev.eq_22
  have := @ev.eq_23
  have := @ev.eq_24
  trivial
local macro_rules | `(tactic| get_elem_tactic_extensible) => `(tactic| simp only [*, execs, exec.eq_1, exec.eq_2, exec.eq_3, exec.eq_4, exec.eq_5, exec.eq_6, exec.eq_7, exec.eq_8, exec.eq_9, exec.eq_12, exec.eq_13, exec.eq_14, exec.eq_15, exec.eq_16, exec.eq_17, exec.eq_18, ev.eq_1, ev.eq_2, ev.eq_3, ev.eq_4, ev.eq_5, ev.eq_6, ev.eq_7, ev.eq_8, ev.eq_9, ev.eq_10, ev.eq_11, ev.eq_12, ev.eq_13, ev.eq_14, ev.eq_15, ev.eq_16, ev.eq_17, ev.eq_18, ev.eq_19, ev.eq_20, ev.eq_21, ev.eq_22, ev.eq_23, ev.eq_24, evs, evI, evIv, evp, view, bor, okv, okv1, asg_vd, asg_vn, asg_vm, asg_vc, asg_vs, asg_on, asg_om, asg_cn, asgs_0, asgs_1, Res.bind_ok, Res.lift_some, nx_ok', ifB_b, bind_ite, ite_and, ite_or, ite_notand, List.isEmpty_nil, List.isEmpty_cons, Bool.true_or, Bool.false_or, Bool.or_true, Bool.or_false, Bool.true_and, Bool.and_true, Bool.not_true, Bool.not_false, if_true, Bool.false_eq_true, if_false, List.getD_eq_getElem?_getD, List.getElem?_cons_zero, List.getElem?_cons_succ, Option.getD_some, List.length_cons, List.length_nil, List.length_map, Nat.sub_self, Nat.reduceAdd, Nat.reduceSub, List.replicate, List.cons_append, List.nil_append, List.append_nil, List.map_cons, List.map_nil, fin1, fin_dat, fin_nw, fin_nwd, fin_next, fin_ite, take_self, bind_n3, bind_pr, bind_ePr, bind_nm, List.set_cons_zero, List.set_cons_succ, wipeD, gets, Vl.get, Vl.nrm, Option.map_some, notV_b, negV_i, bi_isInt, bi_isBool, bi_isTuple, ty_int_int, ty_int_bool, ty_bool_int, ty_bool_bool, ty_tup_tup, ty_n3, min_ii, max_ii, int_b, len_tup, len_list, len_nw, len_n3, all_nw, any_nw, max_nw, tup_nw, tup_list, list_tup, sorted_n3, sorted_n3L, sorted_ints, cmp_lt, cmp_le, cmp_gt, cmp_ge, cmp_eq, cmp_ne, cmp_memL, cmp_memT, cmp_nmemL, cmp_nmemT, cmp_nmemN, lt_n3, op_add, op_sub, idx_n0, idx_n1, idx_n2, idx_tup, idx_list, idx_nw, at_2_0, at_2_1, seq_tup, seq_list, seq_nw, fold_n3, zip_tt, zip_tl, zip_ll, zip_ln, slc_tail, slc_tailL, ends_t, ends_f, cast3, cast2, decide_true, decide_false, idx_scr, idx_cell, len_scr, take_set, at_3_0, at_3_1, at_3_2, ix_3_0, ix_3_1, List.all_cons, List.all_nil, noL, noLs, noLkv, Nat.reduceLT, mkD_f, dict_d, dget_encF, dput_encF, op_addN, max_ns, cmp_ne_nil])
theorem most_at_once_n3 {T : Nat → Option Fn} (h : T 15 = some F.most_at_once) (l : Nat) (p : List N3) (hp : p.length ≤ 1000) (M : Mem) : callAt T (l + 1) 15 [eP p] M = .ok (.dat (.int (mostOf p))) M := by
  rw [callAt_def h rfl]
  unfold F.most_at_once eP
  clear h
  have hi : ∀ (ρ : Rho) (t : Int), ρ.getD 0 .und = .dat (.tuple (p.map eN)) → ρ.getD 2 .und = .dat (.int t) → ρ.length = 7 → ev (callAt T l) (.comp [4, 5, 6] (.tp (.cons (.nm 4) (.cons (.nm 5) (.cons (.nm 6) .nil)))) (.seq (.var 0)) (.chain .le .lt (.var 5) (.var 2) (.var 6)) (.cst (.int 1))) ρ M = .ok (.nw (((p.filter (snd t)).map fun _ => (1 : Int)).map .int)) M := by
    intro ρ t h0 h2 hl
    match ρ, hl with
    | [a, b, c, d, e, f, g], _ =>
      simp only [List.getD_eq_getElem?_getD, List.getElem?_cons_zero, List.getElem?_cons_succ, Option.getD_some] at h0 h2
      subst h0 h2
      exact comp_map eN (snd t) (fun _ => 1) .int p (by get_elem_tactic_extensible) (fun a _ => by get_elem_tactic_extensible; rfl)
  get_elem_tactic_extensible
  rw [comp_all (own := [1, 2, 3]) eN (fun n => cnt p n.b) .int p (by get_elem_tactic_extensible) (fun a _ => by
    get_elem_tactic_extensible
    rw [hi _ a.b rfl rfl rfl]
    get_elem_tactic_extensible
    rfl)]
  clear hi
  have hlim : lim = 16777216 := by decide
  have h1 : 1 + p.length ≤ lim := by rw [hlim]; omega
  clear hlim hp
  have e := max_nw (n := 0) (ns := p.map fun n => cnt p n.b)
  get_elem_tactic_extensible
  rfl
theorem most_notes_n3 {T : Nat → Option Fn} (h0 : T 0 = some F.is_integer) (h1 : T 1 = some F.is_note) (h2 : T 2 = some F.is_piece) (h3 : T 3 = some F.require_piece) (h15 : T 15 = some F.most_at_once) (h : T 24 = some F.most_notes) (l : Nat) (p : List N3) (hp : pieceOk p = true) (hl : p.length ≤ 40) (M : Mem) : callAt T (l + 5) 24 [eP p] M = .ok (.dat (.int (mostOf p))) M := by
  rw [callAt_def h rfl]
  unfold F.most_notes
  have e1 := require_piece_n3 h0 h1 h2 h3 l p hp
  have e3 := most_at_once_n3 h15 (l + 3) p (by omega)
  clear h h0 h1 h2 h3 h15 hp hl
  unfold eP at *
  get_elem_tactic_extensible
theorem l_most_n3 {T : Nat → Option Fn} (h : T 47 = some F.l_most) (l : Nat) (p : List N3) (hp : Piece p) (M : Mem) : callAt T (l + 1) 47 [eP p] M = .ok (.dat (.int (mostOf p))) M := by
  rw [← most_eq hp]
  clear hp
  rw [callAt_def h rfl]
  unfold F.l_most eP
  clear h
  have hi : ∀ (ρ : Rho) (t : Int), ρ.getD 0 .und = .dat (.tuple (p.map eN)) → ρ.getD 1 .und = .dat (.int t) → ρ.length = 5 → ev (callAt T l) (.comp [2, 3, 4] (.tp (.cons (.nm 2) (.cons (.nm 3) (.cons (.nm 4) .nil)))) (.seq (.var 0)) (.chain .le .lt (.var 3) (.var 1) (.var 4)) (.cst (.int 1))) ρ M = .ok (.nw (((p.filter (snd t)).map fun _ => (1 : Int)).map .int)) M := by
    intro ρ t h0 h2 hl
    match ρ, hl with
    | [a, b, c, d, e], _ =>
      simp only [List.getD_eq_getElem?_getD, List.getElem?_cons_zero, List.getElem?_cons_succ, Option.getD_some] at h0 h2
      subst h0 h2
      exact comp_map eN (snd t) (fun _ => 1) .int p (by get_elem_tactic_extensible) (fun a _ => by get_elem_tactic_extensible; rfl)
  have hr : rng 0 60 = some ((List.range 60).map fun (k : Nat) => PyData.int (0 + k)) := rng0 (by decide)
  have e1 : biV .max [.nw (((List.range 60).map fun k : Nat => cnt p (0 + k)).map PyData.int)] = some (.dat (.int (lawMost p))) := max_ne (by simp)
  get_elem_tactic_extensible
  rw [comp_all (own := [1]) (fun k : Nat => PyData.int (0 + k)) (fun k : Nat => cnt p (0 + k)) .int (List.range 60) (by get_elem_tactic_extensible) (fun a _ => by
    get_elem_tactic_extensible
    rw [hi _ (0 + a) rfl rfl rfl]
    get_elem_tactic_extensible
    rfl)]
  clear hi
  get_elem_tactic_extensible
theorem l_changes_n3 {T : Nat → Option Fn} (h : T 48 = some F.l_changes) (l : Nat) (p : List N3) (hp : Piece p) (M : Mem) : callAt T (l + 1) 48 [eP p] M = .ok (.nw ((changesOf p).map .int)) M := by
  rw [← changes_eq hp]
  clear hp
  rw [callAt_def h rfl]
  unfold F.l_changes eP
  clear h
  have hr : rng 1 60 = some ((List.range 59).map fun (k : Nat) => PyData.int (1 + k)) := rng_nn (by decide) (by decide)
  get_elem_tactic_extensible
  rw [fr_pre (M' := M) (fun k : Nat => PyData.int (1 + k)) (List.range 59) (fun pre => [.dat (.tuple (p.map eN)), .own (((pre.map fun k : Nat => (1 + k : Int)).filter (chg p)).map .int), .und, .und, .und, .und, .und, .und]) (by get_elem_tactic_extensible) rfl (by
    intro pre a post he
    have hl : ((pre.map fun k : Nat => (1 + k : Int)).filter (chg p)).length < lim := by
      have h1 : (List.range 59).length = (pre ++ a :: post).length := by rw [he]
      rw [List.length_range, List.length_append, List.length_cons] at h1
      have h2 := List.length_filter_le (chg p) (pre.map fun k : Nat => (1 + k : Int))
      rw [List.length_map] at h2
      have hlim : lim = 16777216 := by decide
      rw [hlim]; omega
    rw [List.map_append, List.filter_append, List.map_append]
    clear hr he
    get_elem_tactic_extensible
    rw [comp_map (own := [5, 6, 7]) eN (fun n => decide (n.e = 1 + (a : Int))) N3.k .int p (by get_elem_tactic_extensible) (fun a _ => by get_elem_tactic_extensible)]
    get_elem_tactic_extensible
    rw [comp_map (own := [5, 6, 7]) eN (fun n => decide (n.b = 1 + (a : Int))) N3.k .int p (by get_elem_tactic_extensible) (fun a _ => by get_elem_tactic_extensible)]
    get_elem_tactic_extensible
    rw [comp_map (own := [5]) .int (fun k => !decide (k ∈ (p.filter fun n => decide (n.b = 1 + (a : Int))).map N3.k)) id .int ((p.filter fun n => decide (n.e = 1 + (a : Int))).map N3.k) (by get_elem_tactic_extensible) (fun a _ => by get_elem_tactic_extensible; rfl)]
    rw [List.map_id]
    have hc : (!decide ((((p.filter fun n => decide (n.e = 1 + (a : Int))).map N3.k).filter fun k => !decide (k ∈ (p.filter fun n => decide (n.b = 1 + (a : Int))).map N3.k)) = [])) = chg p (1 + a) := rfl
    get_elem_tactic_extensible
    cases e : chg p (1 + (a : Int)) with
    | true =>
      get_elem_tactic_extensible
      refine ⟨_, rfl, ?_⟩
      get_elem_tactic_extensible
      simp [e]
    | false =>
      get_elem_tactic_extensible
      refine ⟨_, rfl, ?_⟩
      get_elem_tactic_extensible
      simp [e])]
  get_elem_tactic_extensible
  rfl
end Co
end

section
set_option Elab.async false
set_option linter.all false
set_option maxRecDepth 100000
set_option maxHeartbeats 1000000
namespace Co
open PySem
theorem cut_take {α : Type} (xs : List α) (i : Nat) (h : i ≤ xs.length) : cut xs none (some (i : Int)) = xs.take i := by
  unfold cut
  rw [HT.sIx_none, HT.sIx_nat, Nat.min_eq_left h]; rfl
theorem cut_drop {α : Type} (xs : List α) (i : Nat) (h : i ≤ xs.length) : cut xs (some (i : Int)) none = xs.drop i := by
  unfold cut
  rw [HT.sIx_none, HT.sIx_nat, Nat.min_eq_left h, ← List.length_drop, List.take_length]
theorem slc_take {α : Type} {E : α → Dt} {xs : List α} {i : Nat} (h : i ≤ xs.length) : slcV (.dat (.tuple (xs.map E))) none (some (i : Int)) = some (.dat (.tuple ((xs.take i).map E))) := by
  show some (Vl.dat (.tuple (cut (xs.map E) none (some (i : Int))))) = _
  rw [cut_take _ _ (by rw [List.length_map]; exact h), List.map_take]
theorem slc_drop {α : Type} {E : α → Dt} {xs : List α} {i : Nat} (h : i ≤ xs.length) : slcV (.dat (.tuple (xs.map E))) (some (i : Int)) none = some (.dat (.tuple ((xs.drop i).map E))) := by
  show some (Vl.dat (.tuple (cut (xs.map E) (some (i : Int)) none))) = _
  rw [cut_drop _ _ (by rw [List.length_map]; exact h), List.map_drop]
theorem op_addT {xs ys : List Dt} (h : xs.length + ys.length ≤ lim) : opV .add (.dat (.tuple xs)) (.dat (.tuple ys)) = some (.dat (.tuple (xs ++ ys))) := by
  show (if xs.length + ys.length ≤ lim then some (Vl.dat (.tuple (xs ++ ys))) else none) = _
  rw [if_pos h]
/-- a list or a tuple of ints -/
structure SeqI (U : Dt) (ups : List Int) : Prop where
  seq : seq? (.dat U) = some (ups.map .int)
  mem : ∀ i : Int, cmpV .mem (.dat (.int i)) (.dat U) = some (.dat (.bool (decide (i ∈ ups))))
theorem SeqI.list (ups : List Int) : SeqI (.list (ups.map .int)) ups := ⟨rfl, fun _ => cmp_memL⟩
theorem SeqI.tuple (ups : List Int) : SeqI (.tuple (ups.map .int)) ups := ⟨rfl, fun _ => cmp_memT⟩
def inN (n : N3) (t : Int) : Bool := decide (n.b ≤ t) && decide (t < n.e)
theorem inN_iff {n : N3} {t : Int} : inN n t = true ↔ n.b ≤ t ∧ t < n.e := by simp [inN]
/-- the end of the stroke of a note -/
def hold (ups : List Int) (n : N3) : Int := 1 + maxI (n.b :: ups.filter (inN n))
def shN (ups : List Int) (n : N3) : N3 := ⟨n.k, n.b, hold ups n⟩
def short (ups : List Int) (p : List N3) : List N3 := p.map (shN ups)
theorem zip_self_map {α β γ : Type} (f : α → β) (g : α × β → γ) : ∀ p : List α, (p.zip (p.map f)).map g = p.map fun n => g (n, f n)
  | [] => rfl
  | x :: xs => by rw [List.map_cons, List.zip_cons_cons, List.map_cons, List.map_cons, zip_self_map f g xs]
theorem maxI_iff {ns : List Int} {m : Int} (h1 : m ∈ ns) (h2 : ∀ x ∈ ns, x ≤ m) : maxI ns = m := by
  have hn : ns ≠ [] := fun e => by rw [e] at h1; cases h1
  have := h2 _ (maxI_mem hn)
  have := maxI_le h1
  omega
theorem hold_fold (ups : List Int) (b : Int) : ∀ m : Nat, (List.range m).foldl (fun off (k : Nat) => if b + (k : Int) ∈ ups then b + (k : Int) + 1 else off) (b + 1) = 1 + maxI (b :: ups.filter fun t => decide (b ≤ t) && decide (t < b + m))
  | 0 => by
    have : maxI (b :: ups.filter fun t => decide (b ≤ t) && decide (t < b + (0 : Nat))) = b := maxI_iff List.mem_cons_self fun x hx => by
      rcases List.mem_cons.mp hx with rfl | hx
      · exact Int.le_refl _
      · have := (List.mem_filter.mp hx).2
        simp only [Bool.and_eq_true, decide_eq_true_eq] at this
        omega
    rw [this]; show b + 1 = _; omega
  | m + 1 => by
    rw [List.range_succ, List.foldl_append, hold_fold ups b m, List.foldl_cons, List.foldl_nil]
    by_cases h : b + (m : Int) ∈ ups
    · rw [if_pos h]
      have : maxI (b :: ups.filter fun t => decide (b ≤ t) && decide (t < b + ((m + 1 : Nat) : Int))) = b + m := maxI_iff (List.mem_cons_of_mem _ (List.mem_filter.mpr ⟨h, by simp only [Bool.and_eq_true, decide_eq_true_eq]; omega⟩)) fun x hx => by
        rcases List.mem_cons.mp hx with rfl | hx
        · omega
        · have := (List.mem_filter.mp hx).2
          simp only [Bool.and_eq_true, decide_eq_true_eq] at this
          omega
      rw [this]; omega
    · rw [if_neg h]
      congr 2
      have : ∀ xs : List Int, (∀ x ∈ xs, x ≠ b + m) → xs.filter (fun t => decide (b ≤ t) && decide (t < b + (m : Int))) = xs.filter (fun t => decide (b ≤ t) && decide (t < b + ((m + 1 : Nat) : Int))) := fun xs hx => List.filter_congr fun x hm => by
        have := hx x hm
        congr 1
        exact decide_eq_decide.mpr (by omega)
      rw [this ups fun x hx e => h (e ▸ hx)]
theorem hold_eq (ups : List Int) (n : N3) (h : n.b ≤ n.e) : (List.range (n.e - n.b).toNat).foldl (fun off (k : Nat) => if n.b + (k : Int) ∈ ups then n.b + (k : Int) + 1 else off) (n.b + 1) = hold ups n := by
  rw [hold_fold]
  unfold hold inN
  rw [show n.b + ((n.e - n.b).toNat : Int) = n.e by omega]
theorem hold_bd (ups : List Int) (n : N3) (h : n.b < n.e) : n.b < hold ups n ∧ hold ups n ≤ n.e := by
  unfold hold
  have h1 := maxI_le (ns := n.b :: ups.filter (inN n)) List.mem_cons_self
  have h2 := maxI_mem (ns := n.b :: ups.filter (inN n)) (List.cons_ne_nil _ _)
  rcases List.mem_cons.mp h2 with e | e
  · omega
  · have := inN_iff.mp (List.mem_filter.mp e).2
    omega
def Bds (p : List N3) : Prop := ∀ n ∈ p, 0 ≤ n.b ∧ n.b < n.e ∧ n.e ≤ 60
theorem Piece.bds {p : List N3} (h : Piece p) : Bds p := fun n hn => (h.bd n hn).2
theorem Bds.short {p : List N3} (h : Bds p) (ups : List Int) : Bds (short ups p) := fun n hn => by
  obtain ⟨m, hm, rfl⟩ := List.mem_map.mp hn
  have := h m hm
  have := hold_bd ups m this.2.1
  show 0 ≤ m.b ∧ m.b < hold ups m ∧ hold ups m ≤ 60
  omega
theorem most_eqB {p : List N3} (h : Bds p) : lawMost p = mostOf p := by
  unfold lawMost mostOf
  refine maxI_eq (by simp) (by simp) (fun x hx => ?_) (fun y hy => ?_)
  · obtain ⟨k, hk, rfl⟩ := List.mem_map.mp hx
    by_cases e : p.filter (snd (0 + k)) = []
    · refine ⟨0, List.mem_cons_self, ?_⟩
      unfold cnt; rw [e]; exact Int.le_refl _
    · obtain ⟨z, hz, hm⟩ := exists_max N3.b _ e
      obtain ⟨z1, z2⟩ := List.mem_filter.mp hz
      refine ⟨cnt p z.b, List.mem_cons_of_mem _ (List.mem_map.mpr ⟨z, z1, rfl⟩), cnt_mono fun n hn g => ?_⟩
      have := hm n (List.mem_filter.mpr ⟨hn, g⟩)
      rw [snd_iff] at *
      omega
  · have h0 : ∀ t, 0 ≤ cnt p t := fun t => by unfold cnt; omega
    rcases List.mem_cons.mp hy with rfl | hy
    · exact ⟨cnt p (0 + (0 : Nat)), List.mem_map.mpr ⟨0, List.mem_range.mpr (by decide), rfl⟩, h0 _⟩
    · obtain ⟨n, hn, rfl⟩ := List.mem_map.mp hy
      have := h n hn
      refine ⟨cnt p (0 + (n.b.toNat : Nat)), List.mem_map.mpr ⟨n.b.toNat, List.mem_range.mpr (by omega), rfl⟩, ?_⟩
      rw [show (0 : Int) + (n.b.toNat : Nat) = n.b by omega]
      exact Int.le_refl _
theorem Piece.erase {p : List N3} (h : Piece p) (i : Nat) : Piece (p.eraseIdx i) := by
  have hs : (p.eraseIdx i).Sublist p := List.eraseIdx_sublist p i
  exact ⟨Nat.le_trans hs.length_le h.len, fun n hn => h.bd n (hs.subset hn), h.ord.sublist hs⟩
def few (p : List N3) : Int := mostOf (short (changesOf p) p)
example : True := by
  have := @exec.eq_1
  have := @exec.eq_2
  have := @exec.eq_3
  have := @exec.eq_4
  have := @exec.eq_5
  have := @exec.eq_6
  have := @exec.eq_7
  have := @exec.eq_8
  have := @exec.eq_9
  have := @exec.eq_12
  have := @exec.eq_13
  have := @exec.eq_14
  have := @exec.eq_15
  have := @exec.eq_16
  have := @exec.eq_17
  have := @exec.eq_18
  have := @ev.eq_1
  have := @ev.eq_2
  have := @ev.eq_3
  have := @ev.eq_4
  have := @ev.eq_5
  have := @ev.eq_6
  have := @ev.eq_7
  have := @ev.eq_8
  have := @ev.eq_9
  have := @ev.eq_10
  have := @ev.eq_11
  have := @ev.eq_12
  have := @ev.eq_13
  have := @ev.eq_14
  have := @ev.eq_15
  have := @ev.eq_16
  have := @ev.eq_17
  have := @ev.eq_18
  have := @ev.eq_19
  have := @ev.eq_20
  have := @ev.eq_21
  have := @ev.eq_22
  have := @ev.eq_23
  have := @ev.eq_24
  trivial
local macro_rules | `(tactic| get_elem_tactic_extensible) => `(tactic| simp only [*, execs, exec.eq_1, exec.eq_2, exec.eq_3, exec.eq_4, exec.eq_5, exec.eq_6, exec.eq_7, exec.eq_8, exec.eq_9, exec.eq_12, exec.eq_13, exec.eq_14, exec.eq_15, exec.eq_16, exec.eq_17, exec.eq_18, ev.eq_1, ev.eq_2, ev.eq_3, ev.eq_4, ev.eq_5, ev.eq_6, ev.eq_7, ev.eq_8, ev.eq_9, ev.eq_10, ev.eq_11, ev.eq_12, ev.eq_13, ev.eq_14, ev.eq_15, ev.eq_16, ev.eq_17, ev.eq_18, ev.eq_19, ev.eq_20, ev.eq_21, ev.eq_22, ev.eq_23, ev.eq_24, evs, evI, evIv, evp, view, bor, okv, okv1, asg_vd, asg_vn, asg_vm, asg_vc, asg_vs, asg_on, asg_om, asg_cn, asgs_0, asgs_1, Res.bind_ok, Res.lift_some, nx_ok', ifB_b, bind_ite, ite_and, ite_or, ite_notand, List.isEmpty_nil, List.isEmpty_cons, Bool.true_or, Bool.false_or, Bool.or_true, Bool.or_false, Bool.true_and, Bool.and_true, Bool.not_true, Bool.not_false, if_true, Bool.false_eq_true, if_false, List.getD_eq_getElem?_getD, List.getElem?_cons_zero, List.getElem?_cons_succ, Option.getD_some, List.length_cons, List.length_nil, List.length_map, Nat.sub_self, Nat.reduceAdd, Nat.reduceSub, List.replicate, List.cons_append, List.nil_append, List.append_nil, List.map_cons, List.map_nil, fin1, fin_dat, fin_nw, fin_nwd, fin_next, fin_ite, take_self, bind_n3, bind_pr, bind_ePr, bind_nm, List.set_cons_zero, List.set_cons_succ, wipeD, gets, Vl.get, Vl.nrm, Option.map_some, notV_b, negV_i, bi_isInt, bi_isBool, bi_isTuple, ty_int_int, ty_int_bool, ty_bool_int, ty_bool_bool, ty_tup_tup, ty_n3, min_ii, max_ii, int_b, len_tup, len_list, len_nw, len_n3, all_nw, any_nw, max_nw, tup_nw, tup_list, list_tup, sorted_n3, sorted_n3L, sorted_ints, cmp_lt, cmp_le, cmp_gt, cmp_ge, cmp_eq, cmp_ne, cmp_memL, cmp_memT, cmp_nmemL, cmp_nmemT, cmp_nmemN, lt_n3, op_add, op_sub, idx_n0, idx_n1, idx_n2, idx_tup, idx_list, idx_nw, at_2_0, at_2_1, seq_tup, seq_list, seq_nw, fold_n3, zip_tt, zip_tl, zip_ll, zip_ln, slc_tail, slc_tailL, ends_t, ends_f, cast3, cast2, decide_true, decide_false, idx_scr, idx_cell, len_scr, take_set, at_3_0, at_3_1, at_3_2, ix_3_0, ix_3_1, List.all_cons, List.all_nil, noL, noLs, noLkv, Nat.reduceLT, mkD_f, dict_d, dget_encF, dput_encF, op_addN, max_ns, cmp_ne_nil, eq_self])
theorem held_with_n3 {T : Nat → Option Fn} (h : T 19 = some F.held_with) (l : Nat) (p : List N3) (U : Dt) (ups : List Int) (hU : SeqI U ups) (hu : ups.length ≤ 1000) (M : Mem) : callAt T (l + 1) 19 [eP p, .dat U] M = .ok (.dat (.tuple ((p.map (hold ups)).map .int))) M := by
  rw [callAt_def h rfl]
  unfold F.held_with eP
  clear h
  have hs := hU.seq
  have hi : ∀ (ρ : Rho) (n : N3), ρ.getD 1 .und = .dat U → ρ.getD 3 .und = .dat (.int n.b) → ρ.getD 4 .und = .dat (.int n.e) → ρ.length = 6 → ev (callAt T l) (.comp [5] (.nm 5) (.seq (.var 1)) (.chain .le .lt (.var 3) (.var 5) (.var 4)) (.var 5)) ρ M = .ok (.nw (((ups.filter (inN n)).map id).map .int)) M := by
    intro ρ n h0 h2 h3 hl
    match ρ, hl with
    | [a, b, c, d, e, f], _ =>
      simp only [List.getD_eq_getElem?_getD, List.getElem?_cons_zero, List.getElem?_cons_succ, Option.getD_some] at h0 h2 h3
      subst h0 h2 h3
      exact comp_map .int (inN n) id .int ups (by get_elem_tactic_extensible) (fun a _ => by get_elem_tactic_extensible; rfl)
  get_elem_tactic_extensible
  rw [comp_all (own := [2, 3, 4]) eN (hold ups) .int p (by get_elem_tactic_extensible) (fun a _ => by
    have e := max_ns (n := a.b) (ns := ups.filter (inN a))
    have h1 : 1 + (ups.filter (inN a)).length ≤ lim := by
      have := List.length_filter_le (inN a) ups
      have hlim : lim = 16777216 := by decide
      rw [hlim]; omega
    rw [List.map_cons] at e
    get_elem_tactic_extensible
    rw [hi _ a rfl rfl rfl rfl, List.map_id]
    get_elem_tactic_extensible
    rfl)]
  clear hi
  get_elem_tactic_extensible
theorem strokes_with_n3 {T : Nat → Option Fn} (h19 : T 19 = some F.held_with) (h : T 20 = some F.strokes_with) (l : Nat) (p : List N3) (U : Dt) (ups : List Int) (hU : SeqI U ups) (hu : ups.length ≤ 1000) (M : Mem) : callAt T (l + 2) 20 [eP p, .dat U] M = .ok (eP (short ups p)) M := by
  rw [callAt_def h rfl]
  unfold F.strokes_with
  have e1 := held_with_n3 h19 l p U ups hU hu
  clear h h19
  unfold eP at *
  get_elem_tactic_extensible
  rw [comp_all (own := [3, 4]) (ePr eN PyData.int) (fun q : N3 × Int => (⟨q.1.k, q.1.b, q.2⟩ : N3)) eN (p.zip (p.map (hold ups))) (by get_elem_tactic_extensible) (fun a _ => by get_elem_tactic_extensible), zip_self_map]
  get_elem_tactic_extensible
  rfl
theorem fewest_of_n3 {T : Nat → Option Fn} (h5 : T 5 = some F.struck_again) (h6 : T 6 = some F.changes_of) (h15 : T 15 = some F.most_at_once) (h19 : T 19 = some F.held_with) (h20 : T 20 = some F.strokes_with) (h : T 21 = some F.fewest_of) (l : Nat) (p : List N3) (hp : p.length ≤ 40) (M : Mem) : callAt T (l + 3) 21 [eP p] M = .ok (.dat (.int (few p))) M := by
  rw [callAt_def h rfl]
  unfold F.fewest_of
  have e1 := changes_of_n3 h5 h6 l p hp
  have hl := changesOf_len p
  have e2 := strokes_with_n3 h19 h20 l p _ _ (SeqI.list (changesOf p)) (by omega)
  have e3 := most_at_once_n3 h15 (l + 1) (short (changesOf p) p) (by unfold short; rw [List.length_map]; omega)
  clear h h5 h6 h15 h19 h20 hl
  unfold eP at *
  get_elem_tactic_extensible
  rfl
theorem fewest_fingers_n3 {T : Nat → Option Fn} (h0 : T 0 = some F.is_integer) (h1 : T 1 = some F.is_note) (h2 : T 2 = some F.is_piece) (h3 : T 3 = some F.require_piece) (h5 : T 5 = some F.struck_again) (h6 : T 6 = some F.changes_of) (h15 : T 15 = some F.most_at_once) (h19 : T 19 = some F.held_with) (h20 : T 20 = some F.strokes_with) (h21 : T 21 = some F.fewest_of) (h : T 23 = some F.fewest_fingers) (l : Nat) (p : List N3) (hp : Piece p) (M : Mem) : callAt T (l + 5) 23 [eP p] M = .ok (.dat (.int (few p))) M := by
  rw [callAt_def h rfl]
  unfold F.fewest_fingers
  have e1 := require_piece_n3 h0 h1 h2 h3 l p hp.ok
  have e3 := fewest_of_n3 h5 h6 h15 h19 h20 h21 (l + 1) p hp.len
  clear h h0 h1 h2 h3 h5 h6 h15 h19 h20 h21 hp
  unfold eP at *
  get_elem_tactic_extensible
theorem l_most_b {T : Nat → Option Fn} (h : T 47 = some F.l_most) (l : Nat) (p : List N3) (hp : Bds p) (M : Mem) : callAt T (l + 1) 47 [eP p] M = .ok (.dat (.int (mostOf p))) M := by
  rw [← most_eqB hp]
  clear hp
  rw [callAt_def h rfl]
  unfold F.l_most eP
  clear h
  have hi : ∀ (ρ : Rho) (t : Int), ρ.getD 0 .und = .dat (.tuple (p.map eN)) → ρ.getD 1 .und = .dat (.int t) → ρ.length = 5 → ev (callAt T l) (.comp [2, 3, 4] (.tp (.cons (.nm 2) (.cons (.nm 3) (.cons (.nm 4) .nil)))) (.seq (.var 0)) (.chain .le .lt (.var 3) (.var 1) (.var 4)) (.cst (.int 1))) ρ M = .ok (.nw (((p.filter (snd t)).map fun _ => (1 : Int)).map .int)) M := by
    intro ρ t h0 h2 hl
    match ρ, hl with
    | [a, b, c, d, e], _ =>
      simp only [List.getD_eq_getElem?_getD, List.getElem?_cons_zero, List.getElem?_cons_succ, Option.getD_some] at h0 h2
      subst h0 h2
      exact comp_map eN (snd t) (fun _ => 1) .int p (by get_elem_tactic_extensible) (fun a _ => by get_elem_tactic_extensible; rfl)
  have hr : rng 0 60 = some ((List.range 60).map fun (k : Nat) => PyData.int (0 + k)) := rng0 (by decide)
  have e1 : biV .max [.nw (((List.range 60).map fun k : Nat => cnt p (0 + k)).map PyData.int)] = some (.dat (.int (lawMost p))) := max_ne (by simp)
  get_elem_tactic_extensible
  rw [comp_all (own := [1]) (fun k : Nat => PyData.int (0 + k)) (fun k : Nat => cnt p (0 + k)) .int (List.range 60) (by get_elem_tactic_extensible) (fun a _ => by
    get_elem_tactic_extensible
    rw [hi _ (0 + a) rfl rfl rfl]
    get_elem_tactic_extensible
    rfl)]
  clear hi
  get_elem_tactic_extensible
theorem l_offs_n3 {T : Nat → Option Fn} (h : T 89 = some F.l_offs) (l : Nat) (p : List N3) (hp : Bds p) (hn : p.length ≤ 1000) (U : Dt) (ups : List Int) (hU : SeqI U ups) (M : Mem) : callAt T (l + 1) 89 [eP p, .dat U] M = .ok (.nw ((p.map (hold ups)).map .int)) M := by
  rw [callAt_def h rfl]
  unfold F.l_offs eP
  clear h
  have hm := hU.mem
  get_elem_tactic_extensible
  rw [fr_pre (M' := M) eN p (fun pre => [.dat (.tuple (p.map eN)), .dat U, .own ((pre.map (hold ups)).map .int), .und, .und, .und, .und, .und]) (by get_elem_tactic_extensible) rfl (by
    intro pre a post he
    have hl : (pre.map (hold ups)).length < lim := by
      have h1 : p.length = (pre ++ a :: post).length := by rw [← he]
      rw [List.length_append, List.length_cons] at h1
      have hlim : lim = 16777216 := by decide
      rw [List.length_map, hlim]; omega
    have hb := hp a (by rw [he]; simp)
    have hr : rng a.b a.e = some ((List.range (a.e - a.b).toNat).map fun (k : Nat) => PyData.int (a.b + k)) := rng_nn ⟨by omega, by omega⟩ ⟨by omega, by omega⟩
    have ho := hold_eq ups a (by omega)
    rw [List.length_map] at hl
    rw [List.map_append, List.map_append]
    clear he hb hp hn
    get_elem_tactic_extensible
    rw [fr_fold (M := M) (fun k : Nat => PyData.int (a.b + k)) (List.range (a.e - a.b).toNat) (fun off : Int => [.dat (.tuple (p.map eN)), .dat U, .own ((pre.map (hold ups)).map .int), .dat (.int a.k), .dat (.int a.b), .dat (.int a.e), .dat (.int off), .und]) (fun off (k : Nat) => if a.b + (k : Int) ∈ ups then a.b + (k : Int) + 1 else off) (a.b + 1) (by get_elem_tactic_extensible) rfl (by
      intro off k _
      clear ho hr hl
      by_cases hk : a.b + (k : Int) ∈ ups
      · have hk' := decide_eq_true hk
        get_elem_tactic_extensible
        exact ⟨_, rfl, rfl⟩
      · have hk' := decide_eq_false hk
        get_elem_tactic_extensible
        exact ⟨_, rfl, rfl⟩)]
    get_elem_tactic_extensible
    exact ⟨_, rfl, rfl⟩)]
  get_elem_tactic_extensible
theorem l_short_n3 {T : Nat → Option Fn} (h89 : T 89 = some F.l_offs) (h : T 90 = some F.l_short) (l : Nat) (p : List N3) (hp : Bds p) (hn : p.length ≤ 1000) (U : Dt) (ups : List Int) (hU : SeqI U ups) (M : Mem) : callAt T (l + 2) 90 [eP p, .dat U] M = .ok (eP (short ups p)) M := by
  rw [callAt_def h rfl]
  unfold F.l_short
  have e1 := l_offs_n3 h89 l p hp hn U ups hU
  clear h h89
  unfold eP at *
  get_elem_tactic_extensible
  rw [comp_all (own := [3, 4]) (ePr eN PyData.int) (fun q : N3 × Int => (⟨q.1.k, q.1.b, q.2⟩ : N3)) eN (p.zip (p.map (hold ups))) (by get_elem_tactic_extensible) (fun a _ => by get_elem_tactic_extensible), zip_self_map]
  get_elem_tactic_extensible
  rfl
end Co
end

section
set_option Elab.async false
set_option linter.all false
set_option maxRecDepth 100000
set_option maxHeartbeats 1000000
namespace Co
open PySem
def decOf (p : List N3) : List Int := ((List.range p.length).filter fun k => decide (few (p.eraseIdx k) < few p)).map fun k : Nat => (0 + k : Int)
theorem slc_take0 {p : List N3} {k : Nat} (h : k ≤ p.length) : slcV (.dat (.tuple (p.map eN))) none (some (0 + (k : Int))) = some (.dat (.tuple ((p.take k).map eN))) := by
  rw [Int.zero_add]; exact slc_take h
theorem slc_drop0 {p : List N3} {k : Nat} (h : k + 1 ≤ p.length) : slcV (.dat (.tuple (p.map eN))) (some (0 + (k : Int) + 1)) none = some (.dat (.tuple ((p.drop (k + 1)).map eN))) := by
  rw [Int.zero_add]; exact slc_drop (i := k + 1) h
theorem add_erase {p : List N3} {k : Nat} (h : p.length ≤ 1000) : opV .add (.dat (.tuple ((p.take k).map eN))) (.dat (.tuple ((p.drop (k + 1)).map eN))) = some (.dat (.tuple ((p.eraseIdx k).map eN))) := by
  have hlim : lim = 16777216 := by decide
  rw [op_addT (by rw [List.length_map, List.length_map, List.length_take, List.length_drop, hlim]; omega), ← List.map_append, List.eraseIdx_eq_take_drop_succ]
theorem range_at {pre post : List Nat} {n a : Nat} (h : List.range n = pre ++ a :: post) : a < n ∧ pre.length < n := by
  have h1 : a ∈ List.range n := by rw [h]; simp
  have h2 : (List.range n).length = (pre ++ a :: post).length := by rw [h]
  rw [List.mem_range] at h1
  rw [List.length_range, List.length_append, List.length_cons] at h2
  exact ⟨h1, by omega⟩
example : True := by
  have := @exec.eq_1
  have := @exec.eq_2
  have := @exec.eq_3
  have := @exec.eq_4
  have := @exec.eq_5
  have := @exec.eq_6
  have := @exec.eq_7
  have := @exec.eq_8
  have := @exec.eq_9
  have := @exec.eq_12
  have := @exec.eq_13
  have := @exec.eq_14
  have := @exec.eq_15
  have := @exec.eq_16
  have := @exec.eq_17
  have := @exec.eq_18
  have := @ev.eq_1
  have := @ev.eq_2
  have := @ev.eq_3
  have := @ev.eq_4
  have := @ev.eq_5
  have := @ev.eq_6
  have := @ev.eq_7
  have := @ev.eq_8
  have := @ev.eq_9
  have := @ev.eq_10
  have := @ev.eq_11
  have := @ev.eq_12
  have := @ev.eq_13
  have := @ev.eq_14
  have := @ev.eq_15
  have := @ev.eq_16
  have := @ev.eq_17
  have := @ev.eq_18
  have := @ev.eq_19
  have := @ev.eq_20
  have := @ev.eq_21
  have := @ev.eq_22
  have := @ev.eq_23
  have := @ev.eq_24
  trivial
local macro_rules | `(tactic| get_elem_tactic_extensible) => `(tactic| simp only [*, execs, exec.eq_1, exec.eq_2, exec.eq_3, exec.eq_4, exec.eq_5, exec.eq_6, exec.eq_7, exec.eq_8, exec.eq_9, exec.eq_12, exec.eq_13, exec.eq_14, exec.eq_15, exec.eq_16, exec.eq_17, exec.eq_18, ev.eq_1, ev.eq_2, ev.eq_3, ev.eq_4, ev.eq_5, ev.eq_6, ev.eq_7, ev.eq_8, ev.eq_9, ev.eq_10, ev.eq_11, ev.eq_12, ev.eq_13, ev.eq_14, ev.eq_15, ev.eq_16, ev.eq_17, ev.eq_18, ev.eq_19, ev.eq_20, ev.eq_21, ev.eq_22, ev.eq_23, ev.eq_24, evs, evI, evIv, evp, view, bor, okv, okv1, asg_vd, asg_vn, asg_vm, asg_vc, asg_vs, asg_on, asg_om, asg_cn, asgs_0, asgs_1, Res.bind_ok, Res.lift_some, nx_ok', ifB_b, bind_ite, ite_and, ite_or, ite_notand, List.isEmpty_nil, List.isEmpty_cons, Bool.true_or, Bool.false_or, Bool.or_true, Bool.or_false, Bool.true_and, Bool.and_true, Bool.not_true, Bool.not_false, if_true, Bool.false_eq_true, if_false, List.getD_eq_getElem?_getD, List.getElem?_cons_zero, List.getElem?_cons_succ, Option.getD_some, List.length_cons, List.length_nil, List.length_map, Nat.sub_self, Nat.reduceAdd, Nat.reduceSub, List.replicate, List.cons_append, List.nil_append, List.append_nil, List.map_cons, List.map_nil, fin1, fin_dat, fin_nw, fin_nwd, fin_next, fin_ite, take_self, bind_n3, bind_pr, bind_ePr, bind_nm, List.set_cons_zero, List.set_cons_succ, wipeD, gets, Vl.get, Vl.nrm, Option.map_some, notV_b, negV_i, bi_isInt, bi_isBool, bi_isTuple, ty_int_int, ty_int_bool, ty_bool_int, ty_bool_bool, ty_tup_tup, ty_n3, min_ii, max_ii, int_b, len_tup, len_list, len_nw, len_n3, all_nw, any_nw, max_nw, tup_nw, tup_list, list_tup, sorted_n3, sorted_n3L, sorted_ints, cmp_lt, cmp_le, cmp_gt, cmp_ge, cmp_eq, cmp_ne, cmp_memL, cmp_memT, cmp_nmemL, cmp_nmemT, cmp_nmemN, lt_n3, op_add, op_sub, idx_n0, idx_n1, idx_n2, idx_tup, idx_list, idx_nw, at_2_0, at_2_1, seq_tup, seq_list, seq_nw, fold_n3, zip_tt, zip_tl, zip_ll, zip_ln, slc_tail, slc_tailL, ends_t, ends_f, cast3, cast2, decide_true, decide_false, idx_scr, idx_cell, len_scr, take_set, at_3_0, at_3_1, at_3_2, ix_3_0, ix_3_1, List.all_cons, List.all_nil, noL, noLs, noLkv, Nat.reduceLT, mkD_f, dict_d, dget_encF, dput_encF, op_addN, max_ns, cmp_ne_nil, eq_self, eq_self])
theorem decisive_n3 {T : Nat → Option Fn} (h0 : T 0 = some F.is_integer) (h1 : T 1 = some F.is_note) (h2 : T 2 = some F.is_piece) (h3 : T 3 = some F.require_piece) (h5 : T 5 = some F.struck_again) (h6 : T 6 = some F.changes_of) (h15 : T 15 = some F.most_at_once) (h19 : T 19 = some F.held_with) (h20 : T 20 = some F.strokes_with) (h21 : T 21 = some F.fewest_of) (h : T 25 = some F.decisive) (l : Nat) (p : List N3) (hp : Piece p) (M : Mem) : callAt T (l + 5) 25 [eP p] M = .ok (.nw ((decOf p).map .int)) M := by
  rw [callAt_def h rfl]
  unfold F.decisive
  have e1 := require_piece_n3 h0 h1 h2 h3 l p hp.ok
  have e3 : ∀ p : List N3, p.length ≤ 40 → ∀ M, callAt T (l + 4) 21 [.dat (.tuple (p.map eN))] M = .ok (.dat (.int (few p))) M := fewest_of_n3 h5 h6 h15 h19 h20 h21 (l + 1)
  have e4 := e3 p hp.len
  have hr := rng0 (j := (p.length : Int)) ⟨by omega, by have := hp.len; omega⟩
  rw [Int.toNat_natCast] at hr
  have hl := hp.len
  clear h h0 h1 h2 h3 h5 h6 h15 h19 h20 h21 hp
  unfold eP at *
  get_elem_tactic_extensible
  rw [fr_pre (M' := M) (fun k : Nat => PyData.int (0 + k)) (List.range p.length) (fun pre => [.dat (.tuple (p.map eN)), .dat (.int (few p)), .own (((pre.filter fun k => decide (few (p.eraseIdx k) < few p)).map fun k : Nat => (0 + k : Int)).map .int), .und]) (by clear e3; get_elem_tactic_extensible) rfl (by
    intro pre k post he
    obtain ⟨hk, hn⟩ := range_at he
    have s1 := slc_take0 (p := p) (k := k) (by omega)
    have s2 := slc_drop0 (p := p) (k := k) (by omega)
    have s3 := add_erase (p := p) (k := k) (by omega)
    have s4 := e3 (p.eraseIdx k) (by rw [List.length_eraseIdx]; split <;> omega)
    have hm : (pre.filter fun k => decide (few (p.eraseIdx k) < few p)).length < lim := by
      have := List.length_filter_le (fun k => decide (few (p.eraseIdx k) < few p)) pre
      have hlim : lim = 16777216 := by decide
      rw [hlim]; omega
    clear e1 e3 e4 hr he hl hn hk
    rw [List.filter_append, List.map_append, List.map_append]
    by_cases hc : few (p.eraseIdx k) < few p
    · have hc' := decide_eq_true hc
      clear hc
      rw [List.filter_cons_of_pos (by simpa using hc')]
      get_elem_tactic_extensible
      exact ⟨_, rfl, rfl⟩
    · have hc' := decide_eq_false hc
      clear hc
      rw [List.filter_cons_of_neg (by simpa using hc')]
      get_elem_tactic_extensible
      exact ⟨_, rfl, by simp only [List.filter_nil, List.map_nil, List.append_nil]; rfl⟩)]
  clear e3
  get_elem_tactic_extensible
  rfl
end Co
end

section
set_option Elab.async false
set_option linter.all false
set_option maxRecDepth 100000
set_option maxHeartbeats 1000000
namespace Co
open PySem
/-! places of a list -/
def enT (q : N3 × Nat) : Dt := .tuple [.int q.2, eN q.1]
theorem enu_map : ∀ (xs : List N3) (i : Nat), enuFrom (i : Int) (xs.map eN) = (xs.zipIdx i).map enT
  | [], _ => rfl
  | x :: xs, i => by
    rw [List.map_cons, List.zipIdx_cons, List.map_cons]
    unfold enuFrom
    rw [show ((i : Int) + 1) = ((i + 1 : Nat) : Int) by omega, enu_map xs (i + 1)]
    rfl
theorem enu_0 {xs : List N3} : enuFrom 0 (xs.map eN) = xs.zipIdx.map enT := enu_map xs 0
theorem bind_en4 {i j k l : Nat} {q : N3 × Nat} {ρ : Rho} : bindT (.tp (.cons (.nm i) (.cons (.tp (.cons (.nm j) (.cons (.nm k) (.cons (.nm l) .nil)))) .nil))) (enT q) ρ = some ((((ρ.set i (.dat (.int q.2))).set j (.dat (.int q.1.k))).set k (.dat (.int q.1.b))).set l (.dat (.int q.1.e))) := rfl
theorem bind_en2 {i j : Nat} {q : N3 × Nat} {ρ : Rho} : bindT (.tp (.cons (.nm i) (.cons (.nm j) .nil))) (enT q) ρ = some ((ρ.set i (.dat (.int q.2))).set j (.dat (eN q.1))) := rfl
theorem at_nat {α : Type} {xs : List α} {j : Nat} (h : j < xs.length) : at? xs (j : Int) = some xs[j] := by
  unfold at? L2.atI
  have : L2.ixN xs.length (j : Int) = some j := by
    unfold L2.ixN
    rw [if_pos (by omega), if_pos (by omega)]; rfl
  rw [this]; simp [h]
theorem at_ints {xs : List Int} {j : Nat} (h : j < xs.length) : at? (xs.map PyData.int) (j : Int) = some (.int (xs.getD j 0)) := by
  rw [at_nat (by rw [List.length_map]; exact h)]
  simp [h]
theorem at_notes {xs : List N3} {j : Nat} (h : j < xs.length) : at? (xs.map eN) (j : Int) = some (eN xs[j]) := by
  rw [at_nat (by rw [List.length_map]; exact h)]
  simp
/-! fingers in order -/
def meets (x y : N3) : Bool := decide (x.b < y.e) && decide (y.b < x.e)
def lowr (m n : N3) : Bool := decide (m.k < n.k) && (decide (m.b < n.e) && decide (n.b < m.e))
def n0 : N3 := ⟨0, 0, 0⟩
def nums (S : List N3) : Nat → List Int
  | 0 => []
  | i + 1 => nums S i ++ [maxI (1 :: (((S.take i).zipIdx.filter fun q => lowr q.1 (S.getD i n0)).map fun q => 1 + (nums S i).getD q.2 0))]
theorem nums_len (S : List N3) : ∀ i, (nums S i).length = i
  | 0 => rfl
  | i + 1 => by rw [nums, List.length_append, nums_len S i]; rfl
def num (S : List N3) (j : Nat) : Int := (nums S (j + 1)).getD j 0
theorem nums_get (S : List N3) (j : Nat) : ∀ i, j < i → (nums S i).getD j 0 = num S j
  | 0, h => absurd h (Nat.not_lt_zero _)
  | i + 1, h => by
    by_cases e : j = i
    · subst e; rfl
    · have : j < i := by omega
      rw [nums, List.getD_eq_getElem?_getD, List.getElem?_append_left (by rw [nums_len]; exact this), ← List.getD_eq_getElem?_getD]
      exact nums_get S j i this
theorem mem_zipIdx0 {S : List N3} {q : N3 × Nat} (h : q ∈ S.zipIdx) : ∃ hq : q.2 < S.length, q.1 = S[q.2] := by
  have := List.mem_zipIdx h
  simp at this
  obtain ⟨h1, h2⟩ := this
  exact ⟨h1, h2⟩
theorem mem_take_idx {S : List N3} {i : Nat} {q : N3 × Nat} (h : q ∈ (S.take i).zipIdx) : q.2 < i := by
  obtain ⟨hq, _⟩ := mem_zipIdx0 h
  rw [List.length_take] at hq
  omega
def cand (S : List N3) (i : Nat) : List (N3 × Nat) := (S.take i).zipIdx.filter fun q => lowr q.1 (S.getD i n0)
theorem cand_lt {S : List N3} {i : Nat} {q : N3 × Nat} (h : q ∈ cand S i) : q.2 < i := mem_take_idx (List.mem_filter.mp h).1
theorem num_eq (S : List N3) (i : Nat) : num S i = maxI (1 :: (cand S i).map fun q => 1 + num S q.2) := by
  unfold num
  rw [nums, List.getD_eq_getElem?_getD, List.getElem?_append_right (by rw [nums_len]; exact Nat.le_refl _), nums_len, Nat.sub_self]
  simp only [List.getElem?_cons_zero, Option.getD_some]
  congr 2
  exact List.map_congr_left fun q hq => by rw [nums_get S q.2 i (cand_lt hq)]; rfl
theorem nums_map (S : List N3) : ∀ i, nums S i = (List.range i).map (num S)
  | 0 => rfl
  | i + 1 => by
    rw [List.range_succ, List.map_append, ← nums_map S i, nums]
    congr 1
    show [_] = [num S i]
    rw [num_eq S i]
    congr 3
    exact List.map_congr_left fun q hq => by rw [nums_get S q.2 i (cand_lt hq)]
theorem maxI_succ (xs : List Int) : maxI (1 :: xs.map fun x => 1 + x) = maxI (0 :: xs) + 1 := by
  refine maxI_iff ?_ ?_
  · rcases List.mem_cons.mp (maxI_mem (List.cons_ne_nil 0 xs)) with e | e
    · rw [e]; exact List.mem_cons_self
    · exact List.mem_cons_of_mem _ (List.mem_map.mpr ⟨_, e, by omega⟩)
  · intro x hx
    rcases List.mem_cons.mp hx with rfl | hx
    · have := maxI_le (ns := 0 :: xs) List.mem_cons_self
      omega
    · obtain ⟨y, hy, rfl⟩ := List.mem_map.mp hx
      have := maxI_le (ns := 0 :: xs) (List.mem_cons_of_mem _ hy)
      omega
/-- keys ascend; equal keys don't overlap -/
def Row (S : List N3) : Prop := S.Pairwise fun x y => x.k ≤ y.k ∧ (x.k = y.k → x.e ≤ y.b)
theorem Piece.row {p : List N3} (h : Piece p) (ups : List Int) : Row (short ups p) := by
  unfold Row short
  rw [List.pairwise_map]
  refine List.Pairwise.imp_of_mem ?_ h.ord
  intro x y hx hy ⟨h1, h2⟩
  rw [lexN_iff] at h1
  have h3 := hold_bd ups x (h.bd x hx).2.2.1
  refine ⟨show x.k ≤ y.k by omega, fun e => ?_⟩
  have := h2 e
  show hold ups x ≤ y.b
  omega
theorem zip_pw {R : N3 → N3 → Prop} : ∀ (xs : List N3) (i : Nat), xs.Pairwise R → (xs.zipIdx i).Pairwise fun q r => q.2 < r.2 ∧ R q.1 r.1
  | [], _, _ => List.Pairwise.nil
  | x :: xs, i, h => by
    obtain ⟨h1, h2⟩ := List.pairwise_cons.mp h
    rw [List.zipIdx_cons, List.pairwise_cons]
    refine ⟨fun q hq => ?_, zip_pw xs (i + 1) h2⟩
    have h3 := List.le_snd_of_mem_zipIdx hq
    have h4 := List.fst_mem_of_mem_zipIdx hq
    exact ⟨h3, h1 _ h4⟩
theorem cand_all {S : List N3} (hS : Row S) {i : Nat} (hi : i < S.length) : S.zipIdx.filter (fun q => lowr q.1 (S.getD i n0)) = cand S i := by
  unfold cand
  have h : S.zipIdx = (S.take i).zipIdx ++ (S.drop i).zipIdx i := by
    have e := List.zipIdx_append (xs := S.take i) (ys := S.drop i) (k := 0)
    rw [List.take_append_drop, List.length_take, Nat.min_eq_left (by omega), Nat.zero_add] at e
    exact e
  rw [h, List.filter_append]
  have : ((S.drop i).zipIdx i).filter (fun q => lowr q.1 (S.getD i n0)) = [] := by
    rw [List.filter_eq_nil_iff]
    intro q hq
    have h4 := List.fst_mem_of_mem_zipIdx hq
    obtain ⟨j, hj, e⟩ := List.mem_iff_getElem.mp h4
    have hk : (S.getD i n0).k ≤ q.1.k := by
      have e0 : S.getD i n0 = S[i] := by simp [hi]
      rw [e0, ← e, List.getElem_drop]
      rw [List.length_drop] at hj
      by_cases hz : j = 0
      · subst hz; exact Int.le_refl _
      · exact (List.pairwise_iff_getElem.mp hS i (i + j) hi (by omega) (by omega)).1
    unfold lowr
    simp only [Bool.and_eq_true, decide_eq_true_eq, not_and]
    intro h1
    omega
  rw [this, List.append_nil]
theorem law_num {S : List N3} (hS : Row S) {i : Nat} (hi : i < S.length) : S.zipIdx.foldl (fun best q => if lowr q.1 (S.getD i n0) = true then (if num S q.2 > best then num S q.2 else best) else best) 0 + 1 = num S i := by
  have e : S.zipIdx.foldl (fun best q => if lowr q.1 (S.getD i n0) = true then (if num S q.2 > best then num S q.2 else best) else best) 0 = ((cand S i).map fun q => num S q.2).foldl (fun a b => if b > a then b else a) 0 := by
    rw [← cand_all hS hi, List.foldl_map, List.foldl_filter]
  rw [e, num_eq]
  have := maxI_succ ((cand S i).map fun q => num S q.2)
  rw [List.map_map] at this
  exact this.symm
theorem num_lt {S : List N3} {q : N3 × Nat} {i : Nat} (h : q ∈ cand S i) : num S q.2 < num S i := by
  rw [num_eq S i]
  have := maxI_le (ns := 1 :: (cand S i).map fun q => 1 + num S q.2) (List.mem_cons_of_mem 1 (List.mem_map.mpr ⟨q, h, rfl⟩))
  omega
theorem num_pos (S : List N3) (i : Nat) : 1 ≤ num S i := by
  rw [num_eq]
  exact maxI_le List.mem_cons_self
theorem num_less {S : List N3} (hS : Row S) {i j : Nat} (hi : i < S.length) (hj : j < S.length) (h : lowr (S.getD i n0) (S.getD j n0) = true) : num S i < num S j := by
  have : (S.getD i n0, i) ∈ cand S j := by
    rw [← cand_all hS hj, List.mem_filter]
    refine ⟨?_, h⟩
    rw [List.mem_zipIdx_iff_getElem?]
    simp [hi]
  exact num_lt this
theorem inc_len {M : Int} : ∀ (xs : List Int) (lo : Int), xs.Pairwise (· < ·) → lo ≤ M → (∀ x ∈ xs, lo < x ∧ x ≤ M) → (xs.length : Int) ≤ M - lo
  | [], lo, _, h, _ => by
    show (0 : Int) ≤ _
    omega
  | x :: xs, lo, hp, h, hb => by
    obtain ⟨h1, h2⟩ := List.pairwise_cons.mp hp
    have h3 := hb x List.mem_cons_self
    have := inc_len xs x h2 h3.2 fun y hy => ⟨h1 y hy, (hb y (List.mem_cons_of_mem _ hy)).2⟩
    rw [List.length_cons]
    omega
def ordered (S : List N3) : Int := maxI (0 :: nums S S.length)
theorem num_le {S : List N3} {i : Nat} (h : i < S.length) : num S i ≤ ordered S := by
  unfold ordered
  rw [nums_map]
  exact maxI_le (List.mem_cons_of_mem _ (List.mem_map.mpr ⟨i, List.mem_range.mpr h, rfl⟩))
theorem cnt_ordered {S : List N3} (hS : Row S) (t : Int) : cnt S t ≤ ordered S := by
  have h0 : 0 ≤ ordered S := maxI_le List.mem_cons_self
  have hl : (S.zipIdx.filter fun q => snd t q.1).map (fun q => q.1) = S.filter (snd t) := by
    have e : S = S.zipIdx.map Prod.fst := by rw [List.zipIdx_map_fst]
    conv => rhs; rw [e, List.filter_map]
    rfl
  have hp : ((S.zipIdx.filter fun q => snd t q.1).map fun q => num S q.2).Pairwise (· < ·) := by
    rw [List.pairwise_map]
    refine List.Pairwise.imp_of_mem ?_ ((zip_pw S 0 hS).filter _)
    intro q r hq hr ⟨h1, h2, h3⟩
    obtain ⟨q1, q2⟩ := List.mem_filter.mp hq
    obtain ⟨r1, r2⟩ := List.mem_filter.mp hr
    rw [snd_iff] at q2 r2
    obtain ⟨hq, eq⟩ := mem_zipIdx0 q1
    obtain ⟨hr, er⟩ := mem_zipIdx0 r1
    refine num_less hS hq hr ?_
    have e1 : S.getD q.2 n0 = q.1 := by rw [eq]; simp [hq]
    have e2 : S.getD r.2 n0 = r.1 := by rw [er]; simp [hr]
    rw [e1, e2]
    unfold lowr
    simp only [Bool.and_eq_true, decide_eq_true_eq]
    omega
  have := inc_len _ 0 hp h0 fun x hx => by
    obtain ⟨q, hq, rfl⟩ := List.mem_map.mp hx
    obtain ⟨hq, _⟩ := mem_zipIdx0 (List.mem_filter.mp hq).1
    have := num_pos S q.2
    have := num_le hq
    omega
  rw [List.length_map] at this
  unfold cnt
  rw [← hl, List.length_map]
  omega
theorem most_ordered {S : List N3} (hS : Row S) : mostOf S ≤ ordered S := by
  unfold mostOf
  rcases List.mem_cons.mp (maxI_mem (List.cons_ne_nil 0 (S.map fun n => cnt S n.b))) with e | e
  · rw [e]; exact maxI_le List.mem_cons_self
  · obtain ⟨n, _, e⟩ := List.mem_map.mp e
    rw [← e]; exact cnt_ordered hS _
theorem op_addNL {xs ys : List Dt} : opV .add (.nw xs) (.dat (.list ys)) = if xs.length + ys.length ≤ lim then some (.nw (xs ++ ys)) else none := rfl
theorem noLs_ints : ∀ {xs : List Int}, noLs (xs.map PyData.int) = true
  | [] => rfl
  | x :: xs => by
    rw [List.map_cons]
    simp only [noLs, noL, Bool.true_and]
    exact noLs_ints
theorem at_notesD {xs : List N3} {j : Nat} (h : j < xs.length) : at? (xs.map eN) (j : Int) = some (eN (xs.getD j n0)) := by
  rw [at_notes h]; simp [h]
theorem max_tup {n : Int} {ns : List Int} : biV .max [.dat (.tuple (.int n :: ns.map .int))] = some (.dat (.int (ns.foldl (fun a b => if b > a then b else a) n))) := by
  show (ints? (.int n :: ns.map .int)).bind _ = _
  rw [show (.int n :: ns.map .int : List Dt) = (n :: ns).map .int from rfl, ints_map]; rfl
example : True := by
  have := @exec.eq_1
  have := @exec.eq_2
  have := @exec.eq_3
  have := @exec.eq_4
  have := @exec.eq_5
  have := @exec.eq_6
  have := @exec.eq_7
  have := @exec.eq_8
  have := @exec.eq_9
  have := @exec.eq_12
  have := @exec.eq_13
  have := @exec.eq_14
  have := @exec.eq_15
  have := @exec.eq_16
  have := @exec.eq_17
  have := @exec.eq_18
  have := @ev.eq_1
  have := @ev.eq_2
  have := @ev.eq_3
  have := @ev.eq_4
  have := @ev.eq_5
  have := @ev.eq_6
  have := @ev.eq_7
  have := @ev.eq_8
  have := @ev.eq_9
  have := @ev.eq_10
  have := @ev.eq_11
  have := @ev.eq_12
  have := @ev.eq_13
  have := @ev.eq_14
  have := @ev.eq_15
  have := @ev.eq_16
  have := @ev.eq_17
  have := @ev.eq_18
  have := @ev.eq_19
  have := @ev.eq_20
  have := @ev.eq_21
  have := @ev.eq_22
  have := @ev.eq_23
  have := @ev.eq_24
  trivial
local macro_rules | `(tactic| get_elem_tactic_extensible) => `(tactic| simp only [*, execs, exec.eq_1, exec.eq_2, exec.eq_3, exec.eq_4, exec.eq_5, exec.eq_6, exec.eq_7, exec.eq_8, exec.eq_9, exec.eq_12, exec.eq_13, exec.eq_14, exec.eq_15, exec.eq_16, exec.eq_17, exec.eq_18, ev.eq_1, ev.eq_2, ev.eq_3, ev.eq_4, ev.eq_5, ev.eq_6, ev.eq_7, ev.eq_8, ev.eq_9, ev.eq_10, ev.eq_11, ev.eq_12, ev.eq_13, ev.eq_14, ev.eq_15, ev.eq_16, ev.eq_17, ev.eq_18, ev.eq_19, ev.eq_20, ev.eq_21, ev.eq_22, ev.eq_23, ev.eq_24, evs, evI, evIv, evp, view, bor, okv, okv1, asg_vd, asg_vn, asg_vm, asg_vc, asg_vs, asg_on, asg_om, asg_cn, asgs_0, asgs_1, Res.bind_ok, Res.lift_some, nx_ok', ifB_b, bind_ite, ite_and, ite_or, ite_notand, List.isEmpty_nil, List.isEmpty_cons, Bool.true_or, Bool.false_or, Bool.or_true, Bool.or_false, Bool.true_and, Bool.and_true, Bool.not_true, Bool.not_false, if_true, Bool.false_eq_true, if_false, List.getD_eq_getElem?_getD, List.getElem?_cons_zero, List.getElem?_cons_succ, Option.getD_some, List.length_cons, List.length_nil, List.length_map, Nat.sub_self, Nat.reduceAdd, Nat.reduceSub, List.replicate, List.cons_append, List.nil_append, List.append_nil, List.map_cons, List.map_nil, fin1, fin_dat, fin_nw, fin_nwd, fin_next, fin_ite, take_self, bind_n3, bind_pr, bind_ePr, bind_nm, List.set_cons_zero, List.set_cons_succ, wipeD, gets, Vl.get, Vl.nrm, Option.map_some, notV_b, negV_i, bi_isInt, bi_isBool, bi_isTuple, ty_int_int, ty_int_bool, ty_bool_int, ty_bool_bool, ty_tup_tup, ty_n3, min_ii, max_ii, int_b, len_tup, len_list, len_nw, len_n3, all_nw, any_nw, max_nw, tup_nw, tup_list, list_tup, sorted_n3, sorted_n3L, sorted_ints, cmp_lt, cmp_le, cmp_gt, cmp_ge, cmp_eq, cmp_ne, cmp_memL, cmp_memT, cmp_nmemL, cmp_nmemT, cmp_nmemN, lt_n3, op_add, op_sub, idx_n0, idx_n1, idx_n2, idx_tup, idx_list, idx_nw, at_2_0, at_2_1, seq_tup, seq_list, seq_nw, fold_n3, zip_tt, zip_tl, zip_ll, zip_ln, slc_tail, slc_tailL, ends_t, ends_f, cast3, cast2, decide_true, decide_false, idx_scr, idx_cell, len_scr, take_set, at_3_0, at_3_1, at_3_2, ix_3_0, ix_3_1, List.all_cons, List.all_nil, noL, noLs, noLkv, Nat.reduceLT, mkD_f, dict_d, dget_encF, dput_encF, op_addN, max_ns, cmp_ne_nil, eq_self, eq_self, enu_0, bind_en4, bind_en2, op_addNL, noLs_ints])
theorem shortest_n3 {T : Nat → Option Fn} (h5 : T 5 = some F.struck_again) (h6 : T 6 = some F.changes_of) (h19 : T 19 = some F.held_with) (h20 : T 20 = some F.strokes_with) (h : T 92 = some F.shortest_strokes) (l : Nat) (p : List N3) (hp : p.length ≤ 40) (M : Mem) : callAt T (l + 3) 92 [eP p] M = .ok (eP (short (changesOf p) p)) M := by
  rw [callAt_def h rfl]
  unfold F.shortest_strokes
  have e1 := changes_of_n3 h5 h6 l p hp
  have hl := changesOf_len p
  have e2 := strokes_with_n3 h19 h20 l p _ _ (SeqI.list (changesOf p)) (by omega)
  clear h h5 h6 h19 h20 hl
  unfold eP at *
  get_elem_tactic_extensible
theorem finger_numbers_n3 {T : Nat → Option Fn} (h0 : T 0 = some F.is_integer) (h1 : T 1 = some F.is_note) (h2 : T 2 = some F.is_piece) (h3 : T 3 = some F.require_piece) (h5 : T 5 = some F.struck_again) (h6 : T 6 = some F.changes_of) (h19 : T 19 = some F.held_with) (h20 : T 20 = some F.strokes_with) (h92 : T 92 = some F.shortest_strokes) (h : T 98 = some F.finger_numbers) (l : Nat) (p : List N3) (hp : Piece p) (M : Mem) : callAt T (l + 5) 98 [eP p] M = .ok (.dat (.tuple ((nums (short (changesOf p) p) p.length).map .int))) M := by
  rw [callAt_def h rfl]
  unfold F.finger_numbers
  have e1 := require_piece_n3 h0 h1 h2 h3 l p hp.ok
  have e2 : ∀ M, callAt T (l + 4) 92 [eP p] M = .ok (eP (short (changesOf p) p)) M := shortest_n3 h5 h6 h19 h20 h92 (l + 1) p hp.len
  have hlen : (short (changesOf p) p).length = p.length := List.length_map _
  have hl := hp.len
  rw [← hlen] at hl ⊢
  clear h h0 h1 h2 h3 h5 h6 h19 h20 h92 hp
  generalize short (changesOf p) p = S at *
  unfold eP at *
  get_elem_tactic_extensible
  rw [fr_pre (M' := M) eN S (fun pre => [.dat (.tuple (p.map eN)), .dat (.tuple (S.map eN)), .own ((nums S pre.length).map .int), .und, .und, .und, .und, .und, .und, .und, .und]) (by clear hlen; get_elem_tactic_extensible) rfl (by
    intro pre a post he
    have hi : pre.length < S.length := by rw [he, List.length_append, List.length_cons]; omega
    have ha : S.getD pre.length n0 = a := by rw [he]; simp
    generalize hpl : pre.length = i at hi ha
    have k1 := nums_len S i
    have k2 := slc_take (E := eN) (xs := S) (i := i) (by omega)
    have k3 : i < lim := by
      have hlim : lim = 16777216 := by decide
      rw [hlim]; omega
    have k4 : 1 + (((S.take i).zipIdx.filter fun q => lowr q.1 a)).length ≤ lim := by
      have h1 := List.length_filter_le (fun q : N3 × Nat => lowr q.1 a) (S.take i).zipIdx
      rw [List.length_zipIdx, List.length_take] at h1
      have hlim : lim = 16777216 := by decide
      rw [hlim]; omega
    clear he e1 e2 hl hlen
    get_elem_tactic_extensible
    rw [comp_map (own := [7, 8, 9, 10]) enT (fun q => lowr q.1 a) (fun q => 1 + (nums S i).getD q.2 0) .int (S.take i).zipIdx (by get_elem_tactic_extensible) (fun q hq => by
      have k5 := at_ints (xs := nums S i) (j := q.2) (by rw [k1]; exact mem_take_idx hq)
      clear hq k1 k2 k3 k4
      get_elem_tactic_extensible
      rfl)]
    get_elem_tactic_extensible
    refine ⟨_, rfl, ?_⟩
    rw [List.length_append, hpl]
    show _ = [_, _, Vl.own ((nums S (i + 1)).map .int), _, _, _, _, _, _, _, _]
    rw [nums, List.map_append, ha]
    rfl)]
  clear e1 e2
  get_elem_tactic_extensible
theorem fewest_ordered_n3 {T : Nat → Option Fn} (h0 : T 0 = some F.is_integer) (h1 : T 1 = some F.is_note) (h2 : T 2 = some F.is_piece) (h3 : T 3 = some F.require_piece) (h5 : T 5 = some F.struck_again) (h6 : T 6 = some F.changes_of) (h19 : T 19 = some F.held_with) (h20 : T 20 = some F.strokes_with) (h92 : T 92 = some F.shortest_strokes) (h98 : T 98 = some F.finger_numbers) (h : T 99 = some F.fewest_ordered) (l : Nat) (p : List N3) (hp : Piece p) (M : Mem) : callAt T (l + 6) 99 [eP p] M = .ok (.dat (.int (ordered (short (changesOf p) p)))) M := by
  rw [callAt_def h rfl]
  unfold F.fewest_ordered
  have e1 := finger_numbers_n3 h0 h1 h2 h3 h5 h6 h19 h20 h92 h98 l p hp
  have hlen : (short (changesOf p) p).length = p.length := List.length_map _
  have e2 : opV .add (.dat (.tuple [.int 0])) (.dat (.tuple ((nums (short (changesOf p) p) p.length).map .int))) = some (.dat (.tuple (.int 0 :: (nums (short (changesOf p) p) p.length).map .int))) := op_addT (by
    have hlim : lim = 16777216 := by decide
    have := hp.len
    rw [List.length_map, nums_len, hlim]
    show 1 + p.length ≤ _
    omega)
  have e3 := max_tup (n := 0) (ns := nums (short (changesOf p) p) p.length)
  clear h h0 h1 h2 h3 h5 h6 h19 h20 h92 h98 hp
  unfold eP at *
  get_elem_tactic_extensible
  unfold ordered
  rw [hlen]
  rfl
theorem l_meets_n3 {T : Nat → Option Fn} (h : T 100 = some F.l_meets) (l : Nat) (x y : N3) (M : Mem) : callAt T (l + 1) 100 [.dat (eN x), .dat (eN y)] M = .ok (.dat (.bool (meets x y))) M := by
  rw [callAt_def h rfl]
  unfold F.l_meets
  clear h
  get_elem_tactic_extensible
  rfl
theorem l_number_n3 {T : Nat → Option Fn} (h100 : T 100 = some F.l_meets) (h : T 101 = some F.l_number) (S : List N3) (hS : Row S) (M : Mem) (i : Nat) : i < S.length → ∀ l, callAt T (l + i + 2) 101 [.dat (.tuple (S.map eN)), .dat (.int (i : Int))] M = .ok (.dat (.int (num S i))) M := by
  induction i using Nat.strongRecOn with
  | _ i ih =>
    intro hi l
    have hih : ∀ q : N3 × Nat, q ∈ cand S i → callAt T (l + i + 1) 101 [.dat (.tuple (S.map eN)), .dat (.int (q.2 : Int))] M = .ok (.dat (.int (num S q.2))) M := fun q hq => by
      have h1 := cand_lt hq
      have := ih q.2 h1 (by omega) (l + (i - q.2 - 1))
      rwa [show l + (i - q.2 - 1) + q.2 + 2 = l + i + 1 by omega] at this
    have hme := l_meets_n3 h100 (l + i)
    have hnum := law_num hS hi
    have hca := cand_all hS hi
    rw [callAt_def h rfl]
    unfold F.l_number
    have hat := at_notesD hi
    clear h h100 ih
    generalize hn : S.getD i n0 = n at *
    get_elem_tactic_extensible
    rw [fr_fold (M := M) enT S.zipIdx (fun best : Int => [.dat (.tuple (S.map eN)), .dat (.int (i : Int)), .dat (.int best), .und, .und]) (fun best q => if lowr q.1 n = true then (if num S q.2 > best then num S q.2 else best) else best) 0 (by clear hih hme hnum hca hat; get_elem_tactic_extensible) rfl (by
      intro best q hq
      have hl : (decide (q.1.k < n.k) && meets q.1 n) = lowr q.1 n := rfl
      by_cases hc : lowr q.1 n = true
      · have k1 := hih q (by rw [← hca]; exact List.mem_filter.mpr ⟨hq, hc⟩)
        clear hih hnum hca hq hn hi
        get_elem_tactic_extensible
        exact ⟨_, rfl, rfl⟩
      · have hc' : lowr q.1 n = false := by simpa using hc
        clear hih hnum hca hq hn hi hc
        get_elem_tactic_extensible
        exact ⟨_, rfl, rfl⟩)]
    clear hih hme hca hat
    get_elem_tactic_extensible
end Co
end

section
set_option Elab.async false
set_option linter.all false
set_option maxRecDepth 100000
set_option maxHeartbeats 1000000
namespace Co
open PySem
/-! pedals -/
structure Ped (P : List Int) : Prop where
  bd : ∀ t ∈ P, 0 ≤ t ∧ t ≤ 59
  up : P.Pairwise (· < ·)
theorem Ped.len {P : List Int} (h : Ped P) : P.length ≤ 60 := by
  have := inc_len P (-1) h.up (M := 59) (by decide) fun x hx => by have := h.bd x hx; omega
  omega
theorem Ped.filter {P : List Int} (h : Ped P) (q : Int → Bool) : Ped (P.filter q) := ⟨fun t ht => h.bd t (List.mem_filter.mp ht).1, h.up.filter q⟩
def beats : List Int := (List.range 60).map fun k : Nat => (0 + k : Int)
theorem beats_mem {t : Int} : t ∈ beats ↔ 0 ≤ t ∧ t ≤ 59 := by
  unfold beats
  rw [List.mem_map]
  constructor
  · rintro ⟨k, hk, rfl⟩
    rw [List.mem_range] at hk
    omega
  · intro h
    exact ⟨t.toNat, List.mem_range.mpr (by omega), by omega⟩
theorem beats_ped : Ped beats := ⟨fun t ht => beats_mem.mp ht, by
  unfold beats
  rw [List.pairwise_map]
  exact List.pairwise_lt_range.imp fun h => by omega⟩
def pedOk (P : List Int) : Bool := (P.all fun t => decide (0 ≤ t) && decide (t ≤ 59)) && (P.zip P.tail).all fun q => decide (q.1 < q.2)
theorem Ped.ok {P : List Int} (h : Ped P) : pedOk P = true := by
  unfold pedOk
  simp only [Bool.and_eq_true, List.all_eq_true, decide_eq_true_eq]
  exact ⟨h.bd, fun q hq => zip_tail_pw P h.up q hq⟩
/-! the end of a stroke's sound -/
def again (S : List N3) (s : N3) : List Int := (S.filter fun m => decide (m.k = s.k) && decide (m.b ≥ s.e)).map N3.b
def goes (P : List Int) (S : List N3) (s : N3) (t : Int) : Bool := decide (t < 60) && (decide (t ∈ P) && !decide (t ∈ again S s))
/-- how far a sound goes, d moments at most -/
def endF (P : List Int) (S : List N3) (s : N3) : Nat → Int → Int
  | 0, t => t
  | d + 1, t => if goes P S s t then endF P S s d (t + 1) else t
def endOf (P : List Int) (S : List N3) (s : N3) : Int := endF P S s (60 - s.e).toNat s.e
theorem endF_eq {P : List Int} {S : List N3} {s : N3} {e : Int} : ∀ (d : Nat) (t : Int), t ≤ e → e ≤ t + d → (∀ u, t ≤ u → u < e → goes P S s u = true) → goes P S s e = false → endF P S s d t = e
  | 0, t, h1, h2, _, _ => by
    show t = e
    omega
  | d + 1, t, h1, h2, h3, h4 => by
    unfold endF
    by_cases h : t = e
    · subst h; rw [h4]; rfl
    · rw [if_pos (h3 t (Int.le_refl _) (by omega))]
      exact endF_eq d (t + 1) (by omega) (by omega) (fun u h5 h6 => h3 u (by omega) h6) h4
def sound (P : List Int) (S : List N3) : List N3 := S.map fun s => ⟨s.k, s.b, endOf P S s⟩
theorem Piece.short {p : List N3} (h : Piece p) (ups : List Int) : Piece (short ups p) := by
  refine ⟨by unfold Co.short; rw [List.length_map]; exact h.len, fun n hn => ?_, ?_⟩
  · obtain ⟨m, hm, rfl⟩ := List.mem_map.mp hn
    have h1 := h.bd m hm
    have h2 := hold_bd ups m h1.2.2.1
    refine ⟨h1.1, h1.2.1, h2.1, ?_⟩
    show hold ups m ≤ 60
    omega
  · unfold Co.short
    rw [List.pairwise_map]
    refine List.Pairwise.imp_of_mem ?_ h.ord
    intro x y hx hy ⟨h1, h2⟩
    rw [lexN_iff] at h1
    have h3 := (h.bd x hx).2.2
    have h4 := hold_bd ups x h3.1
    rw [lexN_iff]
    refine ⟨?_, fun e => ?_⟩
    · show x.k < y.k ∨ (x.k = y.k ∧ (x.b < y.b ∨ (x.b = y.b ∧ hold ups x < hold ups y)))
      omega
    · have := h2 e
      show hold ups x ≤ y.b
      omega
theorem hold_free {ups : List Int} {n : N3} {t : Int} (h1 : hold ups n ≤ t) (h2 : t < n.e) (h0 : n.b ≤ t) : t ∉ ups := fun h => by
  have := maxI_le (ns := n.b :: ups.filter (inN n)) (x := t) (List.mem_cons_of_mem _ (List.mem_filter.mpr ⟨h, inN_iff.mpr ⟨h0, h2⟩⟩))
  unfold hold at h1
  omega
/-- the shortest strokes sound as the piece does -/
theorem sound_short {p : List N3} (h : Piece p) {P : List Int} (hP : ∀ t, t ∈ P ↔ (0 ≤ t ∧ t ≤ 59) ∧ t ∉ changesOf p) : sound P (short (changesOf p) p) = p := by
  unfold sound short
  rw [List.map_map]
  conv => rhs; rw [← List.map_id p]
  refine List.map_congr_left fun n hn => ?_
  have hb := h.bd n hn
  have hh := hold_bd (changesOf p) n hb.2.2.1
  have hk : ∀ m ∈ p, m.k = n.k → m.b > n.b → n.e ≤ m.b := fun m hm e hlt => by
    obtain ⟨i, hi, ei⟩ := List.mem_iff_getElem.mp hn
    obtain ⟨j, hj, ej⟩ := List.mem_iff_getElem.mp hm
    have hord := List.pairwise_iff_getElem.mp h.ord
    by_cases hij : i < j
    · have := (hord i j hi hj hij).2
      rw [ei, ej] at this
      exact this e.symm
    · by_cases hji : j < i
      · have := (hord j i hj hi hji).2
        rw [ei, ej] at this
        have h1 := this e
        have := (h.bd m hm).2.2
        omega
      · have : i = j := by omega
        subst this
        rw [ei] at ej
        subst ej
        omega
  have hag : ∀ t, t ∈ again (p.map (shN (changesOf p))) (shN (changesOf p) n) → n.e ≤ t := fun t ht => by
    obtain ⟨m', hm', rfl⟩ := List.mem_map.mp ht
    obtain ⟨h1, h2⟩ := List.mem_filter.mp hm'
    obtain ⟨m, hm, rfl⟩ := List.mem_map.mp h1
    simp only [Bool.and_eq_true, decide_eq_true_eq] at h2
    have h3 : m.k = n.k := h2.1
    have h4 : m.b ≥ hold (changesOf p) n := h2.2
    exact hk m hm h3 (by omega)
  have hend : endOf P (p.map (shN (changesOf p))) (shN (changesOf p) n) = n.e := by
    unfold endOf
    show endF P _ _ (60 - hold (changesOf p) n).toNat (hold (changesOf p) n) = n.e
    refine endF_eq _ _ hh.2 (by omega) (fun u h1 h2 => ?_) ?_
    · unfold goes
      simp only [Bool.and_eq_true, decide_eq_true_eq, Bool.not_eq_true', decide_eq_false_iff_not]
      refine ⟨by omega, (hP u).mpr ⟨by omega, hold_free h1 h2 (by omega)⟩, fun hu => ?_⟩
      have := hag u hu
      omega
    · unfold goes
      by_cases h60 : n.e < 60
      · by_cases hc : n.e ∈ changesOf p
        · have : n.e ∉ P := fun hx => ((hP _).mp hx).2 hc
          simp [this]
        · have : n.e ∈ again (p.map (shN (changesOf p))) (shN (changesOf p) n) := by
            rw [mem_changes] at hc
            have : ∃ m ∈ p, m.b = n.e ∧ m.k = n.k := by
              by_cases hx : ∃ m ∈ p, m.b = n.e ∧ m.k = n.k
              · exact hx
              · exact absurd ⟨h60, n, hn, rfl, hx⟩ hc
            obtain ⟨m, hm, h1, h2⟩ := this
            refine List.mem_map.mpr ⟨shN (changesOf p) m, List.mem_filter.mpr ⟨List.mem_map.mpr ⟨m, hm, rfl⟩, ?_⟩, h1⟩
            simp only [Bool.and_eq_true, decide_eq_true_eq]
            refine ⟨h2, ?_⟩
            show m.b ≥ hold (changesOf p) n
            omega
          simp [this]
      · simp [h60]
  show (⟨n.k, n.b, endOf P (p.map (shN (changesOf p))) (shN (changesOf p) n)⟩ : N3) = n
  rw [hend]
example : True := by
  have := @exec.eq_1
  have := @exec.eq_2
  have := @exec.eq_3
  have := @exec.eq_4
  have := @exec.eq_5
  have := @exec.eq_6
  have := @exec.eq_7
  have := @exec.eq_8
  have := @exec.eq_9
  have := @exec.eq_12
  have := @exec.eq_13
  have := @exec.eq_14
  have := @exec.eq_15
  have := @exec.eq_16
  have := @exec.eq_17
  have := @exec.eq_18
  have := @ev.eq_1
  have := @ev.eq_2
  have := @ev.eq_3
  have := @ev.eq_4
  have := @ev.eq_5
  have := @ev.eq_6
  have := @ev.eq_7
  have := @ev.eq_8
  have := @ev.eq_9
  have := @ev.eq_10
  have := @ev.eq_11
  have := @ev.eq_12
  have := @ev.eq_13
  have := @ev.eq_14
  have := @ev.eq_15
  have := @ev.eq_16
  have := @ev.eq_17
  have := @ev.eq_18
  have := @ev.eq_19
  have := @ev.eq_20
  have := @ev.eq_21
  have := @ev.eq_22
  have := @ev.eq_23
  have := @ev.eq_24
  trivial
local macro_rules | `(tactic| get_elem_tactic_extensible) => `(tactic| simp only [*, execs, exec.eq_1, exec.eq_2, exec.eq_3, exec.eq_4, exec.eq_5, exec.eq_6, exec.eq_7, exec.eq_8, exec.eq_9, exec.eq_12, exec.eq_13, exec.eq_14, exec.eq_15, exec.eq_16, exec.eq_17, exec.eq_18, ev.eq_1, ev.eq_2, ev.eq_3, ev.eq_4, ev.eq_5, ev.eq_6, ev.eq_7, ev.eq_8, ev.eq_9, ev.eq_10, ev.eq_11, ev.eq_12, ev.eq_13, ev.eq_14, ev.eq_15, ev.eq_16, ev.eq_17, ev.eq_18, ev.eq_19, ev.eq_20, ev.eq_21, ev.eq_22, ev.eq_23, ev.eq_24, evs, evI, evIv, evp, view, bor, okv, okv1, asg_vd, asg_vn, asg_vm, asg_vc, asg_vs, asg_on, asg_om, asg_cn, asgs_0, asgs_1, Res.bind_ok, Res.lift_some, nx_ok', ifB_b, bind_ite, ite_and, ite_or, ite_notand, List.isEmpty_nil, List.isEmpty_cons, Bool.true_or, Bool.false_or, Bool.or_true, Bool.or_false, Bool.true_and, Bool.and_true, Bool.not_true, Bool.not_false, if_true, Bool.false_eq_true, if_false, List.getD_eq_getElem?_getD, List.getElem?_cons_zero, List.getElem?_cons_succ, Option.getD_some, List.length_cons, List.length_nil, List.length_map, Nat.sub_self, Nat.reduceAdd, Nat.reduceSub, List.replicate, List.cons_append, List.nil_append, List.append_nil, List.map_cons, List.map_nil, fin1, fin_dat, fin_nw, fin_nwd, fin_next, fin_ite, take_self, bind_n3, bind_pr, bind_ePr, bind_nm, List.set_cons_zero, List.set_cons_succ, wipeD, gets, Vl.get, Vl.nrm, Option.map_some, notV_b, negV_i, bi_isInt, bi_isBool, bi_isTuple, ty_int_int, ty_int_bool, ty_bool_int, ty_bool_bool, ty_tup_tup, ty_n3, min_ii, max_ii, int_b, len_tup, len_list, len_nw, len_n3, all_nw, any_nw, max_nw, tup_nw, tup_list, list_tup, sorted_n3, sorted_n3L, sorted_ints, cmp_lt, cmp_le, cmp_gt, cmp_ge, cmp_eq, cmp_ne, cmp_memL, cmp_memT, cmp_nmemL, cmp_nmemT, cmp_nmemN, lt_n3, op_add, op_sub, idx_n0, idx_n1, idx_n2, idx_tup, idx_list, idx_nw, at_2_0, at_2_1, seq_tup, seq_list, seq_nw, fold_n3, zip_tt, zip_tl, zip_ll, zip_ln, slc_tail, slc_tailL, ends_t, ends_f, cast3, cast2, decide_true, decide_false, idx_scr, idx_cell, len_scr, take_set, at_3_0, at_3_1, at_3_2, ix_3_0, ix_3_1, List.all_cons, List.all_nil, noL, noLs, noLkv, Nat.reduceLT, mkD_f, dict_d, dget_encF, dput_encF, op_addN, max_ns, cmp_ne_nil, eq_self, eq_self, enu_0, bind_en4, bind_en2, op_addNL, noLs_ints, eq_self])
theorem is_pedal_i {T : Nat → Option Fn} (h0 : T 0 = some F.is_integer) (h : T 10 = some F.is_pedal) (l : Nat) (P : List Int) (M : Mem) : callAt T (l + 2) 10 [.dat (.tuple (P.map .int))] M = .ok (.dat (.bool (pedOk P))) M := by
  rw [callAt_def h rfl]
  unfold F.is_pedal
  have e1 : ∀ i M, callAt T (l + 1) 0 [.dat (.int i), .dat (.int 0), .dat (.int (60 - 1))] M = .ok (.dat (.bool (decide (0 ≤ i) && decide (i ≤ 59)))) M := fun i M => is_integer_int h0 l i 0 59 M
  clear h h0
  get_elem_tactic_extensible
  rw [comp_all (own := [3]) .int (fun t => decide (0 ≤ t) && decide (t ≤ 59)) .bool P (by clear e1; get_elem_tactic_extensible) (fun a _ => by get_elem_tactic_extensible)]
  get_elem_tactic_extensible
  rw [comp_all (own := [1, 2]) (ePr .int .int) (fun q => decide (q.1 < q.2)) .bool (P.zip P.tail) (by get_elem_tactic_extensible) (fun a _ => by get_elem_tactic_extensible)]
  get_elem_tactic_extensible
  unfold pedOk
  simp only [List.all_map]
  show _ = Res.ok (Vl.dat (.bool (P.all (id ∘ fun t => decide (0 ≤ t) && decide (t ≤ 59)) && (P.zip P.tail).all (id ∘ fun q => decide (q.1 < q.2))))) M
  cases P.all (id ∘ fun t => decide (0 ≤ t) && decide (t ≤ 59)) <;> rfl
theorem require_pedal_i {T : Nat → Option Fn} (h0 : T 0 = some F.is_integer) (h10 : T 10 = some F.is_pedal) (h : T 11 = some F.require_pedal) (l : Nat) (P : List Int) (hP : Ped P) (M : Mem) : callAt T (l + 3) 11 [.dat (.tuple (P.map .int))] M = .ok (.dat .none) M := by
  rw [callAt_def h rfl]
  unfold F.require_pedal
  have e1 := is_pedal_i h0 h10 l P
  rw [hP.ok] at e1
  clear h h0 h10 hP
  get_elem_tactic_extensible
theorem require_strokes_n3 {T : Nat → Option Fn} (h0 : T 0 = some F.is_integer) (h1 : T 1 = some F.is_note) (h2 : T 2 = some F.is_piece) (h : T 12 = some F.require_strokes) (l : Nat) (p : List N3) (hp : pieceOk p = true) (M : Mem) : callAt T (l + 4) 12 [eP p] M = .ok (.dat .none) M := by
  rw [callAt_def h rfl]
  unfold F.require_strokes
  have e1 := is_piece_n3 h0 h1 h2 l p
  rw [hp] at e1
  unfold eP at e1 ⊢
  clear h h0 h1 h2
  get_elem_tactic_extensible
theorem end_loop {cf : Nat → List Vl → Mem → Res Vl} {M : Mem} {c : Ex} {body : Stms} (P : List Int) (S : List N3) (s : N3) (st : Int → Rho)
    (hc : ∀ t, ev cf c (st t) M = .ok (.dat (.bool (goes P S s t))) M) (hb : ∀ t, execs cf body (st t) M = .ok (.next (st (t + 1))) M) : ∀ (d fuel : Nat) (t : Int), d < fuel → 60 ≤ t + d → wloop [] (fun ρ M => ev cf c (view ρ []) M) (fun ρ M => execs cf body ρ M) fuel (st t) M = .ok (.next (st (endF P S s d t))) M
  | d, 0, t, h, _ => absurd h (Nat.not_lt_zero _)
  | 0, fuel + 1, t, h, h2 => by
    unfold wloop
    show (ev cf c (st t) M).bind _ = _
    rw [hc t]
    have : goes P S s t = false := by
      unfold goes
      rw [decide_eq_false (by omega), Bool.false_and]
    rw [Res.bind_ok, ifB_b, this]
    rfl
  | d + 1, fuel + 1, t, h, h2 => by
    unfold wloop
    show (ev cf c (st t) M).bind _ = _
    rw [hc t, Res.bind_ok, ifB_b]
    unfold endF
    by_cases g : goes P S s t = true
    · rw [if_pos g, if_pos g, hb t, Res.bind_ok]
      exact end_loop P S s st hc hb d fuel (t + 1) (by omega) (by omega)
    · rw [if_neg g, if_neg g]
theorem end_of_n3 {T : Nat → Option Fn} (h : T 13 = some F.end_of) (l : Nat) (P : List Int) (S : List N3) (s : N3) (hs : 0 ≤ s.e) (M : Mem) : callAt T (l + 1) 13 [.dat (.tuple (P.map .int)), .dat (.tuple (S.map eN)), .dat (eN s)] M = .ok (.dat (.int (endOf P S s))) M := by
  rw [callAt_def h rfl]
  unfold F.end_of
  clear h
  get_elem_tactic_extensible
  rw [comp_map (own := [5, 6, 7]) eN (fun m => decide (m.k = s.k) && decide (m.b ≥ s.e)) N3.b .int S (by get_elem_tactic_extensible) (fun a _ => by get_elem_tactic_extensible)]
  get_elem_tactic_extensible
  have hw : exec (callAt T l) (.wh [] [] (.and (.cmp .lt (.var 4) (.cst (.int 60))) (.and (.cmp .mem (.var 4) (.var 0)) (.cmp .nmem (.var 4) (.var 3)))) (.cons (.set [] .val 4 (.op .add (.var 4) (.cst (.int 1)))) .nil)) [.dat (.tuple (P.map .int)), .dat (.tuple (S.map eN)), .dat (eN s), .dat (.list ((again S s).map .int)), .dat (.int s.e), .und, .und, .und] M = .ok (.next [.dat (.tuple (P.map .int)), .dat (.tuple (S.map eN)), .dat (eN s), .dat (.list ((again S s).map .int)), .dat (.int (endOf P S s)), .und, .und, .und]) M := by
    rw [exec_wh]
    exact end_loop P S s (fun t => [.dat (.tuple (P.map .int)), .dat (.tuple (S.map eN)), .dat (eN s), .dat (.list ((again S s).map .int)), .dat (.int t), .und, .und, .und]) (fun t => by
      get_elem_tactic_extensible
      rfl) (fun t => by get_elem_tactic_extensible) (60 - s.e).toNat FUEL s.e (by unfold FUEL; omega) (by omega)
  unfold again at hw
  rw [hw]
  get_elem_tactic_extensible
theorem sound_of_n3 {T : Nat → Option Fn} (h13 : T 13 = some F.end_of) (h : T 14 = some F.sound_of) (l : Nat) (P : List Int) (S : List N3) (hS : ∀ s ∈ S, 0 ≤ s.e) (M : Mem) : callAt T (l + 2) 14 [.dat (.tuple (P.map .int)), .dat (.tuple (S.map eN))] M = .ok (.dat (.tuple ((sound P S).map eN))) M := by
  rw [callAt_def h rfl]
  unfold F.sound_of
  have e1 := fun s hs => end_of_n3 h13 l P S s hs M
  clear h h13
  get_elem_tactic_extensible
  rw [comp_all (own := [2]) eN (fun s => (⟨s.k, s.b, endOf P S s⟩ : N3)) eN S (by clear e1; get_elem_tactic_extensible) (fun s hs => by
    have e2 := e1 s (hS s hs)
    clear e1
    get_elem_tactic_extensible)]
  clear e1
  get_elem_tactic_extensible
  rfl
theorem plays_n3 {T : Nat → Option Fn} (h0 : T 0 = some F.is_integer) (h1 : T 1 = some F.is_note) (h2 : T 2 = some F.is_piece) (h3 : T 3 = some F.require_piece) (h10 : T 10 = some F.is_pedal) (h11 : T 11 = some F.require_pedal) (h12 : T 12 = some F.require_strokes) (h13 : T 13 = some F.end_of) (h14 : T 14 = some F.sound_of) (h : T 50 = some F.plays) (l : Nat) (p : List N3) (hp : Piece p) (P : List Int) (hP : Ped P) (S : List N3) (hS : Piece S) (M : Mem) : callAt T (l + 5) 50 [eP p, .dat (.tuple (P.map .int)), eP S] M = .ok (.dat (.bool (decide (sound P S = p)))) M := by
  rw [callAt_def h rfl]
  unfold F.plays
  have e1 := require_piece_n3 h0 h1 h2 h3 l p hp.ok
  have e2 : ∀ M, callAt T (l + 4) 11 [.dat (.tuple (P.map .int))] M = .ok (.dat .none) M := require_pedal_i h0 h10 h11 (l + 1) P hP
  have e3 := require_strokes_n3 h0 h1 h2 h12 l S hS.ok
  have e4 : ∀ M, callAt T (l + 4) 14 [.dat (.tuple (P.map .int)), .dat (.tuple (S.map eN))] M = .ok (.dat (.tuple ((sound P S).map eN))) M := sound_of_n3 h13 h14 (l + 2) P S fun s hs => by have := (hS.bd s hs).2; omega
  have e5 : cmpV .eq (.dat (.tuple ((sound P S).map eN))) (.dat (.tuple (p.map eN))) = _ := cmp_dd (En.n3.tuple.eq (by decide) (sound P S) p)
  clear h h0 h1 h2 h3 h10 h11 h12 h13 h14 hp hP hS
  unfold eP at *
  get_elem_tactic_extensible
theorem fingers_of_n3 {T : Nat → Option Fn} (h0 : T 0 = some F.is_integer) (h1 : T 1 = some F.is_note) (h2 : T 2 = some F.is_piece) (h12 : T 12 = some F.require_strokes) (h15 : T 15 = some F.most_at_once) (h : T 17 = some F.fingers_of) (l : Nat) (p : List N3) (hp : Piece p) (M : Mem) : callAt T (l + 5) 17 [eP p] M = .ok (.dat (.int (mostOf p))) M := by
  rw [callAt_def h rfl]
  unfold F.fingers_of
  have e1 := require_strokes_n3 h0 h1 h2 h12 l p hp.ok
  have e2 := most_at_once_n3 h15 (l + 3) p (by have := hp.len; omega)
  clear h h0 h1 h2 h12 h15 hp
  unfold eP at *
  get_elem_tactic_extensible
theorem held_until_n3 {T : Nat → Option Fn} (h0 : T 0 = some F.is_integer) (h1 : T 1 = some F.is_note) (h2 : T 2 = some F.is_piece) (h3 : T 3 = some F.require_piece) (h5 : T 5 = some F.struck_again) (h6 : T 6 = some F.changes_of) (h19 : T 19 = some F.held_with) (h : T 22 = some F.held_until) (l : Nat) (p : List N3) (hp : Piece p) (M : Mem) : callAt T (l + 5) 22 [eP p] M = .ok (.dat (.tuple ((p.map (hold (changesOf p))).map .int))) M := by
  rw [callAt_def h rfl]
  unfold F.held_until
  have e1 := require_piece_n3 h0 h1 h2 h3 l p hp.ok
  have e2 := changes_of_n3 h5 h6 (l + 2) p hp.len
  have hl := changesOf_len p
  have e3 := held_with_n3 h19 (l + 3) p _ _ (SeqI.list (changesOf p)) (by have := hp.len; omega)
  clear h h0 h1 h2 h3 h5 h6 h19 hp hl
  unfold eP at *
  get_elem_tactic_extensible
end Co
end

section
set_option Elab.async false
set_option linter.all false
set_option maxRecDepth 100000
set_option maxHeartbeats 1000000
namespace Co
open PySem
theorem Ok_cLoopP {α : Type} {body : Dt → Mem → Res (Option Dt)} (enc : α → Dt) (all : List α) (J : List α → List Dt → Mem → Prop) (hs : ∀ pre post a acc M, all = pre ++ a :: post → J pre acc M → Ok (body (enc a) M) fun o M' => J (pre ++ [a]) (acc ++ o.toList) M') : ∀ (as pre : List α) (acc : List Dt) (M : Mem), all = pre ++ as → J pre acc M → Ok (cLoop body (as.map enc) M) fun r M' => J all (acc ++ r) M'
  | [], pre, acc, M, e, h0 => by
    rw [List.append_nil] at e; subst e
    rw [List.map_nil]; unfold cLoop; rw [Ok_ok, List.append_nil]; exact h0
  | a :: as, pre, acc, M, e, h0 => by
    rw [List.map_cons]
    unfold cLoop
    rw [Ok_bind]
    refine (hs pre as a acc M e h0).imp fun o M1 h1 => ?_
    rw [Ok_bind]
    refine (Ok_cLoopP enc all J hs as (pre ++ [a]) (acc ++ o.toList) M1 (by rw [e, List.append_assoc]; rfl) h1).imp fun r M2 h2 => ?_
    rw [Ok_ok]
    cases o with
    | none => simpa using h2
    | some d => simpa using h2
theorem comp_ex {cf : Nat → List Vl → Mem → Res Vl} {ρ : Rho} {M M0 : Mem} {α : Type} {own : List Nat} {tg : Tg} {it : It} {c e : Ex} (enc : α → Dt) (as : List α) (hI : evI cf it ρ M = .ok (as.map enc) M0) (J : List α → List Dt → Mem → Prop) (h0 : J [] [] M0)
    (hs : ∀ pre post a acc M, as = pre ++ a :: post → J pre acc M → Ok (match bindT tg (enc a) (wipeD ρ own) with
      | none => Res.bad
      | some ρ' => (ev cf c ρ' M).bind fun k M => ifB k ((ev cf e ρ' M).bind fun v M => .lift (v.get.map some) M) (.ok none M)) fun o M' => J (pre ++ [a]) (acc ++ o.toList) M') :
    ∃ r M', ev cf (.comp own tg it c e) ρ M = .ok (.nw r) M' ∧ J as r M' := by
  obtain ⟨r, M', e, h⟩ := (Ok_cLoopP (body := fun x M => match bindT tg x (wipeD ρ own) with
      | none => Res.bad
      | some ρ' => (ev cf c ρ' M).bind fun k M => ifB k ((ev cf e ρ' M).bind fun v M => .lift (v.get.map some) M) (.ok none M)) enc as J hs as [] [] M0 rfl h0).get
  refine ⟨r, M', ?_, h⟩
  simp only [ev]
  rw [hI, Res.bind_ok]
  exact (congrArg (fun z => (nx z).bind fun r M => Res.ok (Vl.nw r) M) e).trans rfl
theorem filt_mono {α : Type} {q r : α → Bool} : ∀ {p : List α}, (∀ n ∈ p, q n = true → r n = true) → (p.filter q).length ≤ (p.filter r).length
  | [], _ => Nat.le_refl _
  | x :: xs, h => by
    have := filt_mono (p := xs) fun n hn => h n (List.mem_cons_of_mem _ hn)
    rw [List.filter_cons, List.filter_cons]
    by_cases e : q x = true
    · rw [if_pos e, if_pos (h x List.mem_cons_self e), List.length_cons, List.length_cons]; omega
    · rw [if_neg e]
      by_cases g : r x = true
      · rw [if_pos g, List.length_cons]; omega
      · rw [if_neg g]; exact this
/-- the piece with other ends -/
def restr (e : N3 → Int) (p : List N3) : List N3 := p.map fun n => ⟨n.k, n.b, e n⟩
theorem short_restr (ups : List Int) (p : List N3) : short ups p = restr (hold ups) p := rfl
theorem restr_self (p : List N3) : restr N3.e p = p := by
  unfold restr
  conv => rhs; rw [← List.map_id p]
  rfl
theorem cnt_restr (e : N3 → Int) (p : List N3) (t : Int) : cnt (restr e p) t = ((p.filter fun n => decide (n.b ≤ t) && decide (t < e n)).length : Int) := by
  unfold cnt restr
  rw [List.filter_map, List.length_map]; rfl
theorem cnt_le_most (S : List N3) (t : Int) : cnt S t ≤ mostOf S := by
  by_cases e : S.filter (snd t) = []
  · have : cnt S t = 0 := by unfold cnt; rw [e]; rfl
    rw [this]
    exact maxI_le List.mem_cons_self
  · obtain ⟨z, hz, hm⟩ := exists_max N3.b _ e
    obtain ⟨z1, z2⟩ := List.mem_filter.mp hz
    refine Int.le_trans (cnt_mono (u := z.b) fun n hn g => ?_) (maxI_le (List.mem_cons_of_mem _ (List.mem_map.mpr ⟨z, z1, rfl⟩)))
    have := hm n (List.mem_filter.mpr ⟨hn, g⟩)
    rw [snd_iff] at *
    omega
theorem most_restr {e g : N3 → Int} {p : List N3} (h : ∀ n ∈ p, e n ≤ g n) : mostOf (restr e p) ≤ mostOf (restr g p) := by
  show maxI (0 :: (restr e p).map fun n => cnt (restr e p) n.b) ≤ _
  rcases List.mem_cons.mp (maxI_mem (List.cons_ne_nil 0 ((restr e p).map fun n => cnt (restr e p) n.b))) with k | k
  · rw [k]; exact maxI_le List.mem_cons_self
  · obtain ⟨n, _, k⟩ := List.mem_map.mp k
    rw [← k]
    refine Int.le_trans ?_ (cnt_le_most (restr g p) n.b)
    rw [cnt_restr, cnt_restr]
    have := filt_mono (p := p) (q := fun m => decide (m.b ≤ n.b) && decide (n.b < e m)) (r := fun m => decide (m.b ≤ n.b) && decide (n.b < g m)) fun m hm hq => by
      have := h m hm
      simp only [Bool.and_eq_true, decide_eq_true_eq] at hq ⊢
      omega
    omega
theorem hold_mono {C U : List Int} (h : ∀ t ∈ C, t ∈ U) (n : N3) : hold C n ≤ hold U n := by
  unfold hold
  have : maxI (n.b :: C.filter (inN n)) ≤ maxI (n.b :: U.filter (inN n)) := by
    rcases List.mem_cons.mp (maxI_mem (List.cons_ne_nil n.b (C.filter (inN n)))) with k | k
    · rw [k]; exact maxI_le List.mem_cons_self
    · obtain ⟨k1, k2⟩ := List.mem_filter.mp k
      exact maxI_le (List.mem_cons_of_mem _ (List.mem_filter.mpr ⟨h _ k1, k2⟩))
  omega
theorem few_le_most {p : List N3} (h : Bds p) (ups : List Int) : mostOf (short ups p) ≤ mostOf p := by
  have := most_restr (e := hold ups) (g := N3.e) (p := p) fun n hn => (hold_bd ups n (h n hn).2.1).2
  rwa [restr_self] at this
/-- the beats that are not in a pedal -/
def offP (P : List Int) : List Int := ((List.range 60).filter fun k : Nat => !decide ((0 + (k : Int)) ∈ P)).map fun k : Nat => (0 + k : Int)
theorem offP_mem {P : List Int} {t : Int} : t ∈ offP P ↔ (0 ≤ t ∧ t ≤ 59) ∧ t ∉ P := by
  unfold offP
  rw [List.mem_map]
  constructor
  · rintro ⟨k, hk, rfl⟩
    obtain ⟨h1, h2⟩ := List.mem_filter.mp hk
    rw [List.mem_range] at h1
    simp only [Bool.not_eq_true', decide_eq_false_iff_not] at h2
    exact ⟨by omega, h2⟩
  · rintro ⟨h1, h2⟩
    have e : (0 + (t.toNat : Int)) = t := by omega
    refine ⟨t.toNat, List.mem_filter.mpr ⟨List.mem_range.mpr (by omega), ?_⟩, e⟩
    rw [e]
    simpa using h2
theorem offP_ped (P : List Int) : Ped (offP P) := ⟨fun t ht => (offP_mem.mp ht).1, by
  unfold offP
  rw [List.pairwise_map]
  exact (List.pairwise_lt_range.filter _).imp fun h => by omega⟩
theorem is_tup_none {xs : List Dt} : cmpV .is_ (.dat (.tuple xs)) (.dat .none) = some (.dat (.bool false)) := rfl
theorem is_int_none {i : Int} : cmpV .is_ (.dat (.int i)) (.dat .none) = some (.dat (.bool false)) := rfl
theorem changes_bd {p : List N3} (h : Bds p) {t : Int} (ht : t ∈ changesOf p) : 1 ≤ t ∧ t ≤ 59 := by
  obtain ⟨h1, n, hn, h2, _⟩ := mem_changes.mp ht
  have := h n hn
  omega
theorem begun_le {p : List N3} (h : Bds p) (ups : List Int) (t : Int) : ((p.filter fun n => decide (n.b = t)).length : Int) ≤ mostOf (short ups p) := by
  refine Int.le_trans ?_ (cnt_le_most _ t)
  rw [short_restr, cnt_restr]
  have := filt_mono (p := p) (q := fun n => decide (n.b = t)) (r := fun n => decide (n.b ≤ t) && decide (t < hold ups n)) fun n hn hq => by
    have := hold_bd ups n (h n hn).2.1
    simp only [Bool.and_eq_true, decide_eq_true_eq] at hq ⊢
    omega
  omega
theorem over_le {p : List N3} (ups : List Int) (t : Int) : ((p.filter fun n => (decide (n.b ≤ t) && decide (t < n.e)) && decide (t ∈ ups)).length : Int) ≤ mostOf (short ups p) := by
  refine Int.le_trans ?_ (cnt_le_most _ t)
  rw [short_restr, cnt_restr]
  have := filt_mono (p := p) (q := fun n => (decide (n.b ≤ t) && decide (t < n.e)) && decide (t ∈ ups)) (r := fun n => decide (n.b ≤ t) && decide (t < hold ups n)) fun n hn hq => by
    simp only [Bool.and_eq_true, decide_eq_true_eq] at hq ⊢
    obtain ⟨⟨h1, h2⟩, h3⟩ := hq
    have := maxI_le (ns := n.b :: ups.filter (inN n)) (x := t) (List.mem_cons_of_mem _ (List.mem_filter.mpr ⟨h3, inN_iff.mpr ⟨h1, h2⟩⟩))
    unfold hold
    omega
  omega
example : True := by
  have := @exec.eq_1
  have := @exec.eq_2
  have := @exec.eq_3
  have := @exec.eq_4
  have := @exec.eq_5
  have := @exec.eq_6
  have := @exec.eq_7
  have := @exec.eq_8
  have := @exec.eq_9
  have := @exec.eq_12
  have := @exec.eq_13
  have := @exec.eq_14
  have := @exec.eq_15
  have := @exec.eq_16
  have := @exec.eq_17
  have := @exec.eq_18
  have := @ev.eq_1
  have := @ev.eq_2
  have := @ev.eq_3
  have := @ev.eq_4
  have := @ev.eq_5
  have := @ev.eq_6
  have := @ev.eq_7
  have := @ev.eq_8
  have := @ev.eq_9
  have := @ev.eq_10
  have := @ev.eq_11
  have := @ev.eq_12
  have := @ev.eq_13
  have := @ev.eq_14
  have := @ev.eq_15
  have := @ev.eq_16
  have := @ev.eq_17
  have := @ev.eq_18
  have := @ev.eq_19
  have := @ev.eq_20
  have := @ev.eq_21
  have := @ev.eq_22
  have := @ev.eq_23
  have := @ev.eq_24
  trivial
local macro_rules | `(tactic| get_elem_tactic_extensible) => `(tactic| simp only [*, execs, exec.eq_1, exec.eq_2, exec.eq_3, exec.eq_4, exec.eq_5, exec.eq_6, exec.eq_7, exec.eq_8, exec.eq_9, exec.eq_12, exec.eq_13, exec.eq_14, exec.eq_15, exec.eq_16, exec.eq_17, exec.eq_18, ev.eq_1, ev.eq_2, ev.eq_3, ev.eq_4, ev.eq_5, ev.eq_6, ev.eq_7, ev.eq_8, ev.eq_9, ev.eq_10, ev.eq_11, ev.eq_12, ev.eq_13, ev.eq_14, ev.eq_15, ev.eq_16, ev.eq_17, ev.eq_18, ev.eq_19, ev.eq_20, ev.eq_21, ev.eq_22, ev.eq_23, ev.eq_24, evs, evI, evIv, evp, view, bor, okv, okv1, asg_vd, asg_vn, asg_vm, asg_vc, asg_vs, asg_on, asg_om, asg_cn, asgs_0, asgs_1, Res.bind_ok, Res.lift_some, nx_ok', ifB_b, bind_ite, ite_and, ite_or, ite_notand, List.isEmpty_nil, List.isEmpty_cons, Bool.true_or, Bool.false_or, Bool.or_true, Bool.or_false, Bool.true_and, Bool.and_true, Bool.not_true, Bool.not_false, if_true, Bool.false_eq_true, if_false, List.getD_eq_getElem?_getD, List.getElem?_cons_zero, List.getElem?_cons_succ, Option.getD_some, List.length_cons, List.length_nil, List.length_map, Nat.sub_self, Nat.reduceAdd, Nat.reduceSub, List.replicate, List.cons_append, List.nil_append, List.append_nil, List.map_cons, List.map_nil, fin1, fin_dat, fin_nw, fin_nwd, fin_next, fin_ite, take_self, bind_n3, bind_pr, bind_ePr, bind_nm, List.set_cons_zero, List.set_cons_succ, wipeD, gets, Vl.get, Vl.nrm, Option.map_some, notV_b, negV_i, bi_isInt, bi_isBool, bi_isTuple, ty_int_int, ty_int_bool, ty_bool_int, ty_bool_bool, ty_tup_tup, ty_n3, min_ii, max_ii, int_b, len_tup, len_list, len_nw, len_n3, all_nw, any_nw, max_nw, tup_nw, tup_list, list_tup, sorted_n3, sorted_n3L, sorted_ints, cmp_lt, cmp_le, cmp_gt, cmp_ge, cmp_eq, cmp_ne, cmp_memL, cmp_memT, cmp_nmemL, cmp_nmemT, cmp_nmemN, lt_n3, op_add, op_sub, idx_n0, idx_n1, idx_n2, idx_tup, idx_list, idx_nw, at_2_0, at_2_1, seq_tup, seq_list, seq_nw, fold_n3, zip_tt, zip_tl, zip_ll, zip_ln, slc_tail, slc_tailL, ends_t, ends_f, cast3, cast2, decide_true, decide_false, idx_scr, idx_cell, len_scr, take_set, at_3_0, at_3_1, at_3_2, ix_3_0, ix_3_1, List.all_cons, List.all_nil, noL, noLs, noLkv, Nat.reduceLT, mkD_f, dict_d, dget_encF, dput_encF, op_addN, max_ns, cmp_ne_nil, eq_self, eq_self, enu_0, bind_en4, bind_en2, op_addNL, noLs_ints, eq_self, is_tup_none, is_int_none])
theorem l_pedal_ok {T : Nat → Option Fn} (h34 : T 34 = some F.l_pick) (h : T 41 = some F.l_pedal) (l n : Nat) (M : Mem) (hs : SrcAt M n) (last : Int) (hl : 0 ≤ last ∧ last ≤ 60) :
    ∃ P M', callAt T (l + 2) 41 [.cell n, .dat (.int last)] M = .ok (.dat (.tuple (P.map .int))) M' ∧ Ped P ∧ (∀ t ∈ P, t < last) ∧ SrcAt M' n ∧ Upd n M M' := by
  obtain ⟨d, M1, e1, b1, s1, u1⟩ := pick h34 l n M hs 4 (by decide)
  have hp := pick h34 l n
  have hr := rng0 (j := last) ⟨hl.1, by omega⟩
  obtain ⟨r, M2, e2, P, rfl, hP1, hP2, s2, u2⟩ := comp_ex (cf := callAt T (l + 1)) (ρ := [.cell n, .dat (.int last), .dat (.int (1 + d)), .und]) (M := M1) (M0 := M1) (own := [3]) (tg := .nm 3) (it := .rng1 (.var 1)) (c := .cmp .ge (.call 34 (.cons (.var 0) (.cons (.cst (.int 5)) .nil))) (.var 2)) (e := .var 3) (fun k : Nat => PyData.int (0 + k)) (List.range last.toNat) (by clear e1 hp; get_elem_tactic_extensible) (fun pre acc M' => ∃ P : List Int, acc = P.map .int ∧ P.Pairwise (· < ·) ∧ (∀ t ∈ P, ∃ k ∈ pre, t = 0 + (k : Int)) ∧ SrcAt M' n ∧ Upd n M M') ⟨[], rfl, List.Pairwise.nil, fun t h => (by cases h), s1, u1⟩ (by
    intro pre post a acc M' he ⟨P, hacc, g1, g2, s2, u2⟩
    obtain ⟨d2, M3, e3, b3, s3, u3⟩ := hp M' s2 5 (by decide)
    have hlt : ∀ k ∈ pre, k < a := fun k hk => by
      have := List.pairwise_lt_range (n := last.toNat)
      rw [he, List.pairwise_append] at this
      exact this.2.2 k hk a List.mem_cons_self
    subst hacc
    clear e1 hp hr he
    by_cases hc : d2 ≥ 1 + d
    · have hc' := decide_eq_true hc
      clear hc
      get_elem_tactic_extensible
      refine ⟨P ++ [0 + (a : Int)], by rw [List.map_append]; rfl, ?_, fun t ht => ?_, s3, u2.trans u3⟩
      · rw [List.pairwise_append]
        refine ⟨g1, List.pairwise_singleton _ _, fun x hx y hy => ?_⟩
        rw [List.mem_singleton] at hy; subst hy
        obtain ⟨k, hk, rfl⟩ := g2 x hx
        have := hlt k hk
        omega
      · rcases List.mem_append.mp ht with ht | ht
        · obtain ⟨k, hk, e⟩ := g2 t ht
          exact ⟨k, List.mem_append_left _ hk, e⟩
        · rw [List.mem_singleton] at ht
          exact ⟨a, List.mem_append_right _ List.mem_cons_self, ht⟩
    · have hc' := decide_eq_false hc
      clear hc
      get_elem_tactic_extensible
      refine ⟨P, by simp, g1, fun t ht => ?_, s3, u2.trans u3⟩
      obtain ⟨k, hk, e⟩ := g2 t ht
      exact ⟨k, List.mem_append_left _ hk, e⟩)
  have hb : ∀ t ∈ P, 0 ≤ t ∧ t < last := fun t ht => by
    obtain ⟨k, hk, rfl⟩ := hP2 t ht
    rw [List.mem_range] at hk
    omega
  refine ⟨P, M2, ?_, ⟨fun t ht => by have := hb t ht; omega, hP1⟩, fun t ht => (hb t ht).2, s2, u2⟩
  have hT : M2.take M.length = M2 := by rw [← u2.1]; exact List.take_length
  rw [callAt_def h rfl]
  unfold F.l_pedal
  clear h34 h hp hr
  get_elem_tactic_extensible
theorem holds_of_n3 {T : Nat → Option Fn} (h5 : T 5 = some F.struck_again) (h6 : T 6 = some F.changes_of) (h19 : T 19 = some F.held_with) (h : T 27 = some F.holds_of) (l : Nat) (p : List N3) (hp : p.length ≤ 40) (P : List Int) (hd : ∀ t ∈ changesOf p, t ∉ P) (M : Mem) : callAt T (l + 3) 27 [eP p, .dat (.tuple (P.map .int))] M = .ok (.dat (.tuple ((p.map (hold (offP P))).map .int))) M := by
  rw [callAt_def h rfl]
  unfold F.holds_of
  have e1 := changes_of_n3 h5 h6 l p hp
  have hl : (offP P).length ≤ 60 := (offP_ped P).len
  have e2 := held_with_n3 h19 (l + 1) p _ _ (SeqI.list (offP P)) (by omega)
  have hr : rng 0 60 = some ((List.range 60).map fun (k : Nat) => PyData.int (0 + k)) := rng0 (by decide)
  have hf : (changesOf p).filter (fun t => decide (t ∈ P)) = [] := by
    rw [List.filter_eq_nil_iff]
    intro t ht
    simpa using hd t ht
  clear h h5 h6 h19 hp hl hd
  unfold eP at *
  get_elem_tactic_extensible
  rw [comp_map (own := [2]) .int (fun t => decide (t ∈ P)) id .int (changesOf p) (by clear e2 hr; get_elem_tactic_extensible) (fun a _ => by clear e1 e2; get_elem_tactic_extensible; rfl), hf]
  have w := cmp_ne_nil (xs := [])
  simp only [List.map_nil, decide_true, Bool.not_true] at w
  get_elem_tactic_extensible
  rw [comp_map (own := [2]) (fun k : Nat => PyData.int (0 + k)) (fun k : Nat => !decide ((0 + (k : Int)) ∈ P)) (fun k : Nat => (0 + k : Int)) .int (List.range 60) (by clear e1 e2; get_elem_tactic_extensible) (fun a _ => by clear e1 e2; get_elem_tactic_extensible)]
  have ho : (((List.range 60).filter fun k : Nat => !decide ((0 + (k : Int)) ∈ P)).map fun k : Nat => (0 + k : Int)) = offP P := rfl
  rw [ho]
  get_elem_tactic_extensible
theorem fingers_with_n3 {T : Nat → Option Fn} (h0 : T 0 = some F.is_integer) (h1 : T 1 = some F.is_note) (h2 : T 2 = some F.is_piece) (h3 : T 3 = some F.require_piece) (h5 : T 5 = some F.struck_again) (h6 : T 6 = some F.changes_of) (h10 : T 10 = some F.is_pedal) (h11 : T 11 = some F.require_pedal) (h15 : T 15 = some F.most_at_once) (h19 : T 19 = some F.held_with) (h20 : T 20 = some F.strokes_with) (h27 : T 27 = some F.holds_of) (h : T 88 = some F.fingers_with) (l : Nat) (p : List N3) (hp : Piece p) (P : List Int) (hP : Ped P) (hd : ∀ t ∈ changesOf p, t ∉ P) (M : Mem) : callAt T (l + 5) 88 [eP p, .dat (.tuple (P.map .int))] M = .ok (.dat (.int (mostOf (short (offP P) p)))) M := by
  rw [callAt_def h rfl]
  unfold F.fingers_with
  have e1 := require_piece_n3 h0 h1 h2 h3 l p hp.ok
  have e2 : ∀ M, callAt T (l + 4) 11 [.dat (.tuple (P.map .int))] M = .ok (.dat .none) M := require_pedal_i h0 h10 h11 (l + 1) P hP
  have e3 : ∀ M, callAt T (l + 4) 27 [eP p, .dat (.tuple (P.map .int))] M = .ok (.dat (.tuple ((p.map (hold (offP P))).map .int))) M := holds_of_n3 h5 h6 h19 h27 (l + 1) p hp.len P hd
  have hl : (offP P).length ≤ 60 := (offP_ped P).len
  have e4 : ∀ M, callAt T (l + 4) 20 [eP p, .dat (.list ((offP P).map .int))] M = .ok (eP (short (offP P) p)) M := strokes_with_n3 h19 h20 (l + 2) p _ _ (SeqI.list (offP P)) (by omega)
  have e5 := most_at_once_n3 h15 (l + 3) (short (offP P) p) (by have := hp.len; unfold short; rw [List.length_map]; omega)
  have hr : rng 0 60 = some ((List.range 60).map fun (k : Nat) => PyData.int (0 + k)) := rng0 (by decide)
  clear h h0 h1 h2 h3 h5 h6 h10 h11 h15 h19 h20 h27 hp hP hd hl
  unfold eP at *
  get_elem_tactic_extensible
  rw [comp_map (own := [2]) (fun k : Nat => PyData.int (0 + k)) (fun k : Nat => !decide ((0 + (k : Int)) ∈ P)) (fun k : Nat => (0 + k : Int)) .int (List.range 60) (by clear e1 e2 e3 e4 e5; get_elem_tactic_extensible) (fun a _ => by clear e1 e2 e3 e4 e5; get_elem_tactic_extensible)]
  have ho : (((List.range 60).filter fun k : Nat => !decide ((0 + (k : Int)) ∈ P)).map fun k : Nat => (0 + k : Int)) = offP P := rfl
  rw [ho]
  get_elem_tactic_extensible
end Co
end

section
set_option Elab.async false
set_option linter.all false
set_option maxRecDepth 100000
set_option maxHeartbeats 1000000
namespace Co
open PySem
def lowS (S : List N3) (t : Int) : List N3 := S.filter fun s => decide (s.k ≤ t)
def highS (S : List N3) (t : Int) : List N3 := S.filter fun s => decide (s.k > t)
def fits (S : List N3) (L R : Int) (t : Int) : Bool := decide (mostOf (lowS S t) ≤ L) && decide (mostOf (highS S t) ≤ R)
def splitsOf (S : List N3) (L R : Int) : List Int := ((List.range 89).filter fun k : Nat => fits S L R (0 + k)).map fun k : Nat => (0 + k : Int)
theorem most_nn (S : List N3) : 0 ≤ mostOf S := maxI_le List.mem_cons_self
theorem cnt_le_len (S : List N3) (t : Int) : cnt S t ≤ S.length := by
  unfold cnt
  have := List.length_filter_le (snd t) S
  omega
theorem most_le_len (S : List N3) : mostOf S ≤ S.length := by
  show maxI (0 :: S.map fun n => cnt S n.b) ≤ _
  rcases List.mem_cons.mp (maxI_mem (List.cons_ne_nil 0 (S.map fun n => cnt S n.b))) with e | e
  · rw [e]; omega
  · obtain ⟨n, _, e⟩ := List.mem_map.mp e
    rw [← e]; exact cnt_le_len S _
theorem lF_eq : F.l_full = F.most_at_once := rfl
theorem filter_none {S : List N3} {q : N3 → Bool} (h : ∀ s ∈ S, q s = false) : S.filter q = [] := by
  rw [List.filter_eq_nil_iff]
  intro s hs
  rw [h s hs]; exact Bool.false_ne_true
theorem splits_mem {S : List N3} {L R t : Int} : t ∈ splitsOf S L R ↔ (0 ≤ t ∧ t ≤ 88) ∧ fits S L R t = true := by
  unfold splitsOf
  rw [List.mem_map]
  constructor
  · rintro ⟨k, hk, rfl⟩
    obtain ⟨h1, h2⟩ := List.mem_filter.mp hk
    rw [List.mem_range] at h1
    exact ⟨by omega, h2⟩
  · rintro ⟨h1, h2⟩
    have e : (0 + (t.toNat : Int)) = t := by omega
    refine ⟨t.toNat, List.mem_filter.mpr ⟨List.mem_range.mpr (by omega), ?_⟩, e⟩
    rw [e]
    exact h2
theorem splits_ne {S : List N3} {L R : Int} : splitsOf S L R ≠ [] ↔ ∃ t, (0 ≤ t ∧ t ≤ 88) ∧ fits S L R t = true := by
  constructor
  · intro h
    cases e : splitsOf S L R with
    | nil => exact absurd e h
    | cons t r => exact ⟨t, splits_mem.mp (by rw [e]; exact List.mem_cons_self)⟩
  · rintro ⟨t, ht⟩ e
    have := splits_mem.mpr ht
    rw [e] at this; cases this
/-- the larger of both sides -/
def both (S : List N3) (t : Int) : Int := if mostOf (highS S t) > mostOf (lowS S t) then mostOf (highS S t) else mostOf (lowS S t)
theorem fits_both {S : List N3} {c t : Int} : fits S c c t = true ↔ both S t ≤ c := by
  unfold fits both
  simp only [Bool.and_eq_true, decide_eq_true_eq]
  split <;> omega
theorem both_le {S : List N3} (h : S.length ≤ 40) (t : Int) : both S t ≤ 40 := by
  unfold both
  have h1 := most_le_len (lowS S t)
  have h2 := most_le_len (highS S t)
  have h3 : (lowS S t).length ≤ S.length := List.length_filter_le _ _
  have h4 : (highS S t).length ≤ S.length := List.length_filter_le _ _
  split <;> omega
/-- the least count of each hand -/
def least (S : List N3) : Nat → Int → Int
  | 0, c => c
  | d + 1, c => if splitsOf S c c = [] then least S d (c + 1) else c
example : True := by
  have := @exec.eq_1
  have := @exec.eq_2
  have := @exec.eq_3
  have := @exec.eq_4
  have := @exec.eq_5
  have := @exec.eq_6
  have := @exec.eq_7
  have := @exec.eq_8
  have := @exec.eq_9
  have := @exec.eq_12
  have := @exec.eq_13
  have := @exec.eq_14
  have := @exec.eq_15
  have := @exec.eq_16
  have := @exec.eq_17
  have := @exec.eq_18
  have := @ev.eq_1
  have := @ev.eq_2
  have := @ev.eq_3
  have := @ev.eq_4
  have := @ev.eq_5
  have := @ev.eq_6
  have := @ev.eq_7
  have := @ev.eq_8
  have := @ev.eq_9
  have := @ev.eq_10
  have := @ev.eq_11
  have := @ev.eq_12
  have := @ev.eq_13
  have := @ev.eq_14
  have := @ev.eq_15
  have := @ev.eq_16
  have := @ev.eq_17
  have := @ev.eq_18
  have := @ev.eq_19
  have := @ev.eq_20
  have := @ev.eq_21
  have := @ev.eq_22
  have := @ev.eq_23
  have := @ev.eq_24
  trivial
local macro_rules | `(tactic| get_elem_tactic_extensible) => `(tactic| simp only [*, execs, exec.eq_1, exec.eq_2, exec.eq_3, exec.eq_4, exec.eq_5, exec.eq_6, exec.eq_7, exec.eq_8, exec.eq_9, exec.eq_12, exec.eq_13, exec.eq_14, exec.eq_15, exec.eq_16, exec.eq_17, exec.eq_18, ev.eq_1, ev.eq_2, ev.eq_3, ev.eq_4, ev.eq_5, ev.eq_6, ev.eq_7, ev.eq_8, ev.eq_9, ev.eq_10, ev.eq_11, ev.eq_12, ev.eq_13, ev.eq_14, ev.eq_15, ev.eq_16, ev.eq_17, ev.eq_18, ev.eq_19, ev.eq_20, ev.eq_21, ev.eq_22, ev.eq_23, ev.eq_24, evs, evI, evIv, evp, view, bor, okv, okv1, asg_vd, asg_vn, asg_vm, asg_vc, asg_vs, asg_on, asg_om, asg_cn, asgs_0, asgs_1, Res.bind_ok, Res.lift_some, nx_ok', ifB_b, bind_ite, ite_and, ite_or, ite_notand, List.isEmpty_nil, List.isEmpty_cons, Bool.true_or, Bool.false_or, Bool.or_true, Bool.or_false, Bool.true_and, Bool.and_true, Bool.not_true, Bool.not_false, if_true, Bool.false_eq_true, if_false, List.getD_eq_getElem?_getD, List.getElem?_cons_zero, List.getElem?_cons_succ, Option.getD_some, List.length_cons, List.length_nil, List.length_map, Nat.sub_self, Nat.reduceAdd, Nat.reduceSub, List.replicate, List.cons_append, List.nil_append, List.append_nil, List.map_cons, List.map_nil, fin1, fin_dat, fin_nw, fin_nwd, fin_next, fin_ite, take_self, bind_n3, bind_pr, bind_ePr, bind_nm, List.set_cons_zero, List.set_cons_succ, wipeD, gets, Vl.get, Vl.nrm, Option.map_some, notV_b, negV_i, bi_isInt, bi_isBool, bi_isTuple, ty_int_int, ty_int_bool, ty_bool_int, ty_bool_bool, ty_tup_tup, ty_n3, min_ii, max_ii, int_b, len_tup, len_list, len_nw, len_n3, all_nw, any_nw, max_nw, tup_nw, tup_list, list_tup, sorted_n3, sorted_n3L, sorted_ints, cmp_lt, cmp_le, cmp_gt, cmp_ge, cmp_eq, cmp_ne, cmp_memL, cmp_memT, cmp_nmemL, cmp_nmemT, cmp_nmemN, lt_n3, op_add, op_sub, idx_n0, idx_n1, idx_n2, idx_tup, idx_list, idx_nw, at_2_0, at_2_1, seq_tup, seq_list, seq_nw, fold_n3, zip_tt, zip_tl, zip_ll, zip_ln, slc_tail, slc_tailL, ends_t, ends_f, cast3, cast2, decide_true, decide_false, idx_scr, idx_cell, len_scr, take_set, at_3_0, at_3_1, at_3_2, ix_3_0, ix_3_1, List.all_cons, List.all_nil, noL, noLs, noLkv, Nat.reduceLT, mkD_f, dict_d, dget_encF, dput_encF, op_addN, max_ns, cmp_ne_nil, eq_self, eq_self, enu_0, bind_en4, bind_en2, op_addNL, noLs_ints, eq_self, is_tup_none, is_int_none, eq_self])
theorem most_gen {T : Nat → Option Fn} {i : Nat} (h : T i = some F.most_at_once) (l : Nat) (p : List N3) (hp : p.length ≤ 1000) (U : Dt) (hU : seq? (.dat U) = some (p.map eN)) (M : Mem) : callAt T (l + 1) i [.dat U] M = .ok (.dat (.int (mostOf p))) M := by
  rw [callAt_def h rfl]
  unfold F.most_at_once
  clear h
  have hi : ∀ (ρ : Rho) (t : Int), ρ.getD 0 .und = .dat U → ρ.getD 2 .und = .dat (.int t) → ρ.length = 7 → ev (callAt T l) (.comp [4, 5, 6] (.tp (.cons (.nm 4) (.cons (.nm 5) (.cons (.nm 6) .nil)))) (.seq (.var 0)) (.chain .le .lt (.var 5) (.var 2) (.var 6)) (.cst (.int 1))) ρ M = .ok (.nw (((p.filter (snd t)).map fun _ => (1 : Int)).map .int)) M := by
    intro ρ t h0 h2 hl
    match ρ, hl with
    | [a, b, c, d, e, f, g], _ =>
      simp only [List.getD_eq_getElem?_getD, List.getElem?_cons_zero, List.getElem?_cons_succ, Option.getD_some] at h0 h2
      subst h0 h2
      exact comp_map eN (snd t) (fun _ => 1) .int p (by get_elem_tactic_extensible) (fun a _ => by get_elem_tactic_extensible; rfl)
  get_elem_tactic_extensible
  rw [comp_all (own := [1, 2, 3]) eN (fun n => cnt p n.b) .int p (by get_elem_tactic_extensible) (fun a _ => by
    get_elem_tactic_extensible
    rw [hi _ a.b rfl rfl rfl]
    get_elem_tactic_extensible
    rfl)]
  clear hi
  have hlim : lim = 16777216 := by decide
  have h1 : 1 + p.length ≤ lim := by rw [hlim]; omega
  clear hlim hp
  have e := max_nw (n := 0) (ns := p.map fun n => cnt p n.b)
  get_elem_tactic_extensible
  rfl
theorem splits_of_n3 {T : Nat → Option Fn} (h5 : T 5 = some F.struck_again) (h6 : T 6 = some F.changes_of) (h15 : T 15 = some F.most_at_once) (h19 : T 19 = some F.held_with) (h20 : T 20 = some F.strokes_with) (h92 : T 92 = some F.shortest_strokes) (h : T 93 = some F.splits_of) (l : Nat) (p : List N3) (hp : p.length ≤ 40) (L R : Int) (M : Mem) : callAt T (l + 4) 93 [eP p, .dat (.int L), .dat (.int R)] M = .ok (.nw ((splitsOf (short (changesOf p) p) L R).map .int)) M := by
  rw [callAt_def h rfl]
  unfold F.splits_of
  have e1 := shortest_n3 h5 h6 h19 h20 h92 l p hp
  have hlen : (short (changesOf p) p).length = p.length := List.length_map _
  have e2 : ∀ (q : N3 → Bool) M, callAt T (l + 3) 15 [.dat (.list (((short (changesOf p) p).filter q).map eN))] M = .ok (.dat (.int (mostOf ((short (changesOf p) p).filter q)))) M := fun q M => most_gen h15 (l + 2) _ (by
    have := List.length_filter_le q (short (changesOf p) p)
    omega) _ rfl M
  have hr : rng 0 (88 + 1) = some ((List.range 89).map fun (k : Nat) => PyData.int (0 + k)) := rng0 (by decide)
  clear h h5 h6 h15 h19 h20 h92 hp hlen
  generalize short (changesOf p) p = S at *
  unfold eP at *
  get_elem_tactic_extensible
  rw [fr_pre (M' := M) (fun k : Nat => PyData.int (0 + k)) (List.range 89) (fun pre => [.dat (.tuple (p.map eN)), .dat (.int L), .dat (.int R), .dat (.tuple (S.map eN)), .own (((pre.filter fun k : Nat => fits S L R (0 + k)).map fun k : Nat => (0 + k : Int)).map .int), .und, .und, .und, .und]) (by clear e1 e2; get_elem_tactic_extensible) rfl (by
    intro pre k post he
    obtain ⟨hk, hn⟩ := range_at he
    have hm : (pre.filter fun k : Nat => fits S L R (0 + k)).length < lim := by
      have := List.length_filter_le (fun k : Nat => fits S L R (0 + k)) pre
      have hlim : lim = 16777216 := by decide
      rw [hlim]; omega
    have e3 := e2 (fun s => decide (s.k ≤ 0 + (k : Int)))
    have e4 := e2 (fun s => decide (s.k > 0 + (k : Int)))
    have hf : (decide (mostOf (S.filter fun s => decide (s.k ≤ 0 + (k : Int))) ≤ L) && decide (mostOf (S.filter fun s => decide (s.k > 0 + (k : Int))) ≤ R)) = fits S L R (0 + k) := rfl
    clear e1 e2 hr he hk hn
    rw [List.filter_append, List.map_append, List.map_append]
    get_elem_tactic_extensible
    rw [comp_map (own := [8]) eN (fun s => decide (s.k ≤ 0 + (k : Int))) id eN S (by clear e3 e4; get_elem_tactic_extensible) (fun a _ => by clear e3 e4; get_elem_tactic_extensible; rfl), List.map_id]
    get_elem_tactic_extensible
    rw [comp_map (own := [8]) eN (fun s => decide (s.k > 0 + (k : Int))) id eN S (by clear e3 e4; get_elem_tactic_extensible) (fun a _ => by clear e3 e4; get_elem_tactic_extensible; rfl), List.map_id]
    get_elem_tactic_extensible
    cases hc : fits S L R (0 + (k : Int)) with
    | true =>
      rw [List.filter_cons_of_pos (by simpa using hc)]
      get_elem_tactic_extensible
      exact ⟨_, rfl, rfl⟩
    | false =>
      rw [List.filter_cons_of_neg (by rw [hc]; exact Bool.false_ne_true)]
      get_elem_tactic_extensible
      exact ⟨_, rfl, by simp only [List.filter_nil, List.map_nil, List.append_nil]; rfl⟩)]
  clear e1 e2
  get_elem_tactic_extensible
  rfl
end Co
end

section
set_option Elab.async false
set_option linter.all false
set_option maxRecDepth 100000
set_option maxHeartbeats 1000000
namespace Co
open PySem
/-! what a sound is, moment by moment -/
theorem endF_spec {P : List Int} {S : List N3} {s : N3} : ∀ (d : Nat) (t : Int), 60 ≤ t + d → t ≤ 60 → (t ≤ endF P S s d t ∧ endF P S s d t ≤ 60) ∧ (∀ u, t ≤ u → u < endF P S s d t → goes P S s u = true) ∧ goes P S s (endF P S s d t) = false
  | 0, t, h1, h2 => by
    refine ⟨⟨Int.le_refl _, h2⟩, fun u g1 g2 => ?_, ?_⟩
    · have : u < t := g2
      omega
    · show goes P S s t = false
      unfold goes
      rw [decide_eq_false (by omega), Bool.false_and]
  | d + 1, t, h1, h2 => by
    unfold endF
    by_cases g : goes P S s t = true
    · rw [if_pos g]
      have ht : t < 60 := by
        unfold goes at g
        simp only [Bool.and_eq_true, decide_eq_true_eq] at g
        exact g.1
      obtain ⟨⟨q1, q2⟩, q3, q4⟩ := endF_spec (P := P) (S := S) (s := s) d (t + 1) (by omega) (by omega)
      refine ⟨⟨by omega, q2⟩, fun u g1 g2 => ?_, q4⟩
      by_cases e : u = t
      · subst e; exact g
      · exact q3 u (by omega) g2
    · rw [if_neg g]
      exact ⟨⟨Int.le_refl _, h2⟩, fun u g1 g2 => by omega, by simpa using g⟩
theorem endOf_spec {P : List Int} {S : List N3} {s : N3} (h : s.e ≤ 60) : (s.e ≤ endOf P S s ∧ endOf P S s ≤ 60) ∧ (∀ u, s.e ≤ u → u < endOf P S s → goes P S s u = true) ∧ goes P S s (endOf P S s) = false := endF_spec _ _ (by omega) h
theorem mem_again {S : List N3} {s : N3} {t : Int} : t ∈ again S s ↔ ∃ m ∈ S, m.k = s.k ∧ s.e ≤ m.b ∧ m.b = t := by
  unfold again
  simp only [List.mem_map, List.mem_filter, Bool.and_eq_true, decide_eq_true_eq]
  constructor
  · rintro ⟨m, ⟨h1, h2, h3⟩, h4⟩
    exact ⟨m, h1, h2, h3, h4⟩
  · rintro ⟨m, h1, h2, h3, h4⟩
    exact ⟨m, ⟨h1, h2, h3⟩, h4⟩
theorem goes_iff {P : List Int} {S : List N3} {s : N3} {t : Int} : goes P S s t = true ↔ t < 60 ∧ t ∈ P ∧ ¬ ∃ m ∈ S, m.k = s.k ∧ s.e ≤ m.b ∧ m.b = t := by
  unfold goes
  rw [← mem_again]
  simp only [Bool.and_eq_true, decide_eq_true_eq, Bool.not_eq_true', decide_eq_false_iff_not]
/-- two strokes of one key -/
theorem Piece.apart {p : List N3} (h : Piece p) {x y : N3} (hx : x ∈ p) (hy : y ∈ p) (e : x.k = y.k) : x = y ∨ x.e ≤ y.b ∨ y.e ≤ x.b := by
  obtain ⟨i, hi, ei⟩ := List.mem_iff_getElem.mp hx
  obtain ⟨j, hj, ej⟩ := List.mem_iff_getElem.mp hy
  have hord := List.pairwise_iff_getElem.mp h.ord
  by_cases hij : i < j
  · have := (hord i j hi hj hij).2
    rw [ei, ej] at this
    exact Or.inr (Or.inl (this e))
  · by_cases hji : j < i
    · have := (hord j i hj hi hji).2
      rw [ei, ej] at this
      exact Or.inr (Or.inr (this e.symm))
    · have : i = j := by omega
      subst this
      rw [ei] at ej
      exact Or.inl ej
/-- a sound ends before the key's next stroke -/
theorem end_next {P : List Int} {S : List N3} (hS : Piece S) {x y : N3} (hx : x ∈ S) (hy : y ∈ S) (e : x.k = y.k) (h : x.e ≤ y.b) : endOf P S x ≤ y.b := by
  have hb := (hS.bd x hx).2
  obtain ⟨⟨h1, h2⟩, h3, h4⟩ := endOf_spec (P := P) (S := S) (s := x) hb.2.2
  by_cases g : endOf P S x ≤ y.b
  · exact g
  · have := goes_iff.mp (h3 y.b h (by omega))
    exact absurd ⟨y, hy, e.symm, h, rfl⟩ this.2.2
def nOf (P : List Int) (S : List N3) (s : N3) : N3 := ⟨s.k, s.b, endOf P S s⟩
theorem sound_map (P : List Int) (S : List N3) : sound P S = S.map (nOf P S) := rfl
theorem Piece.sound {S : List N3} (h : Piece S) (P : List Int) : Piece (sound P S) := by
  refine ⟨by rw [sound_map, List.length_map]; exact h.len, fun n hn => ?_, ?_⟩
  · rw [sound_map] at hn
    obtain ⟨s, hs, rfl⟩ := List.mem_map.mp hn
    have h1 := h.bd s hs
    have h2 := (endOf_spec (P := P) (S := S) (s := s) h1.2.2.2).1
    exact ⟨h1.1, h1.2.1, by show s.b < endOf P S s; omega, h2.2⟩
  · rw [sound_map, List.pairwise_map]
    refine List.Pairwise.imp_of_mem ?_ h.ord
    intro x y hx hy ⟨h1, h2⟩
    have hb := (h.bd x hx).2
    rw [lexN_iff] at h1
    refine ⟨?_, fun e => show endOf P S x ≤ y.b from end_next h hx hy e (h2 e)⟩
    rw [lexN_iff]
    show x.k < y.k ∨ (x.k = y.k ∧ (x.b < y.b ∨ (x.b = y.b ∧ endOf P S x < endOf P S y)))
    by_cases e : x.k = y.k
    · have := h2 e
      omega
    · omega
/-- what of a moment ends a sound -/
theorem ends_iff {P : List Int} {S : List N3} (hS : Piece S) {s : N3} (hs : s ∈ S) {t : Int} (h1 : s.b < t) (h2 : t ≤ endOf P S s) :
    endOf P S s = t ↔ (∃ m ∈ S, m.k = s.k ∧ m.b = t) ∨ ¬ ((∃ m ∈ S, m.k = s.k ∧ m.b < t ∧ t < m.e) ∨ t < 60 ∧ t ∈ P) := by
  have hb := (hS.bd s hs).2
  obtain ⟨⟨g1, g2⟩, g3, g4⟩ := endOf_spec (P := P) (S := S) (s := s) hb.2.2
  by_cases hh : t < s.e
  · constructor
    · intro e; omega
    · rintro (⟨m, hm, k1, k2⟩ | hn)
      · have hmb := (hS.bd m hm).2
        rcases hS.apart hm hs k1 with e | e | e
        · subst e; omega
        · omega
        · omega
      · exact absurd (Or.inl ⟨s, hs, rfl, h1, hh⟩) hn
  · have hno : ¬ ∃ m ∈ S, m.k = s.k ∧ m.b < t ∧ t < m.e := by
      rintro ⟨m, hm, k1, k2, k3⟩
      rcases hS.apart hm hs k1 with e | e | e
      · subst e; omega
      · omega
      · have := end_next (P := P) hS hs hm k1.symm e
        omega
    constructor
    · intro e
      rw [e] at g4
      by_cases hst : ∃ m ∈ S, m.k = s.k ∧ m.b = t
      · exact Or.inl hst
      · refine Or.inr fun hx => ?_
        rcases hx with hx | hx
        · exact hno hx
        · have : goes P S s t = true := goes_iff.mpr ⟨hx.1, hx.2, fun ⟨m, q1, q2, q3, q4⟩ => hst ⟨m, q1, q2, q4⟩⟩
          rw [this] at g4; cases g4
    · intro hx
      by_cases e : endOf P S s = t
      · exact e
      · have hg := goes_iff.mp (g3 t (by omega) (by omega))
        rcases hx with ⟨m, q1, q2, q3⟩ | hx
        · have hmb := (hS.bd m q1).2
          rcases hS.apart q1 hs q2 with e' | e' | e'
          · subst e'; omega
          · omega
          · exact absurd ⟨m, q1, q2, by omega, q3⟩ hg.2.2
        · exact absurd (Or.inr ⟨hg.1, hg.2.1⟩) hx
/-! the state of the law's sound -/
structure SndI (P : List Int) (S : List N3) (t : Int) (pre : List Int) (fs : List (Int × Int)) (found : List N3) : Prop where
  nd : (fs.map Prod.fst).Nodup
  look : ∀ k b, lookF fs k = some b ↔ ∃ s ∈ S, s.k = k ∧ s.b = b ∧ s.b < t ∧ t ≤ endOf P S s ∧ ¬ (endOf P S s = t ∧ k ∈ pre)
  fnd : found.Nodup
  mem : ∀ n, n ∈ found ↔ ∃ s ∈ S, n = nOf P S s ∧ (endOf P S s < t ∨ (endOf P S s = t ∧ s.k ∈ pre))
/-- beside the strokes already struck at t -/
structure SndJ (P : List Int) (S : List N3) (t : Int) (pre : List N3) (fs : List (Int × Int)) : Prop where
  nd : (fs.map Prod.fst).Nodup
  look : ∀ k b, lookF fs k = some b ↔ ∃ s ∈ S, s.k = k ∧ s.b = b ∧ ((s.b < t ∧ t < endOf P S s) ∨ (s.b = t ∧ s ∈ pre))
theorem lookF_mem {fs : List (Int × Int)} {k b : Int} (h : lookF fs k = some b) : k ∈ fs.map Prod.fst := by
  induction fs with
  | nil => cases h
  | cons q r ih =>
    rw [lookF] at h
    by_cases e : q.1 = k
    · rw [List.map_cons, e]; exact List.mem_cons_self
    · rw [if_neg e] at h
      exact List.mem_cons_of_mem _ (ih h)
theorem mem_lookF {fs : List (Int × Int)} {k : Int} (h : k ∈ fs.map Prod.fst) : ∃ b, lookF fs k = some b := by
  induction fs with
  | nil => cases h
  | cons q r ih =>
    rw [lookF]
    by_cases e : q.1 = k
    · exact ⟨q.2, if_pos e⟩
    · rw [if_neg e]
      rcases List.mem_cons.mp h with h | h
      · exact absurd h.symm e
      · exact ih h
def dropF (fs : List (Int × Int)) (k : Int) : List (Int × Int) := fs.filter fun q => !decide (q.1 = k)
theorem look_drop {k j : Int} : ∀ {fs : List (Int × Int)}, lookF (dropF fs k) j = if j = k then none else lookF fs j
  | [] => by simp [dropF, lookF]
  | q :: r => by
    unfold dropF
    have ih := look_drop (k := k) (j := j) (fs := r)
    unfold dropF at ih
    by_cases e : q.1 = k
    · rw [List.filter_cons_of_neg (by simp [e]), ih, lookF]
      by_cases g : j = k
      · rw [if_pos g, if_pos g]
      · rw [if_neg g, if_neg g, if_neg (by omega)]
    · rw [List.filter_cons_of_pos (by simp [e]), lookF, ih, lookF]
      by_cases g : q.1 = j
      · rw [if_pos g, if_pos g, if_neg (by omega)]
      · rw [if_neg g, if_neg g]
theorem nd_drop {fs : List (Int × Int)} {k : Int} (h : (fs.map Prod.fst).Nodup) : ((dropF fs k).map Prod.fst).Nodup := by
  unfold dropF
  exact h.sublist ((List.filter_sublist).map _)
theorem keys_put {fs : List (Int × Int)} {k v : Int} : (putF fs k v).map Prod.fst = if k ∈ fs.map Prod.fst then fs.map Prod.fst else fs.map Prod.fst ++ [k] := by
  unfold putF
  have e : (fs.any fun q => decide (q.1 = k)) = true ↔ k ∈ fs.map Prod.fst := by
    simp only [List.any_eq_true, decide_eq_true_eq, List.mem_map]
  by_cases h : (fs.any fun q => decide (q.1 = k)) = true
  · rw [if_pos h, if_pos (e.mp h), List.map_map]
    apply List.map_congr_left
    intro q _
    simp only [Function.comp_def]
    by_cases g : q.1 = k
    · rw [if_pos g]
    · rw [if_neg g]
  · rw [if_neg h, if_neg fun g => h (e.mpr g), List.map_append]; rfl
theorem nd_put {fs : List (Int × Int)} {k v : Int} (h : (fs.map Prod.fst).Nodup) : ((putF fs k v).map Prod.fst).Nodup := by
  rw [keys_put]
  by_cases g : k ∈ fs.map Prod.fst
  · rw [if_pos g]; exact h
  · rw [if_neg g, List.nodup_append]
    refine ⟨h, List.nodup_cons.mpr ⟨by simp, List.nodup_nil⟩, fun a ha b hb => ?_⟩
    rw [List.mem_singleton] at hb; subst hb
    exact fun e => g (e ▸ ha)
theorem SndI.nil (P : List Int) {S : List N3} (hS : Piece S) : SndI P S 0 [] [] [] := ⟨List.nodup_nil, fun k b => ⟨fun h => (by cases h), fun ⟨s, hs, _, _, h, _⟩ => by have := (hS.bd s hs).2; omega⟩, List.nodup_nil, fun n => ⟨fun h => (by cases h), fun ⟨s, hs, _, h⟩ => by
  have h1 := (hS.bd s hs).2
  have h2 := (endOf_spec (P := P) (S := S) (s := s) h1.2.2).1
  omega⟩⟩
theorem nOf_inj {P : List Int} {S : List N3} (hS : Piece S) {x y : N3} (hx : x ∈ S) (hy : y ∈ S) (h1 : x.k = y.k) (h2 : x.b = y.b) : x = y := by
  have := (hS.bd x hx).2
  have := (hS.bd y hy).2
  rcases hS.apart hx hy h1 with e | e | e
  · exact e
  · omega
  · omega
/-- a key whose sound ends -/
theorem SndI.stop {P : List Int} {S : List N3} (hS : Piece S) {t : Int} {pre : List Int} {fs : List (Int × Int)} {found : List N3} (h : SndI P S t pre fs found) {k b : Int} (hl : lookF fs k = some b) (hk : k ∉ pre) (he : ∀ s ∈ S, s.k = k → s.b = b → endOf P S s = t) : SndI P S t (pre ++ [k]) (dropF fs k) (found ++ [⟨k, b, t⟩]) := by
  obtain ⟨s0, hs0, e1, e2, e3, e4, e5⟩ := (h.look k b).mp hl
  have e6 := he s0 hs0 e1 e2
  refine ⟨nd_drop h.nd, fun j c => ?_, ?_, fun n => ?_⟩
  · rw [look_drop]
    by_cases g : j = k
    · rw [if_pos g]
      constructor
      · intro q; cases q
      · rintro ⟨s, hs, k1, k2, k3, k4, k5⟩
        have hlk := (h.look k s.b).mpr ⟨s, hs, k1.trans g, rfl, k3, k4, fun q => hk q.2⟩
        rw [hl] at hlk
        injection hlk with hlk
        have := he s hs (k1.trans g) hlk.symm
        exact absurd ⟨this, by rw [g]; simp⟩ k5
    · rw [if_neg g, h.look j c]
      constructor
      · rintro ⟨s, hs, k1, k2, k3, k4, k5⟩
        refine ⟨s, hs, k1, k2, k3, k4, fun q => k5 ⟨q.1, ?_⟩⟩
        rcases List.mem_append.mp q.2 with q | q
        · exact q
        · rw [List.mem_singleton] at q; exact absurd q g
      · rintro ⟨s, hs, k1, k2, k3, k4, k5⟩
        exact ⟨s, hs, k1, k2, k3, k4, fun q => k5 ⟨q.1, List.mem_append_left _ q.2⟩⟩
  · rw [List.nodup_append]
    refine ⟨h.fnd, List.nodup_cons.mpr ⟨by simp, List.nodup_nil⟩, fun a ha b' hb' => ?_⟩
    rw [List.mem_singleton] at hb'; subst hb'
    intro q
    subst q
    obtain ⟨s, hs, q1, q2⟩ := (h.mem _).mp ha
    have q3 : k = s.k := congrArg N3.k q1
    have q4 : t = endOf P S s := congrArg N3.e q1
    rcases q2 with q2 | q2
    · omega
    · exact hk (q3 ▸ q2.2)
  · rw [List.mem_append, List.mem_singleton, h.mem n]
    constructor
    · rintro (⟨s, hs, q1, q2⟩ | q)
      · refine ⟨s, hs, q1, ?_⟩
        rcases q2 with q2 | q2
        · exact Or.inl q2
        · exact Or.inr ⟨q2.1, List.mem_append_left _ q2.2⟩
      · refine ⟨s0, hs0, ?_, Or.inr ⟨e6, by rw [e1]; simp⟩⟩
        rw [q]; unfold nOf; rw [e1, e2, e6]
    · rintro ⟨s, hs, q1, q2⟩
      rcases q2 with q2 | ⟨q2, q3⟩
      · exact Or.inl ⟨s, hs, q1, Or.inl q2⟩
      · rcases List.mem_append.mp q3 with q3 | q3
        · exact Or.inl ⟨s, hs, q1, Or.inr ⟨q2, q3⟩⟩
        · rw [List.mem_singleton] at q3
          have hsb := (hS.bd s hs).2
          have hse := (endOf_spec (P := P) (S := S) (s := s) hsb.2.2).1
          have hlk := (h.look k s.b).mpr ⟨s, hs, q3, rfl, by omega, by omega, fun q => hk q.2⟩
          rw [hl] at hlk
          injection hlk with hlk
          right
          rw [q1]; unfold nOf; rw [q3, ← hlk, q2]
/-- a key whose sound goes on -/
theorem SndI.on {P : List Int} {S : List N3} (hS : Piece S) {t : Int} {pre : List Int} {fs : List (Int × Int)} {found : List N3} (h : SndI P S t pre fs found) {k b : Int} (hl : lookF fs k = some b) (hk : k ∉ pre) (he : ∀ s ∈ S, s.k = k → s.b = b → endOf P S s ≠ t) : SndI P S t (pre ++ [k]) fs found := by
  have hne : ∀ s ∈ S, s.k = k → s.b < t → t ≤ endOf P S s → endOf P S s ≠ t := fun s hs k1 k3 k4 => by
    have hlk := (h.look k s.b).mpr ⟨s, hs, k1, rfl, k3, k4, fun q => hk q.2⟩
    rw [hl] at hlk
    injection hlk with hlk
    exact he s hs k1 hlk.symm
  refine ⟨h.nd, fun j c => ?_, h.fnd, fun n => ?_⟩
  · rw [h.look j c]
    constructor
    · rintro ⟨s, hs, k1, k2, k3, k4, k5⟩
      refine ⟨s, hs, k1, k2, k3, k4, fun q => ?_⟩
      rcases List.mem_append.mp q.2 with q' | q'
      · exact k5 ⟨q.1, q'⟩
      · rw [List.mem_singleton] at q'
        exact hne s hs (k1.trans q') k3 k4 q.1
    · rintro ⟨s, hs, k1, k2, k3, k4, k5⟩
      exact ⟨s, hs, k1, k2, k3, k4, fun q => k5 ⟨q.1, List.mem_append_left _ q.2⟩⟩
  · rw [h.mem n]
    constructor
    · rintro ⟨s, hs, q1, q2⟩
      refine ⟨s, hs, q1, ?_⟩
      rcases q2 with q2 | q2
      · exact Or.inl q2
      · exact Or.inr ⟨q2.1, List.mem_append_left _ q2.2⟩
    · rintro ⟨s, hs, q1, q2⟩
      refine ⟨s, hs, q1, ?_⟩
      rcases q2 with q2 | ⟨q2, q3⟩
      · exact Or.inl q2
      · rcases List.mem_append.mp q3 with q3 | q3
        · exact Or.inr ⟨q2, q3⟩
        · rw [List.mem_singleton] at q3
          have hsb := (hS.bd s hs).2
          have hse := (endOf_spec (P := P) (S := S) (s := s) hsb.2.2).1
          exact absurd q2 (hne s hs q3 (by omega) (by omega))
theorem SndI.toJ {P : List Int} {S : List N3} {t : Int} {ks : List Int} {fs0 fs : List (Int × Int)} {found0 found : List N3} (h0 : SndI P S t [] fs0 found0) (hks : ∀ k, k ∈ ks ↔ k ∈ fs0.map Prod.fst) (h : SndI P S t ks fs found) : SndJ P S t [] fs := by
  refine ⟨h.nd, fun k b => ?_⟩
  rw [h.look k b]
  constructor
  · rintro ⟨s, hs, k1, k2, k3, k4, k5⟩
    refine ⟨s, hs, k1, k2, Or.inl ⟨k3, ?_⟩⟩
    by_cases e : endOf P S s = t
    · refine absurd ⟨e, (hks k).mpr ?_⟩ k5
      exact lookF_mem ((h0.look k s.b).mpr ⟨s, hs, k1, rfl, k3, k4, fun q => by cases q.2⟩)
    · omega
  · rintro ⟨s, hs, k1, k2, k3⟩
    rcases k3 with k3 | ⟨_, k3⟩
    · exact ⟨s, hs, k1, k2, k3.1, by omega, fun q => by omega⟩
    · cases k3
theorem SndJ.skip {P : List Int} {S : List N3} {t : Int} {pre : List N3} {fs : List (Int × Int)} (h : SndJ P S t pre fs) {n : N3} (hn : n.b ≠ t) : SndJ P S t (pre ++ [n]) fs := by
  refine ⟨h.nd, fun k b => ?_⟩
  rw [h.look k b]
  constructor
  · rintro ⟨s, hs, k1, k2, k3⟩
    refine ⟨s, hs, k1, k2, ?_⟩
    rcases k3 with k3 | k3
    · exact Or.inl k3
    · exact Or.inr ⟨k3.1, List.mem_append_left _ k3.2⟩
  · rintro ⟨s, hs, k1, k2, k3⟩
    refine ⟨s, hs, k1, k2, ?_⟩
    rcases k3 with k3 | ⟨k3, k4⟩
    · exact Or.inl k3
    · rcases List.mem_append.mp k4 with k4 | k4
      · exact Or.inr ⟨k3, k4⟩
      · rw [List.mem_singleton] at k4
        subst k4
        exact absurd k3 hn
theorem SndJ.add {P : List Int} {S : List N3} (hS : Piece S) {t : Int} {pre : List N3} {fs : List (Int × Int)} (h : SndJ P S t pre fs) {n : N3} (hm : n ∈ S) (hp : ∀ x ∈ pre, x ∈ S) (hn : n.b = t) : SndJ P S t (pre ++ [n]) (putF fs n.k n.b) := by
  refine ⟨nd_put h.nd, fun k b => ?_⟩
  rw [look_put]
  by_cases e : k = n.k
  · rw [if_pos e]
    constructor
    · intro q
      injection q with q
      exact ⟨n, hm, e.symm, q, Or.inr ⟨hn, by simp⟩⟩
    · rintro ⟨s, hs, k1, k2, k3⟩
      congr 1
      have hk : s.k = n.k := k1.trans e
      have hsb := (hS.bd s hs).2
      have hnb := (hS.bd n hm).2
      rcases k3 with k3 | k3
      · rcases hS.apart hs hm hk with q | q | q
        · subst q; omega
        · have := end_next (P := P) hS hs hm hk q
          omega
        · omega
      · omega
  · rw [if_neg e, h.look k b]
    constructor
    · rintro ⟨s, hs, k1, k2, k3⟩
      refine ⟨s, hs, k1, k2, ?_⟩
      rcases k3 with k3 | k3
      · exact Or.inl k3
      · exact Or.inr ⟨k3.1, List.mem_append_left _ k3.2⟩
    · rintro ⟨s, hs, k1, k2, k3⟩
      refine ⟨s, hs, k1, k2, ?_⟩
      rcases k3 with k3 | ⟨k3, k4⟩
      · exact Or.inl k3
      · rcases List.mem_append.mp k4 with k4 | k4
        · exact Or.inr ⟨k3, k4⟩
        · rw [List.mem_singleton] at k4
          subst k4
          exact absurd k1.symm e
theorem SndJ.toI {P : List Int} {S : List N3} (hS : Piece S) {t : Int} {ks : List Int} {fs0 fs1 fs : List (Int × Int)} {found0 found : List N3} (h0 : SndI P S t [] fs0 found0) (hks : ∀ k, k ∈ ks ↔ k ∈ fs0.map Prod.fst) (h1 : SndI P S t ks fs1 found) (h : SndJ P S t S fs) : SndI P S (t + 1) [] fs found := by
  refine ⟨h.nd, fun k b => ?_, h1.fnd, fun n => ?_⟩
  · rw [h.look k b]
    constructor
    · rintro ⟨s, hs, k1, k2, k3⟩
      have hsb := (hS.bd s hs).2
      have hse := (endOf_spec (P := P) (S := S) (s := s) hsb.2.2).1
      exact ⟨s, hs, k1, k2, by omega, by omega, fun q => by cases q.2⟩
    · rintro ⟨s, hs, k1, k2, k3, k4, k5⟩
      refine ⟨s, hs, k1, k2, ?_⟩
      by_cases e : s.b = t
      · exact Or.inr ⟨e, hs⟩
      · exact Or.inl ⟨by omega, by omega⟩
  · rw [h1.mem n]
    constructor
    · rintro ⟨s, hs, q1, q2⟩
      exact ⟨s, hs, q1, Or.inl (by omega)⟩
    · rintro ⟨s, hs, q1, q2⟩
      refine ⟨s, hs, q1, ?_⟩
      rcases q2 with q2 | q2
      · by_cases e : endOf P S s = t
        · refine Or.inr ⟨e, (hks s.k).mpr ?_⟩
          have hsb := (hS.bd s hs).2
          have hse := (endOf_spec (P := P) (S := S) (s := s) hsb.2.2).1
          exact lookF_mem ((h0.look s.k s.b).mpr ⟨s, hs, rfl, rfl, by omega, by omega, fun q => by cases q.2⟩)
        · exact Or.inl (by omega)
      · cases q2.2
theorem SndI.done {P : List Int} {S : List N3} (hS : Piece S) {fs : List (Int × Int)} {found : List N3} (h : SndI P S 61 [] fs found) : sortN found = sound P S := by
  have hp := hS.sound P
  have hnd : (sound P S).Nodup := by
    refine hp.ord.imp ?_
    intro x y ⟨h1, _⟩ e
    subst e
    rw [lexN_iff] at h1
    omega
  have hperm : found.Perm (sound P S) := by
    refine (List.perm_ext_iff_of_nodup h.fnd hnd).mpr fun n => ?_
    rw [h.mem n, sound_map, List.mem_map]
    constructor
    · rintro ⟨s, hs, q, _⟩
      exact ⟨s, hs, q.symm⟩
    · rintro ⟨s, hs, q⟩
      have hsb := (hS.bd s hs).2
      have hse := (endOf_spec (P := P) (S := S) (s := s) hsb.2.2).1
      exact ⟨s, hs, q.symm, Or.inl (by omega)⟩
  refine ps_uniq (R := leN) (fun a b q1 q2 => ?_) (sortN_le found) ?_ ((sortN_perm found).trans hperm)
  · rw [leN_iff] at q1 q2
    cases a; cases b
    simp only [N3.mk.injEq] at *
    omega
  · refine hp.ord.imp ?_
    intro x y ⟨h1, _⟩
    rw [lexN_iff] at h1
    rw [leN_iff]
    omega
theorem sortI_perm' (xs : List Int) : (sortI xs).Perm xs := sortI_perm xs
theorem nd_len {xs : List Int} (h : xs.Nodup) (hb : ∀ x ∈ xs, 58 ≤ x ∧ x ≤ 65) : xs.length ≤ 8 := by
  have h1 : (sortI xs).Nodup := (sortI_perm xs).nodup_iff.mpr h
  have h2 : (sortI xs).Pairwise (· < ·) := by
    refine ((sortI_sorted xs).and h1).imp ?_
    intro a b ⟨q1, q2⟩
    omega
  have := inc_len (sortI xs) 57 h2 (M := 65) (by decide) fun x hx => by
    have := hb x ((sortI_perm xs).mem_iff.mp hx)
    omega
  rw [(sortI_perm xs).length_eq] at this
  omega
/-! the dict's operations -/
theorem encF_keys : ∀ fs : List (Int × Int), intKeys? (encF fs) = some (fs.map Prod.fst)
  | [] => rfl
  | q :: r => by
    show (intKeys? (encF r)).map _ = _
    rw [encF_keys r]; rfl
theorem sorted_encF {fs : List (Int × Int)} (h : fs.length < 64) : biV .sorted [.dat (.dict (encF fs))] = some (.nw ((sortI (fs.map Prod.fst)).map .int)) := by
  show sortedD [.dict (encF fs)] = _
  simp only [sortedD]
  rw [encF_keys]
  simp [h]
theorem idx_encF {M : Mem} {fs : List (Int × Int)} {k : Int} : idxV M (.dat (.dict (encF fs))) (.dat (.int k)) = (lookF fs k).map fun v => .dat (.int v) := by
  show ((some (PyData.int k)).bind (dGet (encF fs))).bind _ = _
  rw [Option.bind_some, dGet_encF]
  cases lookF fs k <;> rfl
theorem drop_encF {fs : List (Int × Int)} {k b : Int} (h : lookF fs k = some b) : dDrop (encF fs) (.int k) = some (encF (dropF fs k)) := by
  show (findD (isK (.inl k)) (encF fs)).map _ = _
  rw [findD_encF, h]
  show some ((encF fs).filter fun e => !isK (.inl k) e.1) = _
  congr 1
  unfold encF dropF
  rw [List.filter_map]
  congr 1
  apply List.filter_congr
  intro q _
  simp only [Function.comp_def, isK_int]
theorem noL_encF : ∀ {fs : List (Int × Int)}, noLkv (encF fs) = true
  | [] => rfl
  | q :: r => by
    show (noL (.int q.1) && noL (.int q.2) && noLkv (encF r)) = true
    rw [noL_encF]; rfl
theorem cmp_ne_nilD {xs : List Int} : cmpV .ne (.dat (.list (xs.map .int))) (.nw []) = some (.dat (.bool (!decide (xs = [])))) := cmp_dn (En.int.list.ne (by decide) xs [])
theorem ones_nil {α : Type} {xs : List α} : (xs.map fun _ => (1 : Int)) = [] ↔ ¬ ∃ x, x ∈ xs := by
  cases xs with
  | nil => simp
  | cons x xs => simp
example : True := by
  have := @exec.eq_1
  have := @exec.eq_2
  have := @exec.eq_3
  have := @exec.eq_4
  have := @exec.eq_5
  have := @exec.eq_6
  have := @exec.eq_7
  have := @exec.eq_8
  have := @exec.eq_9
  have := @exec.eq_12
  have := @exec.eq_13
  have := @exec.eq_14
  have := @exec.eq_15
  have := @exec.eq_16
  have := @exec.eq_17
  have := @exec.eq_18
  have := @ev.eq_1
  have := @ev.eq_2
  have := @ev.eq_3
  have := @ev.eq_4
  have := @ev.eq_5
  have := @ev.eq_6
  have := @ev.eq_7
  have := @ev.eq_8
  have := @ev.eq_9
  have := @ev.eq_10
  have := @ev.eq_11
  have := @ev.eq_12
  have := @ev.eq_13
  have := @ev.eq_14
  have := @ev.eq_15
  have := @ev.eq_16
  have := @ev.eq_17
  have := @ev.eq_18
  have := @ev.eq_19
  have := @ev.eq_20
  have := @ev.eq_21
  have := @ev.eq_22
  have := @ev.eq_23
  have := @ev.eq_24
  trivial
local macro_rules | `(tactic| get_elem_tactic_extensible) => `(tactic| simp only [*, execs, exec.eq_1, exec.eq_2, exec.eq_3, exec.eq_4, exec.eq_5, exec.eq_6, exec.eq_7, exec.eq_8, exec.eq_9, exec.eq_12, exec.eq_13, exec.eq_14, exec.eq_15, exec.eq_16, exec.eq_17, exec.eq_18, ev.eq_1, ev.eq_2, ev.eq_3, ev.eq_4, ev.eq_5, ev.eq_6, ev.eq_7, ev.eq_8, ev.eq_9, ev.eq_10, ev.eq_11, ev.eq_12, ev.eq_13, ev.eq_14, ev.eq_15, ev.eq_16, ev.eq_17, ev.eq_18, ev.eq_19, ev.eq_20, ev.eq_21, ev.eq_22, ev.eq_23, ev.eq_24, evs, evI, evIv, evp, view, bor, okv, okv1, asg_vd, asg_vn, asg_vm, asg_vc, asg_vs, asg_on, asg_om, asg_cn, asgs_0, asgs_1, Res.bind_ok, Res.lift_some, nx_ok', ifB_b, bind_ite, ite_and, ite_or, ite_notand, List.isEmpty_nil, List.isEmpty_cons, Bool.true_or, Bool.false_or, Bool.or_true, Bool.or_false, Bool.true_and, Bool.and_true, Bool.not_true, Bool.not_false, if_true, Bool.false_eq_true, if_false, List.getD_eq_getElem?_getD, List.getElem?_cons_zero, List.getElem?_cons_succ, Option.getD_some, List.length_cons, List.length_nil, List.length_map, Nat.sub_self, Nat.reduceAdd, Nat.reduceSub, List.replicate, List.cons_append, List.nil_append, List.append_nil, List.map_cons, List.map_nil, fin1, fin_dat, fin_nw, fin_nwd, fin_next, fin_ite, take_self, bind_n3, bind_pr, bind_ePr, bind_nm, List.set_cons_zero, List.set_cons_succ, wipeD, gets, Vl.get, Vl.nrm, Option.map_some, notV_b, negV_i, bi_isInt, bi_isBool, bi_isTuple, ty_int_int, ty_int_bool, ty_bool_int, ty_bool_bool, ty_tup_tup, ty_n3, min_ii, max_ii, int_b, len_tup, len_list, len_nw, len_n3, all_nw, any_nw, max_nw, tup_nw, tup_list, list_tup, sorted_n3, sorted_n3L, sorted_ints, cmp_lt, cmp_le, cmp_gt, cmp_ge, cmp_eq, cmp_ne, cmp_memL, cmp_memT, cmp_nmemL, cmp_nmemT, cmp_nmemN, lt_n3, op_add, op_sub, idx_n0, idx_n1, idx_n2, idx_tup, idx_list, idx_nw, at_2_0, at_2_1, seq_tup, seq_list, seq_nw, fold_n3, zip_tt, zip_tl, zip_ll, zip_ln, slc_tail, slc_tailL, ends_t, ends_f, cast3, cast2, decide_true, decide_false, idx_scr, idx_cell, len_scr, take_set, at_3_0, at_3_1, at_3_2, ix_3_0, ix_3_1, List.all_cons, List.all_nil, noL, noLs, noLkv, Nat.reduceLT, mkD_f, dict_d, dget_encF, dput_encF, op_addN, max_ns, cmp_ne_nil, eq_self, eq_self, enu_0, bind_en4, bind_en2, op_addNL, noLs_ints, eq_self, is_tup_none, is_int_none, eq_self, eq_self, eq_self, eq_self, eq_self, idx_encF, noL_encF, cmp_ne_nilD])
theorem l_sound_n3 {T : Nat → Option Fn} (h : T 51 = some F.l_sound) (l : Nat) (P : List Int) (S : List N3) (hS : Piece S) (hk : ∀ s ∈ S, 58 ≤ s.k ∧ s.k ≤ 65) (M : Mem) : callAt T (l + 1) 51 [.dat (.tuple (P.map .int)), eP S] M = .ok (.dat (.tuple ((sound P S).map eN))) M := by
  have key : Ok (callAt T (l + 1) 51 [.dat (.tuple (P.map .int)), eP S] M) fun v M' => v = .dat (.tuple ((sound P S).map eN)) ∧ M' = M := by
    rw [callAt_def h rfl]
    unfold F.l_sound eP
    clear h
    have hr : rng 0 61 = some ((List.range 61).map fun (k : Nat) => PyData.int (0 + k)) := rng0 (by decide)
    have hlim : lim = 16777216 := by decide
    get_elem_tactic_extensible
    rw [Ok_fin, Ok_bind, exec_fr (M' := M) (fun k : Nat => PyData.int (0 + k)) (List.range 61) (by clear hlim; get_elem_tactic_extensible)]
    refine (Ok_flp (fun k : Nat => PyData.int (0 + k)) (List.range 61) (fun pre ρ M' => M' = M ∧ ∃ fs found v6 v7, ρ = [.dat (.tuple (P.map .int)), .dat (.tuple (S.map eN)), .own (found.map eN), .odc false (encF fs), .und, .und, v6, v7, .und, .und, .und, .und, .und] ∧ SndI P S pre.length [] fs found ∧ found.length ≤ 8 * pre.length) (fun _ _ => False) ?step _ [] _ _ rfl ⟨rfl, [], [], .und, .und, rfl, SndI.nil P hS, Nat.le_refl _⟩).imp ?fin
    case fin =>
      intro f M' hf
      cases f with
      | ret v => exact hf.elim
      | next ρ =>
        obtain ⟨rfl, fs, found, v6, v7, rfl, hi, _⟩ := hf
        rw [List.length_range] at hi
        have hd := hi.done hS
        clear hr hi hlim hk hS
        get_elem_tactic_extensible
        exact ⟨rfl, take_self⟩
    case step =>
      intro pre post a ρ M' he ⟨rfl, fs, found, v6, v7, hρ, hi, hfl⟩
      subst hρ
      have ha : a = pre.length := by
        have h1 : (List.range 61)[pre.length]? = some a := by rw [he]; simp
        rw [List.getElem?_range (by
          have := (range_at he).2
          omega)] at h1
        injection h1 with h1
        exact h1.symm
      subst ha
      have ha := (range_at he).1
      clear he hr
      generalize hT : (pre.length : Int) = t at *
      have ht0 : 0 + t = t := Int.zero_add t
      have hlen : fs.length < 64 := by
        have := nd_len hi.nd fun x hx => by
          obtain ⟨b, hb⟩ := mem_lookF hx
          obtain ⟨s, hs, e, _⟩ := (hi.look x b).mp hb
          have := hk s hs
          omega
        rw [List.length_map] at this
        omega
      have hlen8 : fs.length ≤ 8 := by
        have := nd_len hi.nd fun x hx => by
          obtain ⟨b, hb⟩ := mem_lookF hx
          obtain ⟨s, hs, e, _⟩ := (hi.look x b).mp hb
          have := hk s hs
          omega
        rwa [List.length_map] at this
      have e1 := sorted_encF (fs := fs) (by omega)
      have hks : ∀ k, k ∈ sortI (fs.map Prod.fst) ↔ k ∈ fs.map Prod.fst := fun k => (sortI_perm _).mem_iff
      have hnd : (sortI (fs.map Prod.fst)).Nodup := (sortI_perm _).nodup_iff.mpr hi.nd
      have hkl : (sortI (fs.map Prod.fst)).length ≤ 8 := by rw [(sortI_perm _).length_eq, List.length_map]; exact hlen8
      generalize sortI (fs.map Prod.fst) = ks at *
      have w1 := noLs_ints (xs := ks)
      clear hlim
      get_elem_tactic_extensible
      rw [Ok_bind, exec_fr (M' := M') PyData.int ks (by clear ht0; get_elem_tactic_extensible)]
      refine (Ok_flp PyData.int ks (fun pr ρ M2 => M2 = M' ∧ ∃ fs1 found1 v6 v7, ρ = [.dat (.tuple (P.map .int)), .dat (.tuple (S.map eN)), .own (found1.map eN), .odc false (encF fs1), .dat (.int t), .und, v6, v7, .und, .und, .und, .und, .und] ∧ SndI P S t pr fs1 found1 ∧ found1.length ≤ found.length + pr.length) (fun _ _ => False) ?st1 _ [] _ _ rfl ⟨rfl, fs, found, v6, v7, rfl, hi, Nat.le_refl _⟩).imp ?fi1
      case st1 =>
        intro pr post2 k ρ M2 he ⟨rfl, fs1, found1, v6, v7, hρ, hi1, hl1⟩
        subst hρ
        have hkp : k ∉ pr := fun hx => by
          rw [he, List.nodup_append] at hnd
          exact hnd.2.2 k hx k List.mem_cons_self rfl
        have hkk : k ∈ fs.map Prod.fst := (hks k).mp (by rw [he]; simp)
        have hprl : pr.length < ks.length := by rw [he, List.length_append, List.length_cons]; omega
        obtain ⟨b, hb⟩ := mem_lookF hkk
        obtain ⟨s, hs, k1, k2, k3, k4, _⟩ := (hi.look k b).mp hb
        have hl : lookF fs1 k = some b := (hi1.look k b).mpr ⟨s, hs, k1, k2, k3, k4, fun q => hkp q.2⟩
        have hE := ends_iff (P := P) hS hs k3 k4
        rw [k1] at hE
        have hsame : ∀ s' ∈ S, s'.k = k → s'.b = b → s' = s := fun s' h1 h2 h3 => nOf_inj (P := P) hS h1 hs (h2.trans k1.symm) (h3.trans k2.symm)
        have hf1 : found1.length < lim := by
          have hlim : lim = 16777216 := by decide
          rw [hlim]; omega
        have hd := drop_encF hl
        clear e1 w1 he hks hnd hkl hkk hb hi hlen hlen8 ht0 ha hk
        get_elem_tactic_extensible
        rw [comp_map (own := [12, 6, 7]) eN (fun m => decide (m.k = k) && (decide (m.b < t) && decide (t < m.e))) (fun _ => (1 : Int)) .int S (by get_elem_tactic_extensible) (fun a _ => by get_elem_tactic_extensible)]
        get_elem_tactic_extensible
        rw [comp_map (own := [12, 6, 7]) eN (fun m => decide (m.k = k) && decide (m.b = t)) (fun _ => (1 : Int)) .int S (by get_elem_tactic_extensible) (fun a _ => by get_elem_tactic_extensible)]
        get_elem_tactic_extensible
        generalize hc : (!decide (((S.filter fun m => decide (m.k = k) && decide (m.b = t)).map fun _ => (1 : Int)) = []) || !(!decide (((S.filter fun m => decide (m.k = k) && (decide (m.b < t) && decide (t < m.e))).map fun _ => (1 : Int)) = []) || (decide (t < 60) && decide (t ∈ P)))) = c
        have hc' : c = decide (endOf P S s = t) := by
          rw [← hc]
          apply Bool.eq_iff_iff.mpr
          rw [decide_eq_true_iff, hE]
          simp only [Bool.or_eq_true, Bool.not_eq_true', decide_eq_false_iff_not, ones_nil, Classical.not_not, Bool.or_eq_false_iff, ← Bool.not_eq_true, Bool.and_eq_true, decide_eq_true_eq, List.mem_filter]
        by_cases hq : endOf P S s = t
        · have hcc : c = true := by rw [hc', decide_eq_true hq]
          have hi2 := hi1.stop hS hl hkp fun s' h1 h2 h3 => by rw [hsame s' h1 h2 h3]; exact hq
          clear hc' hc
          subst hcc
          clear hE hsame hS hi1
          get_elem_tactic_extensible
          exact ⟨rfl, _, found1 ++ [⟨k, b, t⟩], _, _, by rw [List.map_append]; rfl, hi2, by rw [List.length_append, List.length_append]; show found1.length + 1 ≤ found.length + (pr.length + 1); omega⟩
        · have hcc : c = false := by rw [hc', decide_eq_false hq]
          have hi2 := hi1.on hS hl hkp fun s' h1 h2 h3 => by rw [hsame s' h1 h2 h3]; exact hq
          clear hc' hc
          subst hcc
          clear hE hsame hS hi1
          get_elem_tactic_extensible
          exact ⟨rfl, _, found1, _, _, rfl, hi2, by rw [List.length_append]; omega⟩
      case fi1 =>
        intro f1 M2 hf
        cases f1 with
        | ret v => exact hf.elim
        | next ρ =>
          obtain ⟨rfl, fs1, found1, v6, v7, rfl, hi1, hl1⟩ := hf
          have hj : SndJ P S t [] fs1 := hi.toJ hks hi1
          clear e1 w1
          get_elem_tactic_extensible
          rw [Ok_bind, exec_fr (M' := M2) eN S (by get_elem_tactic_extensible)]
          refine (Ok_flp eN S (fun pr ρ M3 => M3 = M2 ∧ ∃ fs2 v5 v6 v7, ρ = [.dat (.tuple (P.map .int)), .dat (.tuple (S.map eN)), .own (found1.map eN), .odc false (encF fs2), .dat (.int t), v5, v6, v7, .und, .und, .und, .und, .und] ∧ SndJ P S t pr fs2) (fun _ _ => False) ?st2 _ [] _ _ rfl ⟨rfl, fs1, .und, v6, v7, rfl, hj⟩).imp ?fi2
          case fi2 =>
            intro f2 M3 hf
            cases f2 with
            | ret v => exact hf.elim
            | next ρ =>
              obtain ⟨rfl, fs2, v5, v6, v7, rfl, hj2⟩ := hf
              have hi3 := hj2.toI hS hi hks hi1
              refine ⟨rfl, fs2, found1, v6, v7, rfl, ?_, ?_⟩
              · rw [List.length_append]
                have : ((pre.length + [pre.length].length : Nat) : Int) = t + 1 := by rw [← hT]; rfl
                rw [this]; exact hi3
              · rw [List.length_append]
                show _ ≤ 8 * (pre.length + 1)
                omega
          case st2 =>
            intro pr post2 n ρ M3 he ⟨rfl, fs2, v5, v6, v7, hρ, hj2⟩
            subst hρ
            have hn : n ∈ S := by rw [he]; simp
            have hp : ∀ x ∈ pr, x ∈ S := fun x hx => by rw [he]; simp [hx]
            have hlen2 : (encF fs2).length < lim := by
              have := nd_len hj2.nd fun x hx => by
                obtain ⟨b, hb⟩ := mem_lookF hx
                obtain ⟨s, hs, e, _⟩ := (hj2.look x b).mp hb
                have := hk s hs
                omega
              rw [List.length_map] at this
              have hlim : lim = 16777216 := by decide
              have : (encF fs2).length = fs2.length := List.length_map _
              rw [hlim]; omega
            clear he hj hi hi1 hks hnd hkl hk ha hlen hlen8 ht0
            by_cases hq : n.b = t
            · have hj3 := hj2.add hS hn hp hq
              have hc := decide_eq_true hq
              clear hq hS hp hn
              get_elem_tactic_extensible
              exact ⟨rfl, _, _, _, _, rfl, hj3⟩
            · have hj3 := hj2.skip (n := n) hq
              have hc := decide_eq_false hq
              clear hq hS hp hn
              get_elem_tactic_extensible
              exact ⟨rfl, _, _, _, _, rfl, hj3⟩
  obtain ⟨v, M', e, rfl, rfl⟩ := key.get
  exact e
end Co
end

section
set_option Elab.async false
set_option linter.all false
set_option maxRecDepth 100000
set_option maxHeartbeats 1000000
namespace Co
open PySem
def enI (q : Int × Nat) : Dt := .tuple [.int q.2, .int q.1]
theorem enuI_map : ∀ (xs : List Int) (i : Nat), enuFrom (i : Int) (xs.map PyData.int) = (xs.zipIdx i).map enI
  | [], _ => rfl
  | x :: xs, i => by
    rw [List.map_cons, List.zipIdx_cons, List.map_cons]
    unfold enuFrom
    rw [show ((i : Int) + 1) = ((i + 1 : Nat) : Int) by omega, enuI_map xs (i + 1)]
    rfl
theorem enuI_0 {xs : List Int} : enuFrom 0 (xs.map PyData.int) = xs.zipIdx.map enI := enuI_map xs 0
theorem bind_enI {i j : Nat} {q : Int × Nat} {ρ : Rho} : bindT (.tp (.cons (.nm i) (.cons (.nm j) .nil))) (enI q) ρ = some ((ρ.set i (.dat (.int q.2))).set j (.dat (.int q.1))) := rfl
theorem slc_drop1 {α : Type} {E : α → Dt} {xs : List α} {i : Nat} (h : i + 1 ≤ xs.length) : slcV (.dat (.tuple (xs.map E))) (some ((i : Int) + 1)) none = some (.dat (.tuple ((xs.drop (i + 1)).map E))) := slc_drop (i := i + 1) h
def others (P : List Int) (b : Int) : List Int := P.filter fun x => !decide (x = b)
theorem others_split {pre post : List Int} {b : Int} (h : (pre ++ b :: post).Nodup) : others (pre ++ b :: post) b = pre ++ post := by
  rw [List.nodup_append, List.nodup_cons] at h
  obtain ⟨h1, ⟨h2, h3⟩, h4⟩ := h
  unfold others
  rw [List.filter_append, List.filter_cons_of_neg (by simp)]
  congr 1
  · rw [List.filter_eq_self]
    intro x hx
    have := h4 x hx b List.mem_cons_self
    simpa using this
  · rw [List.filter_eq_self]
    intro x hx
    have : x ≠ b := fun e => h2 (e ▸ hx)
    simpa using this
theorem Ped.nodup {P : List Int} (h : Ped P) : P.Nodup := h.up.imp fun q e => by omega
def idle (P : List Int) (S : List N3) : List Int := P.filter fun b => decide (sound (others P b) S = sound P S)
def runs (P : List Int) : Int := ((P.filter fun b => !decide (b - 1 ∈ P)).length : Int)
theorem eq_n3t {p q : List N3} : cmpV .eq (.dat (.tuple (p.map eN))) (.dat (.tuple (q.map eN))) = some (.dat (.bool (decide (p = q)))) := cmp_dd (En.n3.tuple.eq (by decide) p q)
theorem ne_n3t {p q : List N3} : cmpV .ne (.dat (.tuple (p.map eN))) (.dat (.tuple (q.map eN))) = some (.dat (.bool (!decide (p = q)))) := cmp_dd (En.n3.tuple.ne (by decide) p q)
theorem zipIdx_split {α : Type} {xs : List α} {pre post : List (α × Nat)} {q : α × Nat} (h : xs.zipIdx = pre ++ q :: post) : q.2 = pre.length ∧ xs = pre.map Prod.fst ++ q.1 :: post.map Prod.fst := by
  constructor
  · have h1 : xs.zipIdx[pre.length]? = some q := by rw [h]; simp
    rw [List.getElem?_zipIdx] at h1
    cases e : xs[pre.length]? with
    | none => rw [e] at h1; cases h1
    | some a =>
      rw [e] at h1
      simp only [Option.map_some, Option.some.injEq] at h1
      rw [← h1]
      simp
  · have h2 : xs.zipIdx.map Prod.fst = xs := List.zipIdx_map_fst ..
    rw [h] at h2
    rw [← h2]
    simp
example : True := by
  have := @exec.eq_1
  have := @exec.eq_2
  have := @exec.eq_3
  have := @exec.eq_4
  have := @exec.eq_5
  have := @exec.eq_6
  have := @exec.eq_7
  have := @exec.eq_8
  have := @exec.eq_9
  have := @exec.eq_12
  have := @exec.eq_13
  have := @exec.eq_14
  have := @exec.eq_15
  have := @exec.eq_16
  have := @exec.eq_17
  have := @exec.eq_18
  have := @ev.eq_1
  have := @ev.eq_2
  have := @ev.eq_3
  have := @ev.eq_4
  have := @ev.eq_5
  have := @ev.eq_6
  have := @ev.eq_7
  have := @ev.eq_8
  have := @ev.eq_9
  have := @ev.eq_10
  have := @ev.eq_11
  have := @ev.eq_12
  have := @ev.eq_13
  have := @ev.eq_14
  have := @ev.eq_15
  have := @ev.eq_16
  have := @ev.eq_17
  have := @ev.eq_18
  have := @ev.eq_19
  have := @ev.eq_20
  have := @ev.eq_21
  have := @ev.eq_22
  have := @ev.eq_23
  have := @ev.eq_24
  trivial
local macro_rules | `(tactic| get_elem_tactic_extensible) => `(tactic| simp only [*, execs, exec.eq_1, exec.eq_2, exec.eq_3, exec.eq_4, exec.eq_5, exec.eq_6, exec.eq_7, exec.eq_8, exec.eq_9, exec.eq_12, exec.eq_13, exec.eq_14, exec.eq_15, exec.eq_16, exec.eq_17, exec.eq_18, ev.eq_1, ev.eq_2, ev.eq_3, ev.eq_4, ev.eq_5, ev.eq_6, ev.eq_7, ev.eq_8, ev.eq_9, ev.eq_10, ev.eq_11, ev.eq_12, ev.eq_13, ev.eq_14, ev.eq_15, ev.eq_16, ev.eq_17, ev.eq_18, ev.eq_19, ev.eq_20, ev.eq_21, ev.eq_22, ev.eq_23, ev.eq_24, evs, evI, evIv, evp, view, bor, okv, okv1, asg_vd, asg_vn, asg_vm, asg_vc, asg_vs, asg_on, asg_om, asg_cn, asgs_0, asgs_1, Res.bind_ok, Res.lift_some, nx_ok', ifB_b, bind_ite, ite_and, ite_or, ite_notand, List.isEmpty_nil, List.isEmpty_cons, Bool.true_or, Bool.false_or, Bool.or_true, Bool.or_false, Bool.true_and, Bool.and_true, Bool.not_true, Bool.not_false, if_true, Bool.false_eq_true, if_false, List.getD_eq_getElem?_getD, List.getElem?_cons_zero, List.getElem?_cons_succ, Option.getD_some, List.length_cons, List.length_nil, List.length_map, Nat.sub_self, Nat.reduceAdd, Nat.reduceSub, List.replicate, List.cons_append, List.nil_append, List.append_nil, List.map_cons, List.map_nil, fin1, fin_dat, fin_nw, fin_nwd, fin_next, fin_ite, take_self, bind_n3, bind_pr, bind_ePr, bind_nm, List.set_cons_zero, List.set_cons_succ, wipeD, gets, Vl.get, Vl.nrm, Option.map_some, notV_b, negV_i, bi_isInt, bi_isBool, bi_isTuple, ty_int_int, ty_int_bool, ty_bool_int, ty_bool_bool, ty_tup_tup, ty_n3, min_ii, max_ii, int_b, len_tup, len_list, len_nw, len_n3, all_nw, any_nw, max_nw, tup_nw, tup_list, list_tup, sorted_n3, sorted_n3L, sorted_ints, cmp_lt, cmp_le, cmp_gt, cmp_ge, cmp_eq, cmp_ne, cmp_memL, cmp_memT, cmp_nmemL, cmp_nmemT, cmp_nmemN, lt_n3, op_add, op_sub, idx_n0, idx_n1, idx_n2, idx_tup, idx_list, idx_nw, at_2_0, at_2_1, seq_tup, seq_list, seq_nw, fold_n3, zip_tt, zip_tl, zip_ll, zip_ln, slc_tail, slc_tailL, ends_t, ends_f, cast3, cast2, decide_true, decide_false, idx_scr, idx_cell, len_scr, take_set, at_3_0, at_3_1, at_3_2, ix_3_0, ix_3_1, List.all_cons, List.all_nil, noL, noLs, noLkv, Nat.reduceLT, mkD_f, dict_d, dget_encF, dput_encF, op_addN, max_ns, cmp_ne_nil, eq_self, eq_self, enu_0, bind_en4, bind_en2, op_addNL, noLs_ints, eq_self, is_tup_none, is_int_none, eq_self, eq_self, eq_self, eq_self, eq_self, idx_encF, noL_encF, cmp_ne_nilD, enuI_0, bind_enI, eq_n3t, ne_n3t])
theorem sound_n3 {T : Nat → Option Fn} (h0 : T 0 = some F.is_integer) (h1 : T 1 = some F.is_note) (h2 : T 2 = some F.is_piece) (h10 : T 10 = some F.is_pedal) (h11 : T 11 = some F.require_pedal) (h12 : T 12 = some F.require_strokes) (h13 : T 13 = some F.end_of) (h14 : T 14 = some F.sound_of) (h : T 16 = some F.sound) (l : Nat) (P : List Int) (hP : Ped P) (S : List N3) (hS : Piece S) (M : Mem) : callAt T (l + 5) 16 [.dat (.tuple (P.map .int)), eP S] M = .ok (.dat (.tuple ((sound P S).map eN))) M := by
  rw [callAt_def h rfl]
  unfold F.sound
  have e2 : ∀ M, callAt T (l + 4) 11 [.dat (.tuple (P.map .int))] M = .ok (.dat .none) M := require_pedal_i h0 h10 h11 (l + 1) P hP
  have e3 := require_strokes_n3 h0 h1 h2 h12 l S hS.ok
  have e4 : ∀ M, callAt T (l + 4) 14 [.dat (.tuple (P.map .int)), .dat (.tuple (S.map eN))] M = .ok (.dat (.tuple ((sound P S).map eN))) M := sound_of_n3 h13 h14 (l + 2) P S fun s hs => by have := (hS.bd s hs).2; omega
  clear h h0 h1 h2 h10 h11 h12 h13 h14 hP hS
  unfold eP at *
  get_elem_tactic_extensible
theorem pressings_i {T : Nat → Option Fn} (h0 : T 0 = some F.is_integer) (h10 : T 10 = some F.is_pedal) (h11 : T 11 = some F.require_pedal) (h : T 18 = some F.pressings) (l : Nat) (P : List Int) (hP : Ped P) (M : Mem) : callAt T (l + 4) 18 [.dat (.tuple (P.map .int))] M = .ok (.dat (.int (runs P))) M := by
  rw [callAt_def h rfl]
  unfold F.pressings
  have e2 : ∀ M, callAt T (l + 3) 11 [.dat (.tuple (P.map .int))] M = .ok (.dat .none) M := require_pedal_i h0 h10 h11 l P hP
  clear h h0 h10 h11 hP
  get_elem_tactic_extensible
  rw [comp_map (own := [1]) .int (fun b => !decide (b - 1 ∈ P)) id .int P (by clear e2; get_elem_tactic_extensible) (fun a _ => by clear e2; get_elem_tactic_extensible; rfl), List.map_id]
  get_elem_tactic_extensible
  rfl
theorem idle_beats_n3 {T : Nat → Option Fn} (h0 : T 0 = some F.is_integer) (h1 : T 1 = some F.is_note) (h2 : T 2 = some F.is_piece) (h10 : T 10 = some F.is_pedal) (h11 : T 11 = some F.require_pedal) (h12 : T 12 = some F.require_strokes) (h13 : T 13 = some F.end_of) (h14 : T 14 = some F.sound_of) (h : T 53 = some F.idle_beats) (l : Nat) (P : List Int) (hP : Ped P) (S : List N3) (hS : Piece S) (M : Mem) : callAt T (l + 5) 53 [.dat (.tuple (P.map .int)), eP S] M = .ok (.nw ((idle P S).map .int)) M := by
  rw [callAt_def h rfl]
  unfold F.idle_beats
  have e2 : ∀ M, callAt T (l + 4) 11 [.dat (.tuple (P.map .int))] M = .ok (.dat .none) M := require_pedal_i h0 h10 h11 (l + 1) P hP
  have e3 := require_strokes_n3 h0 h1 h2 h12 l S hS.ok
  have e4 : ∀ P M, callAt T (l + 4) 14 [.dat (.tuple (P.map .int)), .dat (.tuple (S.map eN))] M = .ok (.dat (.tuple ((sound P S).map eN))) M := fun P => sound_of_n3 h13 h14 (l + 2) P S fun s hs => by have := (hS.bd s hs).2; omega
  have hl := hP.len
  have hnd := hP.nodup
  clear h h0 h1 h2 h10 h11 h12 h13 h14 hP hS
  unfold eP at *
  get_elem_tactic_extensible
  rw [fr_pre (M' := M) enI P.zipIdx (fun pre => [.dat (.tuple (P.map .int)), .dat (.tuple (S.map eN)), .dat (.tuple ((sound P S).map eN)), .own ((((pre.map Prod.fst).filter fun b => decide (sound (others P b) S = sound P S))).map .int), .und, .und]) (by clear e2 e3 e4; get_elem_tactic_extensible) rfl (by
    intro pre q post he
    obtain ⟨hq, hx⟩ := zipIdx_split he
    have hlp : P.length = (pre.map Prod.fst).length + 1 + (post.map Prod.fst).length := by rw [hx]; simp; omega
    rw [List.length_map, List.length_map] at hlp
    have s1 := slc_take (E := PyData.int) (xs := P) (i := pre.length) (by omega)
    have s2 := slc_drop1 (E := PyData.int) (xs := P) (i := pre.length) (by omega)
    have t1 : P.take pre.length = pre.map Prod.fst := by rw [hx, List.take_left' (by simp)]
    have t2 : P.drop (pre.length + 1) = post.map Prod.fst := by
      rw [hx, List.drop_append, List.drop_of_length_le (by simp), List.length_map, Nat.add_sub_cancel_left]
      rfl
    have t3 : others P q.1 = pre.map Prod.fst ++ post.map Prod.fst := by
      rw [hx] at hnd ⊢
      exact others_split hnd
    rw [t1] at s1
    rw [t2] at s2
    have hlim : lim = 16777216 := by decide
    have s3 : opV .add (.dat (.tuple ((pre.map Prod.fst).map PyData.int))) (.dat (.tuple ((post.map Prod.fst).map PyData.int))) = some (.dat (.tuple ((others P q.1).map .int))) := by
      rw [op_addT (by simp only [List.length_map]; rw [hlim]; omega), ← List.map_append, ← t3]
    have hm : ((pre.map Prod.fst).filter fun b => decide (sound (others P b) S = sound P S)).length < lim := by
      have := List.length_filter_le (fun b => decide (sound (others P b) S = sound P S)) (pre.map Prod.fst)
      rw [List.length_map] at this
      rw [hlim]; omega
    have e5 := e4 (others P q.1)
    rw [hq.symm] at s1 s2
    clear he hx hlp t1 t2 t3 hlim e4 e2 e3 hq hnd hl
    rw [List.map_append, List.map_cons, List.map_nil, List.filter_append, List.map_append]
    by_cases hc : sound (others P q.1) S = sound P S
    · have hc' := decide_eq_true hc
      rw [List.filter_cons_of_pos (by simpa using hc)]
      clear hc
      get_elem_tactic_extensible
      exact ⟨_, rfl, rfl⟩
    · have hc' := decide_eq_false hc
      rw [List.filter_cons_of_neg (by simpa using hc)]
      clear hc
      get_elem_tactic_extensible
      exact ⟨_, rfl, by simp only [List.filter_nil, List.map_nil, List.append_nil]; rfl⟩)]
  clear e2 e3 e4
  get_elem_tactic_extensible
  rw [List.zipIdx_map_fst]
  rfl
theorem l_is_bool_b {T : Nat → Option Fn} (h : T 35 = some F.l_is_bool) (l : Nat) (a b : Bool) (M : Mem) : callAt T (l + 1) 35 [.dat (.bool a), .dat (.bool b)] M = .ok (.dat (.bool (decide (a = b)))) M := by
  rw [callAt_def h rfl]
  unfold F.l_is_bool
  clear h
  have e : cmpV .eq (.dat (.bool a)) (.dat (.bool b)) = some (.dat (.bool (decide (a = b)))) := by cases a <;> cases b <;> rfl
  get_elem_tactic_extensible
end Co
end

section
set_option Elab.async false
set_option linter.all false
set_option maxRecDepth 100000
set_option maxHeartbeats 1000000
namespace Co
open PySem
/-! hands; one piece behind the other -/
theorem most_of_cnt {xs ys : List N3} (h : ∀ t, cnt xs t ≤ cnt ys t) : mostOf xs ≤ mostOf ys := by
  show maxI (0 :: xs.map fun n => cnt xs n.b) ≤ _
  rcases List.mem_cons.mp (maxI_mem (List.cons_ne_nil 0 (xs.map fun n => cnt xs n.b))) with e | e
  · rw [e]; exact most_nn ys
  · obtain ⟨n, _, e⟩ := List.mem_map.mp e
    rw [← e]; exact Int.le_trans (h n.b) (cnt_le_most ys n.b)
theorem cnt_perm {xs ys : List N3} (h : xs.Perm ys) (t : Int) : cnt xs t = cnt ys t := by
  unfold cnt
  rw [(h.filter _).length_eq]
theorem cnt_app (xs ys : List N3) (t : Int) : cnt (xs ++ ys) t = cnt xs t + cnt ys t := by
  unfold cnt
  rw [List.filter_append, List.length_append]
  omega
theorem cnt_nn (xs : List N3) (t : Int) : 0 ≤ cnt xs t := by unfold cnt; omega
theorem cnt_sub {xs ys : List N3} (h : xs.Sublist ys) (t : Int) : cnt xs t ≤ cnt ys t := by
  unfold cnt
  have := (h.filter (snd t)).length_le
  omega
theorem sub_filter {α : Type} {p q : α → Bool} : ∀ (xs : List α), (∀ x ∈ xs, p x = true → q x = true) → (xs.filter p).Sublist (xs.filter q)
  | [], _ => List.Sublist.slnil
  | x :: xs, h => by
    have ih := sub_filter xs fun y hy => h y (List.mem_cons_of_mem _ hy)
    rw [List.filter_cons, List.filter_cons]
    by_cases e : p x = true
    · rw [if_pos e, if_pos (h x List.mem_cons_self e)]
      exact ih.cons_cons x
    · rw [if_neg e]
      by_cases g : q x = true
      · rw [if_pos g]; exact ih.cons x
      · rw [if_neg g]; exact ih
theorem low_mono {S : List N3} {t u : Int} (h : t ≤ u) : mostOf (lowS S t) ≤ mostOf (lowS S u) := most_of_cnt fun v => cnt_sub (sub_filter S fun x _ hx => by
  simp only [decide_eq_true_eq] at hx ⊢
  omega) v
theorem high_mono {S : List N3} {t u : Int} (h : t ≤ u) : mostOf (highS S u) ≤ mostOf (highS S t) := most_of_cnt fun v => cnt_sub (sub_filter S fun x _ hx => by
  simp only [decide_eq_true_eq] at hx ⊢
  omega) v
theorem low_high {S : List N3} (t : Int) : mostOf S ≤ mostOf (lowS S t) + mostOf (highS S t) := by
  show maxI (0 :: S.map fun n => cnt S n.b) ≤ _
  have h1 := most_nn (lowS S t)
  have h2 := most_nn (highS S t)
  rcases List.mem_cons.mp (maxI_mem (List.cons_ne_nil 0 (S.map fun n => cnt S n.b))) with e | e
  · rw [e]; omega
  · obtain ⟨n, _, e⟩ := List.mem_map.mp e
    rw [← e]
    have h3 := cnt_le_most (lowS S t) n.b
    have h4 := cnt_le_most (highS S t) n.b
    have hp : (lowS S t ++ highS S t).Perm S := by
      unfold lowS highS
      have := List.filter_append_perm (fun s : N3 => decide (s.k ≤ t)) S
      have e : (S.filter fun s => decide (s.k > t)) = S.filter fun s => !decide (s.k ≤ t) := List.filter_congr fun x _ => by
        by_cases q : x.k ≤ t
        · rw [decide_eq_true q, decide_eq_false (by omega)]; rfl
        · rw [decide_eq_false q, decide_eq_true (by omega)]; rfl
      rw [e]; exact this
    have h5 := cnt_perm hp n.b
    rw [cnt_app] at h5
    omega
theorem fits_iff {S : List N3} {L R t : Int} : fits S L R t = true ↔ mostOf (lowS S t) ≤ L ∧ mostOf (highS S t) ≤ R := by
  unfold fits
  simp only [Bool.and_eq_true, decide_eq_true_eq]
theorem splits_up {S : List N3} (L R : Int) : (splitsOf S L R).Pairwise (· < ·) := by
  unfold splitsOf
  rw [List.pairwise_map]
  exact (List.pairwise_lt_range.filter _).imp fun h => by omega
/-- a run of ints -/
def run (a b : Int) : List Int := (List.range (b + 1 - a).toNat).map fun k : Nat => (a + k : Int)
theorem run_mem {a b z : Int} : z ∈ run a b ↔ a ≤ z ∧ z ≤ b := by
  unfold run
  rw [List.mem_map]
  constructor
  · rintro ⟨k, hk, rfl⟩
    rw [List.mem_range] at hk
    omega
  · intro h
    exact ⟨(z - a).toNat, List.mem_range.mpr (by omega), by omega⟩
theorem run_up (a b : Int) : (run a b).Pairwise (· < ·) := by
  unfold run
  rw [List.pairwise_map]
  exact List.pairwise_lt_range.imp fun h => by omega
theorem splits_run {S : List N3} {L R a b : Int} (ha : a ∈ splitsOf S L R) (hb : b ∈ splitsOf S L R) (h : ∀ z ∈ splitsOf S L R, a ≤ z ∧ z ≤ b) : splitsOf S L R = run a b := by
  refine lt_uniq (splits_up L R) (run_up a b) fun z => ?_
  rw [run_mem]
  refine ⟨h z, fun ⟨h1, h2⟩ => ?_⟩
  rw [splits_mem, fits_iff] at *
  have g1 := low_mono (S := S) h2
  have g2 := high_mono (S := S) h1
  omega
theorem head_last {xs : List Int} (hx : xs.Pairwise (· < ·)) (h : xs ≠ []) : ∃ a b, at? (xs.map PyData.int) 0 = some (.int a) ∧ at? (xs.map PyData.int) (-1) = some (.int b) ∧ a ∈ xs ∧ b ∈ xs ∧ ∀ z ∈ xs, a ≤ z ∧ z ≤ b := by
  have hl : 0 < xs.length := List.length_pos_iff.mpr h
  refine ⟨xs[0], xs[xs.length - 1], ?_, ?_, List.getElem_mem _, List.getElem_mem _, fun z hz => ?_⟩
  · have := at_ints (xs := xs) (j := 0) hl
    rw [show ((0 : Nat) : Int) = 0 from rfl] at this
    rw [this]
    simp [hl]
  · unfold at? L2.atI
    have : L2.ixN (xs.map PyData.int).length (-1) = some (xs.length - 1) := by
      unfold L2.ixN
      rw [List.length_map, if_neg (by decide)]
      rw [if_pos (by omega)]
      congr 1
      omega
    rw [this, Option.bind_some, List.getElem?_map, List.getElem?_eq_getElem (by omega)]
    rfl
  · obtain ⟨i, hi, rfl⟩ := List.mem_iff_getElem.mp hz
    have hp := List.pairwise_iff_getElem.mp hx
    constructor
    · by_cases e : i = 0
      · subst e; exact Int.le_refl _
      · exact Int.le_of_lt (hp 0 i hl hi (by omega))
    · by_cases e : i = xs.length - 1
      · subst e; exact Int.le_refl _
      · exact Int.le_of_lt (hp i (xs.length - 1) hi (by omega) (by omega))
/-! the least count of each hand -/
theorem least_spec {S : List N3} : ∀ (d : Nat) (c : Int), (∃ x, c ≤ x ∧ x ≤ c + d ∧ splitsOf S x x ≠ []) → c ≤ least S d c ∧ splitsOf S (least S d c) (least S d c) ≠ [] ∧ ∀ x, c ≤ x → x < least S d c → splitsOf S x x = []
  | 0, c, ⟨x, h1, h2, h3⟩ => by
    have : x = c := by omega
    subst this
    refine ⟨Int.le_refl _, h3, fun y h4 h5 => ?_⟩
    have : y < x := h5
    omega
  | d + 1, c, ⟨x, h1, h2, h3⟩ => by
    unfold least
    by_cases g : splitsOf S c c = []
    · rw [if_pos g]
      have hne : x ≠ c := fun e => h3 (e ▸ g)
      obtain ⟨q1, q2, q3⟩ := least_spec (S := S) d (c + 1) ⟨x, by omega, by omega, h3⟩
      refine ⟨by omega, q2, fun y h4 h5 => ?_⟩
      by_cases e : y = c
      · rw [e]; exact g
      · exact q3 y (by omega) h5
    · rw [if_neg g]
      exact ⟨Int.le_refl _, g, fun y h4 h5 => by omega⟩
def eachOf (S : List N3) : Int := least S 40 1
theorem lowS_all {S : List N3} (h : ∀ s ∈ S, s.k ≤ 88) : lowS S 88 = S := by
  unfold lowS
  rw [List.filter_eq_self]
  intro s hs
  exact decide_eq_true (h s hs)
theorem highS_none {S : List N3} (h : ∀ s ∈ S, s.k ≤ 88) : highS S 88 = [] := by
  unfold highS
  exact filter_none fun s hs => decide_eq_false (by have := h s hs; omega)
theorem each_spec {S : List N3} (hl : S.length ≤ 40) (hk : ∀ s ∈ S, s.k ≤ 88) : 1 ≤ eachOf S ∧ splitsOf S (eachOf S) (eachOf S) ≠ [] ∧ ∀ x, 1 ≤ x → x < eachOf S → splitsOf S x x = [] := by
  refine least_spec 40 1 ⟨40, by decide, by decide, splits_ne.mpr ⟨88, by decide, ?_⟩⟩
  rw [fits_iff, lowS_all hk, highS_none hk]
  have := most_le_len S
  exact ⟨by omega, by decide⟩
theorem each_le {S : List N3} (hl : S.length ≤ 40) (hk : ∀ s ∈ S, s.k ≤ 88) {c : Int} (h1 : 1 ≤ c) (h : splitsOf S c c ≠ []) : eachOf S ≤ c := by
  obtain ⟨_, _, h3⟩ := each_spec hl hk
  by_cases g : eachOf S ≤ c
  · exact g
  · exact absurd (h3 c h1 (by omega)) h
theorem each_most {S : List N3} (hl : S.length ≤ 40) (hk : ∀ s ∈ S, s.k ≤ 88) : eachOf S ≤ (if mostOf S > 1 then mostOf S else 1) := by
  refine each_le hl hk (by split <;> omega) (splits_ne.mpr ⟨88, by decide, ?_⟩)
  rw [fits_iff, lowS_all hk, highS_none hk]
  have : mostOf [] = 0 := rfl
  rw [this]
  split <;> omega
theorem each_half {S : List N3} (hl : S.length ≤ 40) (hk : ∀ s ∈ S, s.k ≤ 88) : mostOf S ≤ eachOf S + eachOf S := by
  obtain ⟨_, h2, _⟩ := each_spec hl hk
  obtain ⟨t, _, h⟩ := splits_ne.mp h2
  rw [fits_iff] at h
  have := low_high (S := S) t
  omega
/-! numbers without gaps -/
theorem num_gap {S : List N3} {i : Nat} (h : 1 < num S i) : ∃ j, j < i ∧ num S j = num S i - 1 := by
  have e := num_eq S i
  rcases List.mem_cons.mp (maxI_mem (List.cons_ne_nil 1 ((cand S i).map fun q => 1 + num S q.2))) with g | g
  · rw [g] at e; omega
  · obtain ⟨q, hq, g⟩ := List.mem_map.mp g
    rw [← g] at e
    exact ⟨q.2, cand_lt hq, by omega⟩
theorem num_down {S : List N3} : ∀ (d : Nat) (i : Nat), i < S.length → ∀ v, num S i = v + d → 1 ≤ v → ∃ j, j < S.length ∧ num S j = v
  | 0, i, hi, v, h, _ => ⟨i, hi, by omega⟩
  | d + 1, i, hi, v, h, h1 => by
    obtain ⟨j, hj, e⟩ := num_gap (S := S) (i := i) (by omega)
    exact num_down d j (by omega) v (by omega) h1
theorem nums_srt (S : List N3) : srtU (nums S S.length) = run 1 (ordered S) := by
  refine lt_uniq (srtU_lt _) (run_up _ _) fun z => ?_
  rw [srtU_mem, run_mem, nums_map, List.mem_map]
  constructor
  · rintro ⟨i, hi, rfl⟩
    rw [List.mem_range] at hi
    exact ⟨num_pos S i, num_le hi⟩
  · rintro ⟨h1, h2⟩
    have h0 : ordered S ∈ (0 :: nums S S.length) := maxI_mem (List.cons_ne_nil _ _)
    rcases List.mem_cons.mp h0 with e | e
    · omega
    · rw [nums_map] at e
      obtain ⟨i, hi, e⟩ := List.mem_map.mp e
      rw [List.mem_range] at hi
      obtain ⟨j, hj, e2⟩ := num_down (S := S) (ordered S - z).toNat i hi z (by omega) h1
      exact ⟨j, List.mem_range.mpr hj, e2⟩
/-- rows of one in rows of another -/
theorem num_emb {S1 S2 : List N3} (hS : Row S2) (f : N3 → N3) (hf : ∀ x y, lowr (f x) (f y) = lowr x y) (hm : ∀ x ∈ S1, f x ∈ S2) : ∀ n i : Nat, i < n → i < S1.length → ∀ j, j < S2.length → S2.getD j n0 = f (S1.getD i n0) → num S1 i ≤ num S2 j
  | 0, i, h, _, _, _, _ => absurd h (Nat.not_lt_zero _)
  | n + 1, i, h, hi, j, hj, e => by
    have e1 := num_eq S1 i
    rcases List.mem_cons.mp (maxI_mem (List.cons_ne_nil 1 ((cand S1 i).map fun q => 1 + num S1 q.2))) with g | g
    · rw [e1, g]; exact num_pos S2 j
    · obtain ⟨q, hq, g⟩ := List.mem_map.mp g
      have hlt := cand_lt hq
      have hql : q.2 < S1.length := by omega
      obtain ⟨hq1, hq2⟩ := List.mem_filter.mp hq
      obtain ⟨hq3, hq4⟩ := mem_zipIdx0 hq1
      have hqe : S1.getD q.2 n0 = q.1 := by
        rw [hq4, List.getElem_take]
        simp [hql]
      obtain ⟨j', hj', e'⟩ := List.mem_iff_getElem.mp (hm (S1.getD q.2 n0) (by
        rw [show S1.getD q.2 n0 = S1[q.2] by simp [hql]]
        exact List.getElem_mem _))
      have e2 : S2.getD j' n0 = f (S1.getD q.2 n0) := by
        rw [← e']; simp [hj']
      have ih := num_emb hS f hf hm n q.2 (by omega) hql j' hj' e2
      have hl : lowr (S2.getD j' n0) (S2.getD j n0) = true := by
        rw [e2, e, hf, hqe]; exact hq2
      have := num_less hS hj' hj hl
      omega
theorem ordered_emb {S1 S2 : List N3} (hS : Row S2) (f : N3 → N3) (hf : ∀ x y, lowr (f x) (f y) = lowr x y) (hm : ∀ x ∈ S1, f x ∈ S2) : ordered S1 ≤ ordered S2 := by
  have h0 : ordered S1 ∈ (0 :: nums S1 S1.length) := maxI_mem (List.cons_ne_nil _ _)
  rcases List.mem_cons.mp h0 with e | e
  · rw [e]; exact maxI_le List.mem_cons_self
  · rw [nums_map] at e
    obtain ⟨i, hi, e⟩ := List.mem_map.mp e
    rw [List.mem_range] at hi
    obtain ⟨j, hj, e'⟩ := List.mem_iff_getElem.mp (hm (S1.getD i n0) (by
      rw [show S1.getD i n0 = S1[i] by simp [hi]]
      exact List.getElem_mem _))
    have := num_emb hS f hf hm (i + 1) i (by omega) hi j hj (by rw [← e']; simp [hj])
    have := num_le hj
    omega
/-! one piece behind the other -/
def later (p : List N3) (d : Int) : List N3 := p.map fun n => ⟨n.k, n.b + d, n.e + d⟩
def lastEnd (p : List N3) : Int := maxI (0 :: p.map N3.e)
def joinOf (p q : List N3) : List N3 := sortN (p ++ later q (lastEnd p))
theorem le_lastEnd {p : List N3} {n : N3} (h : n ∈ p) : n.e ≤ lastEnd p := maxI_le (List.mem_cons_of_mem _ (List.mem_map.mpr ⟨n, h, rfl⟩))
theorem lastEnd_nn (p : List N3) : 0 ≤ lastEnd p := maxI_le List.mem_cons_self
theorem lastEnd_le {p : List N3} {L : Int} (h0 : 0 ≤ L) (h : ∀ n ∈ p, n.e ≤ L) : lastEnd p ≤ L := by
  unfold lastEnd
  rcases List.mem_cons.mp (maxI_mem (List.cons_ne_nil 0 (p.map N3.e))) with e | e
  · rw [e]; exact h0
  · obtain ⟨n, hn, e⟩ := List.mem_map.mp e
    rw [← e]; exact h n hn
theorem piece_sort {xs : List N3} (hl : xs.length ≤ 40) (hb : ∀ n ∈ xs, (1 ≤ n.k ∧ n.k ≤ 88) ∧ 0 ≤ n.b ∧ n.b < n.e ∧ n.e ≤ 60) (hs : xs.Pairwise fun x y => x.k = y.k → (x.e ≤ y.b ∨ y.e ≤ x.b)) : Piece (sortN xs) := by
  refine ⟨by rw [(sortN_perm xs).length_eq]; exact hl, fun n hn => hb n ((sortN_perm xs).mem_iff.mp hn), ?_⟩
  have hs := ((sortN_perm xs).pairwise_iff (R := fun x y => x.k = y.k → (x.e ≤ y.b ∨ y.e ≤ x.b)) (fun {x y} g e => (g e.symm).symm)).mpr hs
  have hm : ∀ x ∈ sortN xs, x.b < x.e := fun x hx => (hb x ((sortN_perm xs).mem_iff.mp hx)).2.2.1
  refine List.Pairwise.imp_of_mem ?_ (hs.and (sortN_le xs))
  intro x y hx hy ⟨g1, g2⟩
  have := hm x hx
  have := hm y hy
  rw [leN_iff] at g2
  rw [lexN_iff]
  by_cases e : x.k = y.k
  · have := g1 e
    omega
  · omega
theorem Piece.pw {p : List N3} (h : Piece p) : p.Pairwise fun x y => x.k = y.k → (x.e ≤ y.b ∨ y.e ≤ x.b) := h.ord.imp fun ⟨_, g⟩ e => Or.inl (g e)
theorem later_mem {p : List N3} {d : Int} {n : N3} : n ∈ later p d ↔ ∃ m ∈ p, n = ⟨m.k, m.b + d, m.e + d⟩ := by
  unfold later
  rw [List.mem_map]
  exact ⟨fun ⟨m, h, e⟩ => ⟨m, h, e.symm⟩, fun ⟨m, h, e⟩ => ⟨m, h, e.symm⟩⟩
theorem join_piece {p q : List N3} (hp : Piece p) (hq : Piece q) (hl : lastEnd p + lastEnd q ≤ 60) (hn : p.length + q.length ≤ 40) : Piece (joinOf p q) := by
  have h0 := lastEnd_nn p
  refine piece_sort (by rw [List.length_append]; unfold later; rw [List.length_map]; exact hn) (fun n hn => ?_) ?_
  · rcases List.mem_append.mp hn with h | h
    · exact hp.bd n h
    · obtain ⟨m, hm, rfl⟩ := later_mem.mp h
      have h1 := hq.bd m hm
      have h2 := le_lastEnd hm
      refine ⟨h1.1, ?_, ?_, ?_⟩
      · show 0 ≤ m.b + lastEnd p; omega
      · show m.b + lastEnd p < m.e + lastEnd p; omega
      · show m.e + lastEnd p ≤ 60; omega
  · rw [List.pairwise_append]
    refine ⟨hp.pw, ?_, fun x hx y hy e => ?_⟩
    · unfold later
      rw [List.pairwise_map]
      refine hq.pw.imp ?_
      intro x y h e
      have := h e
      show x.e + lastEnd p ≤ y.b + lastEnd p ∨ y.e + lastEnd p ≤ x.b + lastEnd p
      omega
    · obtain ⟨m, hm, rfl⟩ := later_mem.mp hy
      have h1 := (hq.bd m hm).2
      have h2 := le_lastEnd hx
      left
      show x.e ≤ m.b + lastEnd p
      omega
theorem hold_congr {U V : List Int} {n : N3} (h : ∀ t, n.b < t → t < n.e → (t ∈ U ↔ t ∈ V)) : hold U n = hold V n := by
  unfold hold
  congr 1
  refine maxI_eq (List.cons_ne_nil _ _) (List.cons_ne_nil _ _) (fun x hx => ?_) (fun x hx => ?_)
  · rcases List.mem_cons.mp hx with rfl | hx
    · exact ⟨_, List.mem_cons_self, Int.le_refl _⟩
    · obtain ⟨g1, g2⟩ := List.mem_filter.mp hx
      rw [inN_iff] at g2
      by_cases e : x = n.b
      · exact ⟨n.b, List.mem_cons_self, by omega⟩
      · exact ⟨x, List.mem_cons_of_mem _ (List.mem_filter.mpr ⟨(h x (by omega) g2.2).mp g1, inN_iff.mpr g2⟩), Int.le_refl _⟩
  · rcases List.mem_cons.mp hx with rfl | hx
    · exact ⟨_, List.mem_cons_self, Int.le_refl _⟩
    · obtain ⟨g1, g2⟩ := List.mem_filter.mp hx
      rw [inN_iff] at g2
      by_cases e : x = n.b
      · exact ⟨n.b, List.mem_cons_self, by omega⟩
      · exact ⟨x, List.mem_cons_of_mem _ (List.mem_filter.mpr ⟨(h x (by omega) g2.2).mpr g1, inN_iff.mpr g2⟩), Int.le_refl _⟩
theorem hold_shift {U V : List Int} {n : N3} {d : Int} (h : ∀ t, n.b < t → t < n.e → (t + d ∈ U ↔ t ∈ V)) : hold U ⟨n.k, n.b + d, n.e + d⟩ = hold V n + d := by
  have : hold U ⟨n.k, n.b + d, n.e + d⟩ = hold (V.map (· + d)) ⟨n.k, n.b + d, n.e + d⟩ := hold_congr fun t h1 h2 => by
    have h1 : n.b + d < t := h1
    have h2 : t < n.e + d := h2
    have := h (t - d) (by omega) (by omega)
    rw [show t - d + d = t by omega] at this
    rw [this, List.mem_map]
    constructor
    · intro g; exact ⟨t - d, g, by omega⟩
    · rintro ⟨x, g, e⟩
      have : x = t - d := by omega
      rw [← this]; exact g
  rw [this]
  unfold hold
  have e : maxI ((n.b + d) :: (V.map (· + d)).filter (inN ⟨n.k, n.b + d, n.e + d⟩)) = maxI (n.b :: V.filter (inN n)) + d := by
    refine maxI_iff ?_ ?_
    · rcases List.mem_cons.mp (maxI_mem (List.cons_ne_nil n.b (V.filter (inN n)))) with e | e
      · rw [e]; exact List.mem_cons_self
      · obtain ⟨g1, g2⟩ := List.mem_filter.mp e
        rw [inN_iff] at g2
        refine List.mem_cons_of_mem _ (List.mem_filter.mpr ⟨List.mem_map.mpr ⟨_, g1, rfl⟩, inN_iff.mpr ?_⟩)
        show n.b + d ≤ _ ∧ _ < n.e + d
        omega
    · intro x hx
      rcases List.mem_cons.mp hx with rfl | hx
      · have := maxI_le (ns := n.b :: V.filter (inN n)) List.mem_cons_self
        omega
      · obtain ⟨g1, g2⟩ := List.mem_filter.mp hx
        obtain ⟨y, g3, rfl⟩ := List.mem_map.mp g1
        rw [inN_iff] at g2
        have g2 : n.b + d ≤ y + d ∧ y + d < n.e + d := g2
        have := maxI_le (ns := n.b :: V.filter (inN n)) (x := y) (List.mem_cons_of_mem _ (List.mem_filter.mpr ⟨g3, inN_iff.mpr (by omega)⟩))
        omega
  show 1 + maxI ((n.b + d) :: _) = 1 + maxI (n.b :: V.filter (inN n)) + d
  rw [e]; omega
theorem join_changes1 {p q : List N3} (hp : Piece p) (hq : Piece q) {t : Int} (h : t < lastEnd p) : t ∈ changesOf (joinOf p q) ↔ t ∈ changesOf p := by
  rw [mem_changes, mem_changes]
  have hm : ∀ n, n ∈ joinOf p q ↔ n ∈ p ∨ n ∈ later q (lastEnd p) := fun n => by
    unfold joinOf
    rw [(sortN_perm _).mem_iff, List.mem_append]
  have hl : ∀ n ∈ later q (lastEnd p), lastEnd p ≤ n.b ∧ n.b < n.e := fun n hn => by
    obtain ⟨m, hm, rfl⟩ := later_mem.mp hn
    have := (hq.bd m hm).2
    show lastEnd p ≤ m.b + lastEnd p ∧ m.b + lastEnd p < m.e + lastEnd p
    omega
  constructor
  · rintro ⟨h0, n, hn, e, hx⟩
    refine ⟨h0, n, ?_, e, fun ⟨m, g1, g2⟩ => hx ⟨m, (hm m).mpr (Or.inl g1), g2⟩⟩
    rcases (hm n).mp hn with g | g
    · exact g
    · have := hl n g; omega
  · rintro ⟨h0, n, hn, e, hx⟩
    refine ⟨h0, n, (hm n).mpr (Or.inl hn), e, fun ⟨m, g1, g2, g3⟩ => ?_⟩
    rcases (hm m).mp g1 with g | g
    · exact hx ⟨m, g, g2, g3⟩
    · have := hl m g; omega
theorem join_changes2 {p q : List N3} (hp : Piece p) (hq : Piece q) {t : Int} (h : 0 < t) (h60 : t + lastEnd p < 60) : t + lastEnd p ∈ changesOf (joinOf p q) ↔ t ∈ changesOf q := by
  rw [mem_changes, mem_changes]
  have h0 := lastEnd_nn p
  have hm : ∀ n, n ∈ joinOf p q ↔ n ∈ p ∨ n ∈ later q (lastEnd p) := fun n => by
    unfold joinOf
    rw [(sortN_perm _).mem_iff, List.mem_append]
  have hl : ∀ n ∈ p, n.e ≤ lastEnd p ∧ n.b < n.e := fun n hn => ⟨le_lastEnd hn, (hp.bd n hn).2.2.1⟩
  constructor
  · rintro ⟨_, n, hn, e, hx⟩
    rcases (hm n).mp hn with g | g
    · have := hl n g; omega
    · obtain ⟨m, g1, rfl⟩ := later_mem.mp g
      have e : m.e + lastEnd p = t + lastEnd p := e
      refine ⟨by omega, m, g1, by omega, fun ⟨m', k1, k2, k3⟩ => hx ⟨⟨m'.k, m'.b + lastEnd p, m'.e + lastEnd p⟩, (hm _).mpr (Or.inr (later_mem.mpr ⟨m', k1, rfl⟩)), ?_, k3⟩⟩
      show m'.b + lastEnd p = t + lastEnd p
      omega
  · rintro ⟨_, n, hn, e, hx⟩
    refine ⟨h60, ⟨n.k, n.b + lastEnd p, n.e + lastEnd p⟩, (hm _).mpr (Or.inr (later_mem.mpr ⟨n, hn, rfl⟩)), ?_, fun ⟨m, k1, k2, k3⟩ => ?_⟩
    · show n.e + lastEnd p = t + lastEnd p
      omega
    · rcases (hm m).mp k1 with g | g
      · have := hl m g; omega
      · obtain ⟨m', g1, rfl⟩ := later_mem.mp g
        have k2 : m'.b + lastEnd p = t + lastEnd p := k2
        exact hx ⟨m', g1, by omega, k3⟩
def lat (d : Int) (n : N3) : N3 := ⟨n.k, n.b + d, n.e + d⟩
/-- the strokes of both -/
theorem join_short {p q : List N3} (hp : Piece p) (hq : Piece q) (hl : lastEnd p + lastEnd q ≤ 60) : (short (changesOf (joinOf p q)) (joinOf p q)).Perm (short (changesOf p) p ++ (short (changesOf q) q).map (lat (lastEnd p))) := by
  have h1 : (joinOf p q).Perm (p ++ later q (lastEnd p)) := sortN_perm _
  have h2 := h1.map (shN (changesOf (joinOf p q)))
  unfold short
  refine h2.trans ?_
  rw [List.map_append]
  have e1 : p.map (shN (changesOf (joinOf p q))) = p.map (shN (changesOf p)) := List.map_congr_left fun n hn => by
    unfold shN
    rw [hold_congr (V := changesOf p) fun t g1 g2 => join_changes1 hp hq (by have := le_lastEnd hn; omega)]
  have e2 : (later q (lastEnd p)).map (shN (changesOf (joinOf p q))) = (q.map (shN (changesOf q))).map (lat (lastEnd p)) := by
    unfold later
    rw [List.map_map, List.map_map]
    refine List.map_congr_left fun n hn => ?_
    have hb := (hq.bd n hn).2
    have hle := le_lastEnd hn
    show (⟨n.k, n.b + lastEnd p, hold (changesOf (joinOf p q)) ⟨n.k, n.b + lastEnd p, n.e + lastEnd p⟩⟩ : N3) = ⟨n.k, n.b + lastEnd p, hold (changesOf q) n + lastEnd p⟩
    rw [hold_shift (V := changesOf q) fun t g1 g2 => join_changes2 hp hq (by omega) (by omega)]
  rw [e1, e2]
theorem lowr_lat (d : Int) (x y : N3) : lowr (lat d x) (lat d y) = lowr x y := by
  unfold lowr lat
  congr 1
  congr 1
  · exact decide_eq_decide.mpr (show x.b + d < y.e + d ↔ x.b < y.e by omega)
  · exact decide_eq_decide.mpr (show y.b + d < x.e + d ↔ y.b < x.e by omega)
theorem low_emb {xs ys zs : List N3} (h : ys.Perm (xs ++ zs)) (t : Int) : mostOf (lowS xs t) ≤ mostOf (lowS ys t) := most_of_cnt fun u => by
  have : (lowS ys t).Perm (lowS xs t ++ lowS zs t) := by
    unfold lowS
    rw [← List.filter_append]
    exact h.filter _
  rw [cnt_perm this, cnt_app]
  have := cnt_nn (lowS zs t) u
  omega
theorem high_emb {xs ys zs : List N3} (h : ys.Perm (xs ++ zs)) (t : Int) : mostOf (highS xs t) ≤ mostOf (highS ys t) := most_of_cnt fun u => by
  have : (highS ys t).Perm (highS xs t ++ highS zs t) := by
    unfold highS
    rw [← List.filter_append]
    exact h.filter _
  rw [cnt_perm this, cnt_app]
  have := cnt_nn (highS zs t) u
  omega
theorem each_emb {xs ys zs : List N3} (h : ys.Perm (xs ++ zs)) (hl : ys.length ≤ 40) (hk : ∀ s ∈ ys, s.k ≤ 88) : eachOf xs ≤ eachOf ys := by
  have hlx : xs.length ≤ 40 := by
    have := h.length_eq
    rw [List.length_append] at this
    omega
  have hkx : ∀ s ∈ xs, s.k ≤ 88 := fun s hs => hk s (h.mem_iff.mpr (List.mem_append_left _ hs))
  obtain ⟨h1, h2, _⟩ := each_spec hl hk
  obtain ⟨t, ht, hf⟩ := splits_ne.mp h2
  refine each_le hlx hkx h1 (splits_ne.mpr ⟨t, ht, ?_⟩)
  rw [fits_iff] at *
  have := low_emb h t
  have := high_emb h t
  omega
example : True := by
  have := @exec.eq_1
  have := @exec.eq_2
  have := @exec.eq_3
  have := @exec.eq_4
  have := @exec.eq_5
  have := @exec.eq_6
  have := @exec.eq_7
  have := @exec.eq_8
  have := @exec.eq_9
  have := @exec.eq_12
  have := @exec.eq_13
  have := @exec.eq_14
  have := @exec.eq_15
  have := @exec.eq_16
  have := @exec.eq_17
  have := @exec.eq_18
  have := @ev.eq_1
  have := @ev.eq_2
  have := @ev.eq_3
  have := @ev.eq_4
  have := @ev.eq_5
  have := @ev.eq_6
  have := @ev.eq_7
  have := @ev.eq_8
  have := @ev.eq_9
  have := @ev.eq_10
  have := @ev.eq_11
  have := @ev.eq_12
  have := @ev.eq_13
  have := @ev.eq_14
  have := @ev.eq_15
  have := @ev.eq_16
  have := @ev.eq_17
  have := @ev.eq_18
  have := @ev.eq_19
  have := @ev.eq_20
  have := @ev.eq_21
  have := @ev.eq_22
  have := @ev.eq_23
  have := @ev.eq_24
  have := @ev.eq_27
  trivial
local macro_rules | `(tactic| get_elem_tactic_extensible) => `(tactic| simp only [*, execs, exec.eq_1, exec.eq_2, exec.eq_3, exec.eq_4, exec.eq_5, exec.eq_6, exec.eq_7, exec.eq_8, exec.eq_9, exec.eq_12, exec.eq_13, exec.eq_14, exec.eq_15, exec.eq_16, exec.eq_17, exec.eq_18, ev.eq_1, ev.eq_2, ev.eq_3, ev.eq_4, ev.eq_5, ev.eq_6, ev.eq_7, ev.eq_8, ev.eq_9, ev.eq_10, ev.eq_11, ev.eq_12, ev.eq_13, ev.eq_14, ev.eq_15, ev.eq_16, ev.eq_17, ev.eq_18, ev.eq_19, ev.eq_20, ev.eq_21, ev.eq_22, ev.eq_23, ev.eq_24, ev.eq_27, evs, evI, evIv, evp, view, bor, okv, okv1, asg_vd, asg_vn, asg_vm, asg_vc, asg_vs, asg_on, asg_om, asg_cn, asgs_0, asgs_1, Res.bind_ok, Res.lift_some, nx_ok', ifB_b, bind_ite, ite_and, ite_or, ite_notand, List.isEmpty_nil, List.isEmpty_cons, Bool.true_or, Bool.false_or, Bool.or_true, Bool.or_false, Bool.true_and, Bool.and_true, Bool.not_true, Bool.not_false, if_true, Bool.false_eq_true, if_false, List.getD_eq_getElem?_getD, List.getElem?_cons_zero, List.getElem?_cons_succ, Option.getD_some, List.length_cons, List.length_nil, List.length_map, Nat.sub_self, Nat.reduceAdd, Nat.reduceSub, List.replicate, List.cons_append, List.nil_append, List.append_nil, List.map_cons, List.map_nil, fin1, fin_dat, fin_nw, fin_nwd, fin_next, fin_ite, take_self, bind_n3, bind_pr, bind_ePr, bind_nm, List.set_cons_zero, List.set_cons_succ, wipeD, gets, Vl.get, Vl.nrm, Option.map_some, notV_b, negV_i, bi_isInt, bi_isBool, bi_isTuple, ty_int_int, ty_int_bool, ty_bool_int, ty_bool_bool, ty_tup_tup, ty_n3, min_ii, max_ii, int_b, len_tup, len_list, len_nw, len_n3, all_nw, any_nw, max_nw, tup_nw, tup_list, list_tup, sorted_n3, sorted_n3L, sorted_ints, cmp_lt, cmp_le, cmp_gt, cmp_ge, cmp_eq, cmp_ne, cmp_memL, cmp_memT, cmp_nmemL, cmp_nmemT, cmp_nmemN, lt_n3, op_add, op_sub, idx_n0, idx_n1, idx_n2, idx_tup, idx_list, idx_nw, at_2_0, at_2_1, seq_tup, seq_list, seq_nw, fold_n3, zip_tt, zip_tl, zip_ll, zip_ln, slc_tail, slc_tailL, ends_t, ends_f, cast3, cast2, decide_true, decide_false, idx_scr, idx_cell, len_scr, take_set, at_3_0, at_3_1, at_3_2, ix_3_0, ix_3_1, List.all_cons, List.all_nil, noL, noLs, noLkv, Nat.reduceLT, mkD_f, dict_d, dget_encF, dput_encF, op_addN, max_ns, cmp_ne_nil, eq_self, eq_self, enu_0, bind_en4, bind_en2, op_addNL, noLs_ints, eq_self, is_tup_none, is_int_none, eq_self, idx_encF, noL_encF, cmp_ne_nilD, enuI_0, bind_enI, eq_n3t, ne_n3t, eq_self])
theorem require_count_i {T : Nat → Option Fn} (h0 : T 0 = some F.is_integer) (h : T 76 = some F.require_count) (l : Nat) (c : Int) (hc : 1 ≤ c ∧ c ≤ 40) (M : Mem) : callAt T (l + 2) 76 [.dat (.int c)] M = .ok (.dat .none) M := by
  rw [callAt_def h rfl]
  unfold F.require_count
  have e1 := is_integer_int h0 l c 1 40
  rw [decide_eq_true hc.1, decide_eq_true hc.2] at e1
  clear h h0 hc
  get_elem_tactic_extensible
theorem splits_n3 {T : Nat → Option Fn} (h0 : T 0 = some F.is_integer) (h1 : T 1 = some F.is_note) (h2 : T 2 = some F.is_piece) (h3 : T 3 = some F.require_piece) (h5 : T 5 = some F.struck_again) (h6 : T 6 = some F.changes_of) (h15 : T 15 = some F.most_at_once) (h19 : T 19 = some F.held_with) (h20 : T 20 = some F.strokes_with) (h92 : T 92 = some F.shortest_strokes) (h93 : T 93 = some F.splits_of) (h76 : T 76 = some F.require_count) (h : T 94 = some F.splits) (l : Nat) (p : List N3) (hp : Piece p) (L R : Int) (hL : 1 ≤ L ∧ L ≤ 40) (hR : 1 ≤ R ∧ R ≤ 40) (M : Mem) : callAt T (l + 5) 94 [eP p, .dat (.int L), .dat (.int R)] M = .ok (.nw ((splitsOf (short (changesOf p) p) L R).map .int)) M := by
  rw [callAt_def h rfl]
  unfold F.splits
  have e1 := require_piece_n3 h0 h1 h2 h3 l p hp.ok
  have e2 : ∀ M, callAt T (l + 4) 76 [.dat (.int L)] M = .ok (.dat .none) M := require_count_i h0 h76 (l + 2) L hL
  have e3 : ∀ M, callAt T (l + 4) 76 [.dat (.int R)] M = .ok (.dat .none) M := require_count_i h0 h76 (l + 2) R hR
  have e4 := splits_of_n3 h5 h6 h15 h19 h20 h92 h93 l p hp.len L R
  clear h h0 h1 h2 h3 h5 h6 h15 h19 h20 h92 h93 h76 hp hL hR
  unfold eP at *
  get_elem_tactic_extensible
theorem each_loop {cf : Nat → List Vl → Mem → Res Vl} {M : Mem} {c : Ex} {body : Stms} (S : List N3) (hS : S.length ≤ 40) (hk : ∀ s ∈ S, s.k ≤ 88) (st : Int → Rho)
    (hc : ∀ t, ev cf c (st t) M = .ok (.dat (.bool (decide (splitsOf S t t = [])))) M) (hb : ∀ t, execs cf body (st t) M = .ok (.next (st (t + 1))) M) : ∀ (d fuel : Nat) (t : Int), d < fuel → 40 ≤ t + d → wloop [] (fun ρ M => ev cf c (view ρ []) M) (fun ρ M => execs cf body ρ M) fuel (st t) M = .ok (.next (st (least S d t))) M
  | d, 0, t, h, _ => absurd h (Nat.not_lt_zero _)
  | 0, fuel + 1, t, h, h2 => by
    unfold wloop
    show (ev cf c (st t) M).bind _ = _
    have hne : splitsOf S t t ≠ [] := splits_ne.mpr ⟨88, by decide, by
      rw [fits_iff, lowS_all hk, highS_none hk]
      have := most_le_len S
      exact ⟨by omega, by have : mostOf [] = 0 := rfl; omega⟩⟩
    rw [hc t, decide_eq_false hne, Res.bind_ok, ifB_b]
    rfl
  | d + 1, fuel + 1, t, h, h2 => by
    unfold wloop
    show (ev cf c (st t) M).bind _ = _
    rw [hc t, Res.bind_ok, ifB_b]
    unfold least
    by_cases g : splitsOf S t t = []
    · rw [if_pos (decide_eq_true g), if_pos g, hb t, Res.bind_ok]
      exact each_loop S hS hk st hc hb d fuel (t + 1) (by omega) (by omega)
    · rw [if_neg (by simpa using g), if_neg g]
theorem eq_nn_nil {xs : List Int} : cmpV .eq (.nw (xs.map .int)) (.nw []) = some (.dat (.bool (decide (xs = [])))) := cmp_nn (En.int.list.eq (by decide) xs [])
theorem fewest_each_n3 {T : Nat → Option Fn} (h0 : T 0 = some F.is_integer) (h1 : T 1 = some F.is_note) (h2 : T 2 = some F.is_piece) (h3 : T 3 = some F.require_piece) (h5 : T 5 = some F.struck_again) (h6 : T 6 = some F.changes_of) (h15 : T 15 = some F.most_at_once) (h19 : T 19 = some F.held_with) (h20 : T 20 = some F.strokes_with) (h92 : T 92 = some F.shortest_strokes) (h93 : T 93 = some F.splits_of) (h : T 95 = some F.fewest_each) (l : Nat) (p : List N3) (hp : Piece p) (M : Mem) : callAt T (l + 5) 95 [eP p] M = .ok (.dat (.int (eachOf (short (changesOf p) p)))) M := by
  rw [callAt_def h rfl]
  unfold F.fewest_each
  have e1 := require_piece_n3 h0 h1 h2 h3 l p hp.ok
  have e4 := fun c => splits_of_n3 h5 h6 h15 h19 h20 h92 h93 l p hp.len c c
  have hlen : (short (changesOf p) p).length ≤ 40 := (hp.short _).len
  have hk : ∀ s ∈ short (changesOf p) p, s.k ≤ 88 := fun s hs => ((hp.short _).bd s hs).1.2
  clear h h0 h1 h2 h3 h5 h6 h15 h19 h20 h92 h93 hp
  generalize short (changesOf p) p = S at *
  unfold eP at *
  have hn := @eq_nn_nil
  have hw : exec (callAt T (l + 4)) (.wh [] [] (.cmp .eq (.call 93 (.cons (.var 0) (.cons (.var 1) (.cons (.var 1) .nil)))) (.lst .nil)) (.cons (.set [] .val 1 (.op .add (.var 1) (.cst (.int 1)))) .nil)) [.dat (.tuple (p.map eN)), .dat (.int 1)] M = .ok (.next [.dat (.tuple (p.map eN)), .dat (.int (eachOf S))]) M := by
    rw [exec_wh]
    exact each_loop S hlen hk (fun t => [.dat (.tuple (p.map eN)), .dat (.int t)]) (fun t => by
      have e5 := e4 t
      clear e4 e1 hk hlen
      get_elem_tactic_extensible) (fun t => by clear e4 e1 hk hlen hn; get_elem_tactic_extensible) 40 FUEL 1 (by unfold FUEL; omega) (by omega)
  clear e4 hn hk hlen
  get_elem_tactic_extensible
theorem last_end_n3 {T : Nat → Option Fn} (h : T 55 = some F.last_end) (l : Nat) (p : List N3) (hp : p.length ≤ 1000) (M : Mem) : callAt T (l + 1) 55 [eP p] M = .ok (.dat (.int (lastEnd p))) M := by
  rw [callAt_def h rfl]
  unfold F.last_end eP
  clear h
  have hlim : lim = 16777216 := by decide
  have h1 : 1 + p.length ≤ lim := by rw [hlim]; omega
  clear hlim hp
  have e := max_nw (n := 0) (ns := p.map N3.e)
  get_elem_tactic_extensible
  rw [comp_all (own := [1, 2, 3]) eN N3.e .int p (by get_elem_tactic_extensible) (fun a _ => by get_elem_tactic_extensible)]
  get_elem_tactic_extensible
  rfl
theorem joined_n3 {T : Nat → Option Fn} (h0 : T 0 = some F.is_integer) (h1 : T 1 = some F.is_note) (h2 : T 2 = some F.is_piece) (h3 : T 3 = some F.require_piece) (h55 : T 55 = some F.last_end) (h : T 84 = some F.joined) (l : Nat) (p q : List N3) (hp : Piece p) (hq : Piece q) (hl : lastEnd p + lastEnd q ≤ 60) (hn : p.length + q.length ≤ 40) (M : Mem) : callAt T (l + 5) 84 [eP p, eP q] M = .ok (eP (joinOf p q)) M := by
  rw [callAt_def h rfl]
  unfold F.joined
  have e1 := require_piece_n3 h0 h1 h2 h3 l p hp.ok
  have e2 := require_piece_n3 h0 h1 h2 h3 l q hq.ok
  have e3 := last_end_n3 h55 (l + 3) p (by have := hp.len; omega)
  have e4 := last_end_n3 h55 (l + 3) q (by have := hq.len; omega)
  have hlim : lim = 16777216 := by decide
  have g1 : p.length + q.length ≤ lim := by rw [hlim]; omega
  have g2 : decide (lastEnd p + lastEnd q > 60) = false := decide_eq_false (by omega)
  have g3 : decide ((p.length : Int) + (q.length : Int) > 40) = false := decide_eq_false (by omega)
  have hj : joinOf p q = sortN (p ++ later q (lastEnd p)) := rfl
  clear h h0 h1 h2 h3 h55 hp hq hl hn hlim
  unfold eP at *
  get_elem_tactic_extensible
  rw [comp_all (own := [4, 5, 6]) eN (fun n => (⟨n.k, n.b + lastEnd p, n.e + lastEnd p⟩ : N3)) eN q (by clear e1 e2 e3 e4 hj; get_elem_tactic_extensible) (fun a _ => by clear e1 e2 e3 e4 hj; get_elem_tactic_extensible)]
  have hla : (q.map fun n => (⟨n.k, n.b + lastEnd p, n.e + lastEnd p⟩ : N3)) = later q (lastEnd p) := rfl
  rw [hla]
  have g4 : (later q (lastEnd p)).length = q.length := List.length_map _
  generalize later q (lastEnd p) = q2 at *
  have g5 : opV .add (.nw (p.map eN)) (.dat (.list (q2.map eN))) = some (.nw ((p ++ q2).map eN)) := by
    rw [op_addNL, List.length_map, List.length_map, g4, if_pos g1, List.map_append]
  clear g4 hla g1
  get_elem_tactic_extensible
end Co
end

section
set_option Elab.async false
set_option linter.all false
set_option maxRecDepth 100000
set_option maxHeartbeats 1000000
namespace Co
open PySem
/-! pedals told back -/
theorem slc_kb {n : N3} : slcV (.dat (eN n)) none (some 2) = some (.dat (.tuple [.int n.k, .int n.b])) := rfl
def eKB (q : Int × Int) : Dt := .tuple [.int q.1, .int q.2]
theorem fold_kb {a b : Int} : PyData.tuple [.int a, .int b] = eKB (a, b) := rfl
def kbOf (n : N3) : Int × Int := (n.k, n.b)
theorem En.kb : En eKB 1 := ⟨fun a => by simp [eKB, PyData.canLay0, PyData.canLayAll0], fun a => by simp [eKB, PyData.depth, PyData.depthAll], fun a b => by
  cases a; cases b
  simp [eKB, PyData.eqv, PyData.eqvAll]⟩
theorem ne_kb {xs ys : List (Int × Int)} : cmpV .ne (.nw (xs.map eKB)) (.nw (ys.map eKB)) = some (.dat (.bool (!decide (xs = ys)))) := cmp_nn (En.kb.list.ne (by decide) xs ys)
def rg (a b : Int) : List Int := (List.range (b - a).toNat).map fun k : Nat => (a + k : Int)
theorem rg_mem {a b z : Int} : z ∈ rg a b ↔ a ≤ z ∧ z < b := by
  unfold rg
  rw [List.mem_map]
  constructor
  · rintro ⟨k, hk, rfl⟩
    rw [List.mem_range] at hk
    omega
  · intro h
    exact ⟨(z - a).toNat, List.mem_range.mpr (by omega), by omega⟩
theorem rg_len (a b : Int) : (rg a b).length = (b - a).toNat := by unfold rg; rw [List.length_map, List.length_range]
theorem rng_rg {a b : Int} (ha : 0 ≤ a ∧ a ≤ 1000) (hb : 0 ≤ b ∧ b ≤ 1000) : rng a b = some ((rg a b).map .int) := by
  rw [rng_nn (by omega) (by omega)]
  unfold rg
  rw [List.map_map]
  rfl
theorem op_addLN {xs ys : List Dt} : opV .add (.dat (.list xs)) (.nw ys) = if xs.length + ys.length ≤ lim then some (.nw (xs ++ ys)) else none := rfl
theorem op_addLL {xs ys : List Dt} : opV .add (.dat (.list xs)) (.dat (.list ys)) = if xs.length + ys.length ≤ lim then some (.nw (xs ++ ys)) else none := rfl
theorem sorted_intsL {ns : List Int} : biV .sorted [.dat (.list (ns.map .int))] = some (.nw ((sortI ns).map .int)) := by
  show sortedD [.list (ns.map .int)] = _
  simp only [sortedD]
  rw [ints_map]
theorem zip_fs {α β : Type} : ∀ Z : List (α × β), (Z.map Prod.fst).zip (Z.map Prod.snd) = Z
  | [] => rfl
  | z :: Z => by rw [List.map_cons, List.map_cons, List.zip_cons_cons, zip_fs Z]
abbrev Prs := List (N3 × N3)
def Kb (Z : Prs) : Prop := ∀ z ∈ Z, z.1.k = z.2.k ∧ z.1.b = z.2.b
def downs (Z : Prs) : List Int := Z.flatMap fun z => rg z.2.e z.1.e
theorem downs_mem {Z : Prs} {t : Int} : t ∈ downs Z ↔ ∃ z ∈ Z, z.2.e ≤ t ∧ t < z.1.e := by
  unfold downs
  rw [List.mem_flatMap]
  exact ⟨fun ⟨z, h, g⟩ => ⟨z, h, rg_mem.mp g⟩, fun ⟨z, h, g⟩ => ⟨z, h, rg_mem.mpr g⟩⟩
theorem downs_len : ∀ Z : Prs, (∀ z ∈ Z, 0 ≤ z.2.e ∧ z.1.e ≤ 60) → (downs Z).length ≤ 60 * Z.length
  | [], _ => by simp [downs]
  | z :: Z, h => by
    have ih := downs_len Z fun y hy => h y (List.mem_cons_of_mem _ hy)
    have h1 := h z List.mem_cons_self
    unfold downs at *
    rw [List.flatMap_cons, List.length_append, rg_len, List.length_cons]
    omega
theorem Kb.map {Z : Prs} (h : Kb Z) : (Z.map Prod.fst).map kbOf = (Z.map Prod.snd).map kbOf := by
  rw [List.map_map, List.map_map]
  refine List.map_congr_left fun z hz => ?_
  have := h z hz
  show (z.1.k, z.1.b) = (z.2.k, z.2.b)
  rw [this.1, this.2]
def over (Z : Prs) : Bool := Z.any fun z => decide (z.2.e > z.1.e)
def clash (Z : Prs) (p : List N3) : List Int := (downs Z).filter fun t => decide (t ∈ changesOf p)
def toldV (Z : Prs) (p : List N3) : Vl := if over Z = true then .dat .none else if clash Z p = [] then .dat (.tuple [.list ((srtU (downs Z)).map .int), .list ((changesOf p).map .int)]) else .dat .none
theorem srtU_bd {xs : List Int} (h : ∀ t ∈ xs, 0 ≤ t ∧ t ≤ 59) : (srtU xs).length < 64 := by
  have := inc_len (srtU xs) (-1) (srtU_lt xs) (M := 59) (by decide) fun x hx => by
    have := h x ((srtU_mem x xs).mp hx)
    omega
  omega
theorem ped_sort {xs : List Int} (hn : xs.Nodup) (hb : ∀ t ∈ xs, 0 ≤ t ∧ t ≤ 59) : Ped (sortI xs) := by
  refine ⟨fun t ht => hb t ((sortI_perm xs).mem_iff.mp ht), ?_⟩
  have h1 : (sortI xs).Nodup := (sortI_perm xs).nodup_iff.mpr hn
  refine ((sortI_sorted xs).and h1).imp ?_
  intro a b ⟨q1, q2⟩
  omega
/-- which pedals sound as the piece -/
theorem told_iff {Z : Prs} (hk : Kb Z) (hp : Piece (Z.map Prod.fst)) (hS : Piece (Z.map Prod.snd)) (hle : ∀ z ∈ Z, z.2.e ≤ z.1.e) (hcl : clash Z (Z.map Prod.fst) = []) (Q : List Int) :
    sound Q (Z.map Prod.snd) = Z.map Prod.fst ↔ (∀ t ∈ downs Z, t ∈ Q) ∧ ∀ t ∈ changesOf (Z.map Prod.fst), t ∉ Q := by
  have hend : sound Q (Z.map Prod.snd) = Z.map Prod.fst ↔ ∀ z ∈ Z, endOf Q (Z.map Prod.snd) z.2 = z.1.e := by
    rw [sound_map, List.map_map]
    constructor
    · intro h z hz
      obtain ⟨i, hi, rfl⟩ := List.mem_iff_getElem.mp hz
      have e := congrArg (fun l => l[i]?) h
      simp only [List.getElem?_map, List.getElem?_eq_getElem hi, Option.map_some, Option.some.injEq, Function.comp_apply] at e
      exact congrArg N3.e e
    · intro h
      refine List.map_congr_left fun z hz => ?_
      have := hk z hz
      show (⟨z.2.k, z.2.b, endOf Q (Z.map Prod.snd) z.2⟩ : N3) = z.1
      rw [h z hz, ← this.1, ← this.2]
  rw [hend]
  have hm1 : ∀ z ∈ Z, z.1 ∈ Z.map Prod.fst := fun z hz => List.mem_map.mpr ⟨z, hz, rfl⟩
  have hm2 : ∀ z ∈ Z, z.2 ∈ Z.map Prod.snd := fun z hz => List.mem_map.mpr ⟨z, hz, rfl⟩
  constructor
  · intro h
    constructor
    · intro t ht
      obtain ⟨z, hz, h1, h2⟩ := downs_mem.mp ht
      have hb := (hS.bd z.2 (hm2 z hz)).2
      have hs := (endOf_spec (P := Q) (S := Z.map Prod.snd) (s := z.2) hb.2.2).2.1 t h1 (by rw [h z hz]; exact h2)
      exact (goes_iff.mp hs).2.1
    · intro t ht htQ
      obtain ⟨h60, n, hn, e, hx⟩ := mem_changes.mp ht
      obtain ⟨z, hz, rfl⟩ := List.mem_map.mp hn
      have hb := (hS.bd z.2 (hm2 z hz)).2
      have hs := (endOf_spec (P := Q) (S := Z.map Prod.snd) (s := z.2) hb.2.2).2.2
      rw [h z hz, e] at hs
      have : goes Q (Z.map Prod.snd) z.2 t = true := goes_iff.mpr ⟨h60, htQ, fun ⟨m, k1, k2, k3, k4⟩ => by
        obtain ⟨y, hy, rfl⟩ := List.mem_map.mp k1
        have g1 := hk y hy
        have g2 := hk z hz
        exact hx ⟨y.1, hm1 y hy, by omega, by omega⟩⟩
      rw [this] at hs; cases hs
  · rintro ⟨h1, h2⟩ z hz
    have hb := (hS.bd z.2 (hm2 z hz)).2
    have hb1 := (hp.bd z.1 (hm1 z hz)).2
    have hzz := hk z hz
    unfold endOf
    refine endF_eq _ _ (hle z hz) (by omega) (fun u g1 g2 => ?_) ?_
    · refine goes_iff.mpr ⟨by omega, h1 u (downs_mem.mpr ⟨z, hz, g1, g2⟩), fun ⟨m, k1, k2, k3, k4⟩ => ?_⟩
      obtain ⟨y, hy, rfl⟩ := List.mem_map.mp k1
      have hy1 := hk y hy
      have hyb := (hp.bd y.1 (hm1 y hy)).2
      rcases hp.apart (hm1 y hy) (hm1 z hz) (by omega) with e | e | e
      · have : y.1.b = z.1.b := by rw [e]
        omega
      · omega
      · omega
    · by_cases h60 : z.1.e < 60
      · by_cases hc : z.1.e ∈ changesOf (Z.map Prod.fst)
        · cases g : goes Q (Z.map Prod.snd) z.2 z.1.e with
          | false => rfl
          | true => exact absurd (goes_iff.mp g).2.1 (h2 _ hc)
        · have : ∃ m ∈ Z.map Prod.fst, m.b = z.1.e ∧ m.k = z.1.k := by
            by_cases hx : ∃ m ∈ Z.map Prod.fst, m.b = z.1.e ∧ m.k = z.1.k
            · exact hx
            · exact absurd (mem_changes.mpr ⟨h60, z.1, hm1 z hz, rfl, hx⟩) hc
          obtain ⟨m, k1, k2, k3⟩ := this
          obtain ⟨y, hy, rfl⟩ := List.mem_map.mp k1
          have hy1 := hk y hy
          have hle' := hle z hz
          cases g : goes Q (Z.map Prod.snd) z.2 z.1.e with
          | false => rfl
          | true => exact absurd ⟨y.2, hm2 y hy, by omega, by omega, by omega⟩ (goes_iff.mp g).2.2
      · cases g : goes Q (Z.map Prod.snd) z.2 z.1.e with
        | false => rfl
        | true => exact absurd (goes_iff.mp g).1 h60
/-- a sound tells its own pedal -/
theorem sound_told {P : List Int} {S : List N3} (hS : Piece S) : (∀ t ∈ downs (S.map fun s => (nOf P S s, s)), t ∈ P) ∧ ∀ t ∈ changesOf (sound P S), t ∉ P := by
  constructor
  · intro t ht
    obtain ⟨z, hz, h1, h2⟩ := downs_mem.mp ht
    obtain ⟨s, hs, rfl⟩ := List.mem_map.mp hz
    have hb := (hS.bd s hs).2
    exact (goes_iff.mp ((endOf_spec (P := P) (S := S) (s := s) hb.2.2).2.1 t h1 h2)).2.1
  · intro t ht htP
    obtain ⟨h60, n, hn, e, hx⟩ := mem_changes.mp ht
    rw [sound_map] at hn hx
    obtain ⟨s, hs, rfl⟩ := List.mem_map.mp hn
    have hb := (hS.bd s hs).2
    have hg := (endOf_spec (P := P) (S := S) (s := s) hb.2.2).2.2
    have e : endOf P S s = t := e
    rw [e] at hg
    have : goes P S s t = true := goes_iff.mpr ⟨h60, htP, fun ⟨m, k1, k2, k3, k4⟩ => hx ⟨nOf P S m, List.mem_map.mpr ⟨m, k1, rfl⟩, k4, k2⟩⟩
    rw [this] at hg; cases hg
example : True := by
  have := @exec.eq_1
  have := @exec.eq_2
  have := @exec.eq_3
  have := @exec.eq_4
  have := @exec.eq_5
  have := @exec.eq_6
  have := @exec.eq_7
  have := @exec.eq_8
  have := @exec.eq_9
  have := @exec.eq_12
  have := @exec.eq_13
  have := @exec.eq_14
  have := @exec.eq_15
  have := @exec.eq_16
  have := @exec.eq_17
  have := @exec.eq_18
  have := @ev.eq_1
  have := @ev.eq_2
  have := @ev.eq_3
  have := @ev.eq_4
  have := @ev.eq_5
  have := @ev.eq_6
  have := @ev.eq_7
  have := @ev.eq_8
  have := @ev.eq_9
  have := @ev.eq_10
  have := @ev.eq_11
  have := @ev.eq_12
  have := @ev.eq_13
  have := @ev.eq_14
  have := @ev.eq_15
  have := @ev.eq_16
  have := @ev.eq_17
  have := @ev.eq_18
  have := @ev.eq_19
  have := @ev.eq_20
  have := @ev.eq_21
  have := @ev.eq_22
  have := @ev.eq_23
  have := @ev.eq_24
  have := @ev.eq_27
  trivial
local macro_rules | `(tactic| get_elem_tactic_extensible) => `(tactic| simp only [*, execs, exec.eq_1, exec.eq_2, exec.eq_3, exec.eq_4, exec.eq_5, exec.eq_6, exec.eq_7, exec.eq_8, exec.eq_9, exec.eq_12, exec.eq_13, exec.eq_14, exec.eq_15, exec.eq_16, exec.eq_17, exec.eq_18, ev.eq_1, ev.eq_2, ev.eq_3, ev.eq_4, ev.eq_5, ev.eq_6, ev.eq_7, ev.eq_8, ev.eq_9, ev.eq_10, ev.eq_11, ev.eq_12, ev.eq_13, ev.eq_14, ev.eq_15, ev.eq_16, ev.eq_17, ev.eq_18, ev.eq_19, ev.eq_20, ev.eq_21, ev.eq_22, ev.eq_23, ev.eq_24, ev.eq_27, evs, evI, evIv, evp, view, bor, okv, okv1, asg_vd, asg_vn, asg_vm, asg_vc, asg_vs, asg_on, asg_om, asg_cn, asgs_0, asgs_1, Res.bind_ok, Res.lift_some, nx_ok', ifB_b, bind_ite, ite_and, ite_or, ite_notand, List.isEmpty_nil, List.isEmpty_cons, Bool.true_or, Bool.false_or, Bool.or_true, Bool.or_false, Bool.true_and, Bool.and_true, Bool.not_true, Bool.not_false, if_true, Bool.false_eq_true, if_false, List.getD_eq_getElem?_getD, List.getElem?_cons_zero, List.getElem?_cons_succ, Option.getD_some, List.length_cons, List.length_nil, List.length_map, Nat.sub_self, Nat.reduceAdd, Nat.reduceSub, List.replicate, List.cons_append, List.nil_append, List.append_nil, List.map_cons, List.map_nil, fin1, fin_dat, fin_nw, fin_nwd, fin_next, fin_ite, take_self, bind_n3, bind_pr, bind_ePr, bind_nm, List.set_cons_zero, List.set_cons_succ, wipeD, gets, Vl.get, Vl.nrm, Option.map_some, notV_b, negV_i, bi_isInt, bi_isBool, bi_isTuple, ty_int_int, ty_int_bool, ty_bool_int, ty_bool_bool, ty_tup_tup, ty_n3, min_ii, max_ii, int_b, len_tup, len_list, len_nw, len_n3, all_nw, any_nw, max_nw, tup_nw, tup_list, list_tup, sorted_n3, sorted_n3L, sorted_ints, cmp_lt, cmp_le, cmp_gt, cmp_ge, cmp_eq, cmp_ne, cmp_memL, cmp_memT, cmp_nmemL, cmp_nmemT, cmp_nmemN, lt_n3, op_add, op_sub, idx_n0, idx_n1, idx_n2, idx_tup, idx_list, idx_nw, at_2_0, at_2_1, seq_tup, seq_list, seq_nw, fold_n3, zip_tt, zip_tl, zip_ll, zip_ln, slc_tail, slc_tailL, ends_t, ends_f, cast3, cast2, decide_true, decide_false, idx_scr, idx_cell, len_scr, take_set, at_3_0, at_3_1, at_3_2, ix_3_0, ix_3_1, List.all_cons, List.all_nil, noL, noLs, noLkv, Nat.reduceLT, mkD_f, dict_d, dget_encF, dput_encF, op_addN, max_ns, cmp_ne_nil, eq_self, eq_self, enu_0, bind_en4, bind_en2, op_addNL, noLs_ints, eq_self, is_tup_none, is_int_none, eq_self, idx_encF, noL_encF, cmp_ne_nilD, enuI_0, bind_enI, eq_n3t, ne_n3t, eq_self, slc_kb, fold_kb, ne_kb, sorted_intsL])
theorem pedal_told_no {T : Nat → Option Fn} (h0 : T 0 = some F.is_integer) (h1 : T 1 = some F.is_note) (h2 : T 2 = some F.is_piece) (h3 : T 3 = some F.require_piece) (h12 : T 12 = some F.require_strokes) (h : T 26 = some F.pedal_told) (l : Nat) (p S : List N3) (hp : Piece p) (hS : Piece S) (hne : p.map kbOf ≠ S.map kbOf) (M : Mem) : callAt T (l + 5) 26 [eP p, eP S] M = .ok (.dat .none) M := by
  rw [callAt_def h rfl]
  unfold F.pedal_told
  have e1 := require_piece_n3 h0 h1 h2 h3 l p hp.ok
  have e2 := require_strokes_n3 h0 h1 h2 h12 l S hS.ok
  have e3 := ne_kb (xs := p.map kbOf) (ys := S.map kbOf)
  rw [decide_eq_false hne] at e3
  clear h h0 h1 h2 h3 h12 hp hS hne
  unfold eP at *
  get_elem_tactic_extensible
  rw [comp_all (own := [4]) eN kbOf eKB p (by clear e1 e2 e3; get_elem_tactic_extensible) (fun a _ => by clear e1 e2 e3; get_elem_tactic_extensible; rfl)]
  get_elem_tactic_extensible
  rw [comp_all (own := [5]) eN kbOf eKB S (by clear e1 e2 e3; get_elem_tactic_extensible) (fun a _ => by clear e1 e2 e3; get_elem_tactic_extensible; rfl)]
  get_elem_tactic_extensible
theorem pedal_told_n3 {T : Nat → Option Fn} (h0 : T 0 = some F.is_integer) (h1 : T 1 = some F.is_note) (h2 : T 2 = some F.is_piece) (h3 : T 3 = some F.require_piece) (h5 : T 5 = some F.struck_again) (h6 : T 6 = some F.changes_of) (h12 : T 12 = some F.require_strokes) (h : T 26 = some F.pedal_told) (l : Nat) (Z : Prs) (hk : Kb Z) (hp : Piece (Z.map Prod.fst)) (hS : Piece (Z.map Prod.snd)) (M : Mem) : callAt T (l + 5) 26 [eP (Z.map Prod.fst), eP (Z.map Prod.snd)] M = .ok (toldV Z (Z.map Prod.fst)) M := by
  have key : Ok (callAt T (l + 5) 26 [eP (Z.map Prod.fst), eP (Z.map Prod.snd)] M) fun v M' => v = toldV Z (Z.map Prod.fst) ∧ M' = M := by
    rw [callAt_def h rfl]
    unfold F.pedal_told
    have e1 := require_piece_n3 h0 h1 h2 h3 l _ hp.ok
    have e2 := require_strokes_n3 h0 h1 h2 h12 l _ hS.ok
    have e4 := changes_of_n3 h5 h6 (l + 2) _ hp.len
    have e3 := ne_kb (xs := (Z.map Prod.fst).map kbOf) (ys := (Z.map Prod.snd).map kbOf)
    rw [decide_eq_true hk.map] at e3
    have hb1 : ∀ z ∈ Z, 0 ≤ z.1.e ∧ z.1.e ≤ 60 := fun z hz => by
      have := (hp.bd z.1 (List.mem_map.mpr ⟨z, hz, rfl⟩)).2
      omega
    have hb2 : ∀ z ∈ Z, 0 ≤ z.2.e ∧ z.2.e ≤ 60 := fun z hz => by
      have := (hS.bd z.2 (List.mem_map.mpr ⟨z, hz, rfl⟩)).2
      omega
    have hlen : Z.length ≤ 40 := by have := hp.len; rwa [List.length_map] at this
    have hz := zip_fs Z
    clear h h0 h1 h2 h3 h5 h6 h12 hp hS hk
    generalize hU : changesOf (Z.map Prod.fst) = U at *
    generalize hP : Z.map Prod.fst = p at *
    generalize hSS : Z.map Prod.snd = S at *
    unfold eP at *
    clear hP hSS
    get_elem_tactic_extensible
    rw [comp_all (own := [4]) eN kbOf eKB p (by clear e1 e2 e3 e4 hz hU; get_elem_tactic_extensible) (fun a _ => by clear e1 e2 e3 e4 hz hU; get_elem_tactic_extensible; rfl)]
    get_elem_tactic_extensible
    rw [comp_all (own := [5]) eN kbOf eKB S (by clear e1 e2 e3 e4 hz hU; get_elem_tactic_extensible) (fun a _ => by clear e1 e2 e3 e4 hz hU; get_elem_tactic_extensible; rfl)]
    get_elem_tactic_extensible
    clear e1 e2 e3 e4
    rw [Ok_fin, Ok_bind, exec_fr (M' := M) (ePr eN eN) Z (by clear hU; get_elem_tactic_extensible)]
    refine (Ok_flp (ePr eN eN) Z (fun pre ρ M' => M' = M ∧ ρ = [.dat (.tuple (p.map eN)), .dat (.tuple (S.map eN)), .dat (.list ((downs pre).map .int)), .dat (.list (U.map .int)), .und, .und, .und] ∧ ∀ z ∈ pre, z.2.e ≤ z.1.e) (fun v M' => M' = M ∧ v = .dat .none ∧ over Z = true) ?step _ [] _ _ rfl ⟨rfl, rfl, fun z h => by cases h⟩).imp ?fin
    case fin =>
      intro f M' hf
      cases f with
      | ret v =>
        obtain ⟨rfl, rfl, ho⟩ := hf
        show Vl.dat .none = toldV Z p ∧ M'.take M'.length = M'
        exact ⟨by unfold toldV; rw [if_pos ho], take_self⟩
      | next ρ =>
        obtain ⟨rfl, rfl, hle⟩ := hf
        have ho : over Z = false := by
          unfold over
          rw [List.any_eq_false]
          intro z hz
          have := hle z hz
          simp only [decide_eq_true_eq]
          omega
        have hs := srt_gen (ns := downs Z) (v := .dat (.list ((downs Z).map .int))) rfl (by have := downs_len Z fun z hz => ⟨(hb2 z hz).1, (hb1 z hz).2⟩; omega) (srtU_bd fun t ht => by
          obtain ⟨z, hz, g1, g2⟩ := downs_mem.mp ht
          have := hb1 z hz
          have := hb2 z hz
          omega)
        have hc : (downs Z).filter (fun t => decide (t ∈ U)) = clash Z p := by unfold clash; rw [hU]
        have hv : toldV Z p = if clash Z p = [] then .dat (.tuple [.list ((srtU (downs Z)).map .int), .list (U.map .int)]) else .dat .none := by
          unfold toldV
          rw [ho, hU, if_neg (by decide)]
        rw [hv]
        clear hb1 hb2 hlen hz hle ho hv
        generalize downs Z = D at *
        get_elem_tactic_extensible
        rw [comp_map (own := [6]) .int (fun t => decide (t ∈ U)) id .int D (by clear hs hc hU; get_elem_tactic_extensible) (fun a _ => by clear hs hc hU; get_elem_tactic_extensible; rfl), List.map_id, hc]
        by_cases hn : clash Z p = []
        · rw [if_pos hn, hn]
          have w := cmp_ne_nil (xs := [])
          simp only [List.map_nil, decide_true, Bool.not_true] at w
          clear hn hc hU
          get_elem_tactic_extensible
          exact ⟨rfl, take_self⟩
        · rw [if_neg hn]
          have w := decide_eq_false hn
          clear hn hc hU
          get_elem_tactic_extensible
          exact ⟨rfl, take_self⟩
    case step =>
      intro pre post z ρ M' he ⟨rfl, hρ, hle⟩
      subst hρ
      have hzZ : z ∈ Z := by rw [he]; simp
      have h1 := hb1 z hzZ
      have h2 := hb2 z hzZ
      have hr := rng_rg (a := z.2.e) (b := z.1.e) (by omega) (by omega)
      have hd : downs (pre ++ [z]) = downs pre ++ rg z.2.e z.1.e := by unfold downs; simp
      have hl1 := downs_len pre fun y hy => by
        have hy : y ∈ Z := by rw [he]; simp [hy]
        exact ⟨(hb2 y hy).1, (hb1 y hy).2⟩
      have hl2 : pre.length ≤ 40 := by
        have : Z.length = (pre ++ z :: post).length := by rw [← he]
        rw [List.length_append] at this
        omega
      have hadd : opV .add (.dat (.list ((downs pre).map .int))) (.nw ((rg z.2.e z.1.e).map .int)) = some (.nw ((downs (pre ++ [z])).map .int)) := by
        have hlim : lim = 16777216 := by decide
        rw [op_addLN, List.length_map, List.length_map, rg_len, if_pos (by rw [hlim]; omega), hd, List.map_append]
      by_cases hc : z.2.e > z.1.e
      · have hc' := decide_eq_true hc
        have ho : over Z = true := by
          unfold over
          rw [List.any_eq_true]
          exact ⟨z, hzZ, hc'⟩
        clear hb1 hb2 hlen hz hle hl1 hl2 hd hU h1 h2 he hc hadd hr
        get_elem_tactic_extensible
        exact ⟨rfl, rfl, trivial⟩
      · have hc' := decide_eq_false hc
        have hle' : ∀ y ∈ pre ++ [z], y.2.e ≤ y.1.e := fun y hy => by
          rcases List.mem_append.mp hy with hy | hy
          · exact hle y hy
          · rw [List.mem_singleton] at hy; subst hy; omega
        clear hb1 hb2 hlen hz hle hl1 hl2 hd hU h1 h2 he hc
        get_elem_tactic_extensible
        exact ⟨rfl, rfl, hle'⟩
  obtain ⟨v, M', e, rfl, rfl⟩ := key.get
  exact e
end Co
end

section
set_option Elab.async false
set_option maxRecDepth 100000
set_option linter.all false
namespace R
open Co PySem L2
def top (i : Nat) : PySem.Stmt := PySem.Challenge.pw_pedalholds_k13_whole_splits_of_hands.main.body.getD i (.Pass ⟨0, 0, 0, 0⟩)
def d_is_integer : Df := ⟨0, "is_integer", top 8, ["value", "low", "high"], ["value", "low", "high"], F.is_integer⟩
def d_is_note : Df := ⟨1, "is_note", top 9, ["value"], ["value"], F.is_note⟩
def d_is_piece : Df := ⟨2, "is_piece", top 10, ["value", "pairs", "one", "other", "note"], ["value"], F.is_piece⟩
def d_require_piece : Df := ⟨3, "require_piece", top 11, ["value"], ["value"], F.require_piece⟩
def d_struck_again : Df := ⟨5, "struck_again", top 12, ["piece", "note", "key", "begin", "end"], ["piece", "note"], F.struck_again⟩
def d_changes_of : Df := ⟨6, "changes_of", top 13, ["piece", "note"], ["piece"], F.changes_of⟩
def d_most_at_once : Df := ⟨15, "most_at_once", top 15, ["rows", "name", "begin", "end", "key", "low", "high"], ["rows"], F.most_at_once⟩
def d_held_with : Df := ⟨19, "held_with", top 17, ["piece", "ups", "key", "begin", "end", "beat"], ["piece", "ups"], F.held_with⟩
def d_strokes_with : Df := ⟨20, "strokes_with", top 18, ["piece", "ups", "rows", "note", "off"], ["piece", "ups"], F.strokes_with⟩
def d_fewest_of : Df := ⟨21, "fewest_of", top 19, ["piece"], ["piece"], F.fewest_of⟩
def d_fewest_fingers : Df := ⟨23, "fewest_fingers", top 20, ["piece"], ["piece"], F.fewest_fingers⟩
def d_require_count : Df := ⟨76, "require_count", top 23, ["value"], ["value"], F.require_count⟩
def d_shortest_strokes : Df := ⟨92, "shortest_strokes", top 25, ["piece"], ["piece"], F.shortest_strokes⟩
def d_splits_of : Df := ⟨93, "splits_of", top 26, ["piece", "left", "right", "strokes", "found", "last", "low", "high", "stroke"], ["piece", "left", "right"], F.splits_of⟩
def d_splits : Df := ⟨94, "splits", top 27, ["piece", "left", "right"], ["piece", "left", "right"], F.splits⟩
def d_fewest_each : Df := ⟨95, "fewest_each", top 28, ["piece", "count"], ["piece"], F.fewest_each⟩
def d_l_source : Df := ⟨33, "_law_source", top 30, ["_law_script", "_law_k", "_law_cell", "_law_primes", "_law_seed"], ["_law_script", "_law_k"], F.l_source⟩
def d_l_pick : Df := ⟨34, "_law_pick", top 31, ["_law_source_here", "_law_size", "_law_drawn"], ["_law_source_here", "_law_size"], F.l_pick⟩
def d_l_piece : Df := ⟨40, "_law_piece", top 32, ["_law_source_here", "_law_most", "_law_last", "_law_free_so", "_law_found", "_law_many", "_law_wide", "_law_turn", "_law_key", "_law_begin", "_law_ends", "_law_end"], ["_law_source_here", "_law_most", "_law_last"], F.l_piece⟩
def d_l_changes : Df := ⟨48, "_law_changes", top 33, ["_law_piece_so", "_law_found", "_law_moment_so", "_law_ends", "_law_begins", "_law_key", "_law_begin", "_law_end"], ["_law_piece_so"], F.l_changes⟩
def d_l_offs : Df := ⟨89, "_law_offs", top 34, ["_law_piece_so", "_law_ups_so", "_law_found", "_law_key", "_law_begin", "_law_end", "_law_off", "_law_beat"], ["_law_piece_so", "_law_ups_so"], F.l_offs⟩
def d_l_short : Df := ⟨90, "_law_short", top 35, ["_law_piece_so", "_law_ups_so", "_law_offs_here", "_law_note_so", "_law_off"], ["_law_piece_so", "_law_ups_so"], F.l_short⟩
def d_l_full : Df := ⟨73, "_law_full", top 36, ["_law_rows", "_law_one", "_law_begin", "_law_end", "_law_key", "_law_low", "_law_off"], ["_law_rows"], F.l_full⟩
/-- _law_script, _law_k, _law_b, _law_source_here, _law_piece_so, _law_strokes_so, _law_counts, _law_last, _law_turn, _law_least, _law_low, _law_left, _law_right, _law_due, _law_found, _law_row_so, _law_pair -/
def fn_law : Fn := ⟨1, 17, (.cons (.fr [] [1, 3, 4, 5, 6, 8, 9, 10, 11, 12, 13, 14] (.nm 1) (.rng1 (.bi .max (.cons (.cst (.int 5)) (.cons (.bi .min (.cons (.cst (.int 14)) (.cons (.bi .len (.cons (.var 0) .nil)) .nil))) .nil)))) (.cons (.set [] .cell 3 (.call 33 (.cons (.var 0) (.cons (.var 1) .nil)))) (.cons (.set [] .val 4 (.call 40 (.cons (.var 3) (.cons (.cst (.int 12)) (.cons (.idx (.lst (.cons (.cst (.int 12)) (.cons (.cst (.int 60)) .nil))) (.call 34 (.cons (.var 3) (.cons (.cst (.int 2)) .nil)))) .nil))))) (.cons (.set [] .val 5 (.call 90 (.cons (.var 4) (.cons (.call 48 (.cons (.var 4) .nil)) .nil)))) (.cons (.set [] .own 6 (.lst .nil)) (.cons (.fr [] [10] (.nm 7) (.rng1 (.cst (.int 89))) (.cons (.set [] .val 10 (.comp [15] (.nm 15) (.seq (.var 5)) (.cmp .le (.idx (.var 15) (.cst (.int 0))) (.var 7)) (.var 15))) (.cons (.app [] 6 (.tup (.cons (.call 73 (.cons (.var 10) .nil)) (.cons (.call 73 (.cons (.comp [15] (.nm 15) (.seq (.var 5)) (.cmp .gt (.idx (.var 15) (.cst (.int 0))) (.var 7)) (.var 15)) .nil)) .nil)))) .nil))) (.cons (.fr [] [8, 11, 12, 13, 14] (.nm 8) (.rng1 (.cst (.int 4))) (.cons (.par [] [(.val, 11), (.val, 12)] (.cons (.op .add (.cst (.int 1)) (.call 34 (.cons (.var 3) (.cons (.cst (.int 4)) .nil)))) (.cons (.op .add (.cst (.int 1)) (.call 34 (.cons (.var 3) (.cons (.cst (.int 4)) .nil)))) .nil))) (.cons (.set [6] .val 13 (.comp [7] (.nm 7) (.rng1 (.cst (.int 89))) (.and (.cmp .le (.idx (.idx (.var 6) (.var 7)) (.cst (.int 0))) (.var 11)) (.cmp .le (.idx (.idx (.var 6) (.var 7)) (.cst (.int 1))) (.var 12))) (.var 7))) (.cons (.set [] .val 14 (.call 94 (.cons (.var 4) (.cons (.var 11) (.cons (.var 12) .nil))))) (.cons (.iff [] (.or (.not (.bi .isList (.cons (.var 14) .nil))) (.cmp .ne (.var 14) (.var 13))) (.cons (.ret (.cst (.bool false))) .nil) .nil) .nil))))) (.cons (.set [6] .val 9 (.bi .max (.cons (.cst (.int 1)) (.cons (.bi .min (.cons (.comp [16] (.nm 16) (.seq (.var 6)) (.cst (.bool true)) (.bi .max (.cons (.var 16) .nil))) .nil)) .nil)))) (.cons (.iff [] (.or (.cmp .ne (.call 95 (.cons (.var 4) .nil)) (.var 9)) (.cmp .eq (.call 94 (.cons (.var 4) (.cons (.var 9) (.cons (.var 9) .nil)))) (.lst .nil))) (.cons (.ret (.cst (.bool false))) .nil) .nil) (.cons (.iff [] (.and (.cmp .gt (.var 9) (.cst (.int 1))) (.cmp .ne (.call 94 (.cons (.var 4) (.cons (.op .sub (.var 9) (.cst (.int 1))) (.cons (.op .sub (.var 9) (.cst (.int 1))) .nil)))) (.lst .nil))) (.cons (.ret (.cst (.bool false))) .nil) .nil) (.cons (.iff [] (.cmp .ne (.cmp .mem (.cst (.int 0)) (.call 94 (.cons (.var 4) (.cons (.cst (.int 1)) (.cons (.var 9) .nil))))) (.cmp .le (.call 23 (.cons (.var 4) .nil)) (.var 9))) (.cons (.ret (.cst (.bool false))) .nil) .nil) (.cons (.iff [] (.cmp .ne (.cmp .mem (.cst (.int 88)) (.call 94 (.cons (.var 4) (.cons (.var 9) (.cons (.cst (.int 1)) .nil))))) (.cmp .le (.call 23 (.cons (.var 4) .nil)) (.var 9))) (.cons (.ret (.cst (.bool false))) .nil) .nil) .nil)))))))))))) (.cons (.set [] .val 2 (.tup (.cons (.tup (.cons (.cst (.int 28)) (.cons (.cst (.int 0)) (.cons (.cst (.int 6)) .nil)))) (.cons (.tup (.cons (.cst (.int 60)) (.cons (.cst (.int 0)) (.cons (.cst (.int 4)) .nil)))) (.cons (.tup (.cons (.cst (.int 64)) (.cons (.cst (.int 1)) (.cons (.cst (.int 4)) .nil)))) (.cons (.tup (.cons (.cst (.int 67)) (.cons (.cst (.int 2)) (.cons (.cst (.int 4)) .nil)))) .nil)))))) (.cons (.iff [] (.or (.cmp .ne (.call 94 (.cons (.var 2) (.cons (.cst (.int 1)) (.cons (.cst (.int 1)) .nil)))) (.lrg2 (.cst (.int 28)) (.cst (.int 60)))) (.or (.cmp .ne (.bi .len (.cons (.call 94 (.cons (.var 2) (.cons (.cst (.int 2)) (.cons (.cst (.int 1)) .nil)))) .nil)) (.cst (.int 61))) (.cmp .ne (.call 95 (.cons (.var 2) .nil)) (.cst (.int 1))))) (.cons (.ret (.cst (.bool false))) .nil) .nil) (.cons (.ret (.and (.cmp .eq (.call 94 (.cons (.tup .nil) (.cons (.cst (.int 1)) (.cons (.cst (.int 1)) .nil)))) (.lrg1 (.cst (.int 89)))) (.cmp .eq (.call 95 (.cons (.tup .nil) .nil)) (.cst (.int 1))))) .nil))))⟩
def d_law : Df := ⟨96, "law", top 37, ["_law_script", "_law_k", "_law_b", "_law_source_here", "_law_piece_so", "_law_strokes_so", "_law_counts", "_law_last", "_law_turn", "_law_least", "_law_low", "_law_left", "_law_right", "_law_due", "_law_found", "_law_row_so", "_law_pair"], ["_law_script"], fn_law⟩
def gv : List (PySem.Str × GV) := [(("is_integer" : PySem.Str), GV.fn 0), (("is_note" : PySem.Str), GV.fn 1), (("is_piece" : PySem.Str), GV.fn 2), (("require_piece" : PySem.Str), GV.fn 3), (("struck_again" : PySem.Str), GV.fn 5), (("changes_of" : PySem.Str), GV.fn 6), (("most_at_once" : PySem.Str), GV.fn 15), (("held_with" : PySem.Str), GV.fn 19), (("strokes_with" : PySem.Str), GV.fn 20), (("fewest_of" : PySem.Str), GV.fn 21), (("fewest_fingers" : PySem.Str), GV.fn 23), (("require_count" : PySem.Str), GV.fn 76), (("shortest_strokes" : PySem.Str), GV.fn 92), (("splits_of" : PySem.Str), GV.fn 93), (("splits" : PySem.Str), GV.fn 94), (("fewest_each" : PySem.Str), GV.fn 95), (("_law_source" : PySem.Str), GV.fn 33), (("_law_pick" : PySem.Str), GV.fn 34), (("_law_piece" : PySem.Str), GV.fn 40), (("_law_changes" : PySem.Str), GV.fn 48), (("_law_offs" : PySem.Str), GV.fn 89), (("_law_short" : PySem.Str), GV.fn 90), (("_law_full" : PySem.Str), GV.fn 73), (("law" : PySem.Str), GV.fn 96), (("LAST" : PySem.Str), GV.cst 60), (("MAX_FINGERS" : PySem.Str), GV.cst 40), (("MAX_NOTES" : PySem.Str), GV.cst 40), (("WIDE" : PySem.Str), GV.cst 88), (("all" : PySem.Str), GV.blt), (("any" : PySem.Str), GV.blt), (("bool" : PySem.Str), GV.blt), (("int" : PySem.Str), GV.blt), (("isinstance" : PySem.Str), GV.blt), (("len" : PySem.Str), GV.blt), (("list" : PySem.Str), GV.blt), (("max" : PySem.Str), GV.blt), (("min" : PySem.Str), GV.blt), (("range" : PySem.Str), GV.blt), (("set" : PySem.Str), GV.blt), (("sorted" : PySem.Str), GV.blt), (("tuple" : PySem.Str), GV.blt), (("zip" : PySem.Str), GV.blt)]
def ds : List Df := [d_is_integer, d_is_note, d_is_piece, d_require_piece, d_struck_again, d_changes_of, d_most_at_once, d_held_with, d_strokes_with, d_fewest_of, d_fewest_fingers, d_require_count, d_shortest_strokes, d_splits_of, d_splits, d_fewest_each, d_l_source, d_l_pick, d_l_piece, d_l_changes, d_l_offs, d_l_short, d_l_full, d_law]
theorem gv_ok : gvOk ds gv = true := by decide +kernel
theorem k_d_is_integer : chkD gv d_is_integer = true := by decide +kernel
theorem k_d_is_note : chkD gv d_is_note = true := by decide +kernel
theorem k_d_is_piece : chkD gv d_is_piece = true := by decide +kernel
theorem k_d_require_piece : chkD gv d_require_piece = true := by decide +kernel
theorem k_d_struck_again : chkD gv d_struck_again = true := by decide +kernel
theorem k_d_changes_of : chkD gv d_changes_of = true := by decide +kernel
theorem k_d_most_at_once : chkD gv d_most_at_once = true := by decide +kernel
theorem k_d_held_with : chkD gv d_held_with = true := by decide +kernel
theorem k_d_strokes_with : chkD gv d_strokes_with = true := by decide +kernel
theorem k_d_fewest_of : chkD gv d_fewest_of = true := by decide +kernel
theorem k_d_fewest_fingers : chkD gv d_fewest_fingers = true := by decide +kernel
theorem k_d_require_count : chkD gv d_require_count = true := by decide +kernel
theorem k_d_shortest_strokes : chkD gv d_shortest_strokes = true := by decide +kernel
theorem k_d_splits_of : chkD gv d_splits_of = true := by decide +kernel
theorem k_d_splits : chkD gv d_splits = true := by decide +kernel
theorem k_d_fewest_each : chkD gv d_fewest_each = true := by decide +kernel
theorem k_d_l_source : chkD gv d_l_source = true := by decide +kernel
theorem k_d_l_pick : chkD gv d_l_pick = true := by decide +kernel
theorem k_d_l_piece : chkD gv d_l_piece = true := by decide +kernel
theorem k_d_l_changes : chkD gv d_l_changes = true := by decide +kernel
theorem k_d_l_offs : chkD gv d_l_offs = true := by decide +kernel
theorem k_d_l_short : chkD gv d_l_short = true := by decide +kernel
theorem k_d_l_full : chkD gv d_l_full = true := by decide +kernel
theorem k_d_law : chkD gv d_law = true := by decide +kernel
theorem ds_ok : ∀ d ∈ ds, chkD gv d = true := by
  intro d h
  simp only [ds, List.mem_cons, List.not_mem_nil, or_false] at h
  rcases h with rfl | rfl | rfl | rfl | rfl | rfl | rfl | rfl | rfl | rfl | rfl | rfl | rfl | rfl | rfl | rfl | rfl | rfl | rfl | rfl | rfl | rfl | rfl | rfl
  · exact k_d_is_integer
  · exact k_d_is_note
  · exact k_d_is_piece
  · exact k_d_require_piece
  · exact k_d_struck_again
  · exact k_d_changes_of
  · exact k_d_most_at_once
  · exact k_d_held_with
  · exact k_d_strokes_with
  · exact k_d_fewest_of
  · exact k_d_fewest_fingers
  · exact k_d_require_count
  · exact k_d_shortest_strokes
  · exact k_d_splits_of
  · exact k_d_splits
  · exact k_d_fewest_each
  · exact k_d_l_source
  · exact k_d_l_pick
  · exact k_d_l_piece
  · exact k_d_l_changes
  · exact k_d_l_offs
  · exact k_d_l_short
  · exact k_d_l_full
  · exact k_d_law
end R
end

section
set_option Elab.async false
set_option linter.all false
set_option maxRecDepth 100000
set_option maxHeartbeats 1000000
namespace Co
open PySem
/-! k13: splits of hands -/
theorem bi_isList {d : Dt} : biV .isList [.dat d] = isTy "list" [d] := rfl
theorem ty_list_list {i : List Dt} : isTy "list" [.list i] = some (.dat (.bool true)) := rfl
theorem cmp_memN {i : Int} {ns : List Int} : cmpV .mem (.dat (.int i)) (.nw (ns.map .int)) = some (.dat (.bool (decide (i ∈ ns)))) := cmp_dn (show memD _ _ = _ from En.int.memL (by decide) i ns)
theorem idx_kb0 {q : Int × Int} {M : Mem} : idxV M (.dat (eKB q)) (.dat (.int 0)) = some (.dat (.int q.1)) := rfl
theorem idx_kb1 {q : Int × Int} {M : Mem} : idxV M (.dat (eKB q)) (.dat (.int 1)) = some (.dat (.int q.2)) := rfl
def mx (q : Int × Int) : Int := if q.2 > q.1 then q.2 else q.1
theorem max_kb {q : Int × Int} : biV .max [.dat (eKB q)] = some (.dat (.int (mx q))) := rfl
theorem ne_bb {a b : Bool} : cmpV .ne (.dat (.bool a)) (.dat (.bool b)) = some (.dat (.bool (!decide (a = b)))) := by cases a <;> cases b <;> rfl
theorem min_fold : ∀ (ns : List Int) (i : Int), ∃ m, ns.foldl (fun a b => if b < a then b else a) i = m ∧ m ∈ i :: ns ∧ ∀ x ∈ i :: ns, m ≤ x
  | [], i => ⟨i, rfl, List.mem_cons_self, fun x hx => by rw [List.mem_singleton] at hx; omega⟩
  | n :: ns, i => by
    obtain ⟨m, e, h1, h2⟩ := min_fold ns (if n < i then n else i)
    refine ⟨m, e, ?_, fun x hx => ?_⟩
    · rcases List.mem_cons.mp h1 with g | g
      · rw [g]
        by_cases h : n < i
        · rw [if_pos h]; simp
        · rw [if_neg h]; simp
      · exact List.mem_cons_of_mem _ (List.mem_cons_of_mem _ g)
    · have h0 := h2 _ List.mem_cons_self
      rcases List.mem_cons.mp hx with g | g
      · subst g
        by_cases h : n < x
        · rw [if_pos h] at h0; omega
        · rw [if_neg h] at h0; omega
      · rcases List.mem_cons.mp g with g | g
        · subst g
          by_cases h : x < i
          · rw [if_pos h] at h0; omega
          · rw [if_neg h] at h0; omega
        · exact h2 x (List.mem_cons_of_mem _ g)
theorem min_ex {ns : List Int} (h : ns ≠ []) : ∃ m, biV .min [.nw (ns.map .int)] = some (.dat (.int m)) ∧ m ∈ ns ∧ ∀ x ∈ ns, m ≤ x := by
  cases ns with
  | nil => exact absurd rfl h
  | cons i is =>
    obtain ⟨m, e, h1, h2⟩ := min_fold is i
    refine ⟨m, ?_, h1, h2⟩
    show minD [.list ((i :: is).map .int)] = _
    simp only [minD, ints_map, Option.bind_some]
    show some (Vl.dat (.int (is.foldl (fun a b => if b < a then b else a) i))) = _
    rw [e]
def two (S : List N3) (k : Nat) : Int × Int := (mostOf (lowS S (0 + k)), mostOf (highS S (0 + k)))
theorem two_at {S : List N3} {k : Nat} (h : k < 89) : at? (((List.range 89).map (two S)).map eKB) (0 + (k : Int)) = some (eKB (two S k)) := by
  rw [show (0 + (k : Int)) = ((k : Nat) : Int) by omega, at_nat (by rw [List.length_map, List.length_map, List.length_range]; exact h)]
  congr 1
  simp
theorem least_two {S : List N3} (hl : S.length ≤ 40) (hk : ∀ s ∈ S, s.k ≤ 88) {m : Int} (h1 : m ∈ (List.range 89).map fun k => mx (two S k)) (h2 : ∀ x ∈ (List.range 89).map (fun k => mx (two S k)), m ≤ x) : (if m > 1 then m else 1) = eachOf S := by
  obtain ⟨k, hk1, e⟩ := List.mem_map.mp h1
  rw [List.mem_range] at hk1
  obtain ⟨g1, g2, g3⟩ := each_spec hl hk
  have a1 : eachOf S ≤ (if m > 1 then m else 1) := each_le hl hk (by split <;> omega) (splits_ne.mpr ⟨0 + k, by omega, by
    rw [fits_iff]
    have : (two S k).1 ≤ m ∧ (two S k).2 ≤ m := by
      unfold mx at e
      split at e <;> omega
    have h3 : mostOf (lowS S (0 + k)) ≤ m := this.1
    have h4 : mostOf (highS S (0 + k)) ≤ m := this.2
    split <;> omega⟩)
  obtain ⟨t, ht, hf⟩ := splits_ne.mp g2
  rw [fits_iff] at hf
  have := h2 (mx (two S t.toNat)) (List.mem_map.mpr ⟨t.toNat, List.mem_range.mpr (by omega), rfl⟩)
  have e2 : two S t.toNat = (mostOf (lowS S t), mostOf (highS S t)) := by
    unfold two
    rw [show (0 + (t.toNat : Int)) = t by omega]
  rw [e2] at this
  have h5 : m ≤ eachOf S := by
    unfold mx at this
    simp only at this
    split at this <;> omega
  split at a1 <;> split <;> omega
theorem high_all {S : List N3} (h : ∀ s ∈ S, 1 ≤ s.k) : highS S 0 = S := by
  unfold highS
  rw [List.filter_eq_self]
  intro s hs
  have := h s hs
  exact decide_eq_true (by omega)
theorem low_none {S : List N3} (h : ∀ s ∈ S, 1 ≤ s.k) : lowS S 0 = [] := by
  unfold lowS
  rw [List.filter_eq_nil_iff]
  intro s hs
  have := h s hs
  simp only [decide_eq_true_eq]
  omega
example : True := by
  have := @exec.eq_1
  have := @exec.eq_2
  have := @exec.eq_3
  have := @exec.eq_4
  have := @exec.eq_5
  have := @exec.eq_6
  have := @exec.eq_7
  have := @exec.eq_8
  have := @exec.eq_9
  have := @exec.eq_12
  have := @exec.eq_13
  have := @exec.eq_14
  have := @exec.eq_15
  have := @exec.eq_16
  have := @exec.eq_17
  have := @exec.eq_18
  have := @ev.eq_1
  have := @ev.eq_2
  have := @ev.eq_3
  have := @ev.eq_4
  have := @ev.eq_5
  have := @ev.eq_6
  have := @ev.eq_7
  have := @ev.eq_8
  have := @ev.eq_9
  have := @ev.eq_10
  have := @ev.eq_11
  have := @ev.eq_12
  have := @ev.eq_13
  have := @ev.eq_14
  have := @ev.eq_15
  have := @ev.eq_16
  have := @ev.eq_17
  have := @ev.eq_18
  have := @ev.eq_19
  have := @ev.eq_20
  have := @ev.eq_21
  have := @ev.eq_22
  have := @ev.eq_23
  have := @ev.eq_24
  have := @ev.eq_27
  trivial
local macro_rules | `(tactic| get_elem_tactic_extensible) => `(tactic| simp only [*, execs, exec.eq_1, exec.eq_2, exec.eq_3, exec.eq_4, exec.eq_5, exec.eq_6, exec.eq_7, exec.eq_8, exec.eq_9, exec.eq_12, exec.eq_13, exec.eq_14, exec.eq_15, exec.eq_16, exec.eq_17, exec.eq_18, ev.eq_1, ev.eq_2, ev.eq_3, ev.eq_4, ev.eq_5, ev.eq_6, ev.eq_7, ev.eq_8, ev.eq_9, ev.eq_10, ev.eq_11, ev.eq_12, ev.eq_13, ev.eq_14, ev.eq_15, ev.eq_16, ev.eq_17, ev.eq_18, ev.eq_19, ev.eq_20, ev.eq_21, ev.eq_22, ev.eq_23, ev.eq_24, ev.eq_27, evs, evI, evIv, evp, view, bor, okv, okv1, asg_vd, asg_vn, asg_vm, asg_vc, asg_vs, asg_on, asg_om, asg_cn, asgs_0, asgs_1, Res.bind_ok, Res.lift_some, nx_ok', ifB_b, bind_ite, ite_and, ite_or, ite_notand, List.isEmpty_nil, List.isEmpty_cons, Bool.true_or, Bool.false_or, Bool.or_true, Bool.or_false, Bool.true_and, Bool.and_true, Bool.not_true, Bool.not_false, if_true, Bool.false_eq_true, if_false, List.getD_eq_getElem?_getD, List.getElem?_cons_zero, List.getElem?_cons_succ, Option.getD_some, List.length_cons, List.length_nil, List.length_map, Nat.sub_self, Nat.reduceAdd, Nat.reduceSub, List.replicate, List.cons_append, List.nil_append, List.append_nil, List.map_cons, List.map_nil, fin1, fin_dat, fin_nw, fin_nwd, fin_next, fin_ite, take_self, bind_n3, bind_pr, bind_ePr, bind_nm, List.set_cons_zero, List.set_cons_succ, wipeD, gets, Vl.get, Vl.nrm, Option.map_some, notV_b, negV_i, bi_isInt, bi_isBool, bi_isTuple, ty_int_int, ty_int_bool, ty_bool_int, ty_bool_bool, ty_tup_tup, ty_n3, min_ii, max_ii, int_b, len_tup, len_list, len_nw, len_n3, all_nw, any_nw, max_nw, tup_nw, tup_list, list_tup, sorted_n3, sorted_n3L, sorted_ints, cmp_lt, cmp_le, cmp_gt, cmp_ge, cmp_eq, cmp_ne, cmp_memL, cmp_memT, cmp_nmemL, cmp_nmemT, cmp_nmemN, lt_n3, op_add, op_sub, idx_n0, idx_n1, idx_n2, idx_tup, idx_list, idx_nw, at_2_0, at_2_1, seq_tup, seq_list, seq_nw, fold_n3, zip_tt, zip_tl, zip_ll, zip_ln, slc_tail, slc_tailL, ends_t, ends_f, cast3, cast2, decide_true, decide_false, idx_scr, idx_cell, len_scr, take_set, at_3_0, at_3_1, at_3_2, ix_3_0, ix_3_1, List.all_cons, List.all_nil, noL, noLs, noLkv, Nat.reduceLT, mkD_f, dict_d, dget_encF, dput_encF, op_addN, max_ns, cmp_ne_nil, eq_self, eq_self, enu_0, bind_en4, bind_en2, op_addNL, noLs_ints, eq_self, is_tup_none, is_int_none, eq_self, idx_encF, noL_encF, cmp_ne_nilD, enuI_0, bind_enI, eq_n3t, ne_n3t, eq_self, slc_kb, fold_kb, ne_kb, sorted_intsL])
theorem law13 {T : Nat → Option Fn} (h0 : T 0 = some F.is_integer) (h1 : T 1 = some F.is_note) (h2 : T 2 = some F.is_piece) (h3 : T 3 = some F.require_piece) (h5 : T 5 = some F.struck_again) (h6 : T 6 = some F.changes_of) (h15 : T 15 = some F.most_at_once) (h19 : T 19 = some F.held_with) (h20 : T 20 = some F.strokes_with) (h21 : T 21 = some F.fewest_of) (h23 : T 23 = some F.fewest_fingers) (h76 : T 76 = some F.require_count) (h92 : T 92 = some F.shortest_strokes) (h93 : T 93 = some F.splits_of) (h94 : T 94 = some F.splits) (h95 : T 95 = some F.fewest_each) (h33 : T 33 = some F.l_source) (h34 : T 34 = some F.l_pick) (h40 : T 40 = some F.l_piece) (h48 : T 48 = some F.l_changes) (h73 : T 73 = some F.l_full) (h89 : T 89 = some F.l_offs) (h90 : T 90 = some F.l_short) {li : Nat} (hlaw : T li = some R.fn_law) (ns : List Int) :
    ∃ M, callAt T 6 li [.scr ns] [] = .ok (.dat (.bool true)) M := by
  have key : Ok (callAt T 6 li [.scr ns] []) fun v _ => v = .dat (.bool true) := by
    rw [callAt_def hlaw rfl]
    unfold R.fn_law
    have hsrc : ∀ k (hk : 0 ≤ k ∧ k < 1000000) M, ∃ c s p : Int, callAt T 5 33 [.scr ns, .dat (.int k)] M = .ok (.nw [.int c, .int s, .int p]) M ∧ (0 < p ∧ p < 2147483648) ∧ 0 ≤ s ∧ s < 4294967296 := source h33 4 ns
    have hpick : ∀ n M, SrcAt M n → ∀ k, 0 < k ∧ k < 1073741824 → ∃ d M', callAt T 5 34 [.cell n, .dat (.int k)] M = .ok (.dat (.int d)) M' ∧ (0 ≤ d ∧ d < k) ∧ SrcAt M' n ∧ Upd n M M' := pick h34 4
    have hmade : ∀ n M, SrcAt M n → ∀ most last, 0 ≤ most ∧ most ≤ 40 → 0 < last ∧ last ≤ 60 → ∃ p M', callAt T 5 40 [.cell n, .dat (.int most), .dat (.int last)] M = .ok (.dat (.tuple (p.map eN))) M' ∧ Piece p ∧ (p.length ≤ most ∧ ∀ x ∈ p, (58 ≤ x.k ∧ x.k ≤ 65) ∧ x.e ≤ last) ∧ SrcAt M' n ∧ Upd n M M' := made h34 h40 3
    have hff : ∀ p, Piece p → ∀ M, callAt T 5 23 [.dat (.tuple (p.map eN))] M = .ok (.dat (.int (few p))) M := fewest_fingers_n3 h0 h1 h2 h3 h5 h6 h15 h19 h20 h21 h23 0
    have hsp : ∀ p, Piece p → ∀ L R : Int, 1 ≤ L ∧ L ≤ 40 → 1 ≤ R ∧ R ≤ 40 → ∀ M, callAt T 5 94 [.dat (.tuple (p.map eN)), .dat (.int L), .dat (.int R)] M = .ok (.nw ((splitsOf (short (changesOf p) p) L R).map .int)) M := splits_n3 h0 h1 h2 h3 h5 h6 h15 h19 h20 h92 h93 h76 h94 0
    have hea : ∀ p, Piece p → ∀ M, callAt T 5 95 [.dat (.tuple (p.map eN))] M = .ok (.dat (.int (eachOf (short (changesOf p) p)))) M := fewest_each_n3 h0 h1 h2 h3 h5 h6 h15 h19 h20 h92 h93 h95 0
    have hlc : ∀ p, Piece p → ∀ M, callAt T 5 48 [.dat (.tuple (p.map eN))] M = .ok (.nw ((changesOf p).map .int)) M := l_changes_n3 h48 4
    have hsh : ∀ p, Piece p → ∀ M, callAt T 5 90 [.dat (.tuple (p.map eN)), .dat (.list ((changesOf p).map .int))] M = .ok (.dat (.tuple ((short (changesOf p) p).map eN))) M := fun p hp => l_short_n3 h89 h90 3 p hp.bds (by have := hp.len; omega) _ _ (.list _)
    have hfu : ∀ xs : List N3, xs.length ≤ 1000 → ∀ M, callAt T 5 73 [.dat (.list (xs.map eN))] M = .ok (.dat (.int (mostOf xs))) M := fun xs hx M => most_gen (lF_eq ▸ h73) 4 xs hx _ rfl M
    have qb : Piece [⟨28, 0, 6⟩, ⟨60, 0, 4⟩, ⟨64, 1, 4⟩, ⟨67, 2, 4⟩] := ⟨by decide, by decide, by decide⟩
    have q0 : Piece [] := ⟨by decide, by decide, by decide⟩
    have c1 : ∀ M, callAt T 5 94 [.dat (.tuple [eN ⟨28, 0, 6⟩, eN ⟨60, 0, 4⟩, eN ⟨64, 1, 4⟩, eN ⟨67, 2, 4⟩]), .dat (.int 1), .dat (.int 1)] M = .ok (.nw ((run 28 59).map .int)) M := by
      have := hsp _ qb 1 1 (by decide) (by decide)
      rwa [show splitsOf (short (changesOf [⟨28, 0, 6⟩, ⟨60, 0, 4⟩, ⟨64, 1, 4⟩, ⟨67, 2, 4⟩]) [⟨28, 0, 6⟩, ⟨60, 0, 4⟩, ⟨64, 1, 4⟩, ⟨67, 2, 4⟩]) 1 1 = run 28 59 by decide +kernel] at this
    have c2 : ∀ M, callAt T 5 94 [.dat (.tuple [eN ⟨28, 0, 6⟩, eN ⟨60, 0, 4⟩, eN ⟨64, 1, 4⟩, eN ⟨67, 2, 4⟩]), .dat (.int 2), .dat (.int 1)] M = .ok (.nw ((run 28 88).map .int)) M := by
      have := hsp _ qb 2 1 (by decide) (by decide)
      rwa [show splitsOf (short (changesOf [⟨28, 0, 6⟩, ⟨60, 0, 4⟩, ⟨64, 1, 4⟩, ⟨67, 2, 4⟩]) [⟨28, 0, 6⟩, ⟨60, 0, 4⟩, ⟨64, 1, 4⟩, ⟨67, 2, 4⟩]) 2 1 = run 28 88 by decide +kernel] at this
    have c3 : ∀ M, callAt T 5 95 [.dat (.tuple [eN ⟨28, 0, 6⟩, eN ⟨60, 0, 4⟩, eN ⟨64, 1, 4⟩, eN ⟨67, 2, 4⟩])] M = .ok (.dat (.int 1)) M := by
      have := hea _ qb
      rwa [show eachOf (short (changesOf [⟨28, 0, 6⟩, ⟨60, 0, 4⟩, ⟨64, 1, 4⟩, ⟨67, 2, 4⟩]) [⟨28, 0, 6⟩, ⟨60, 0, 4⟩, ⟨64, 1, 4⟩, ⟨67, 2, 4⟩]) = 1 by decide +kernel] at this
    have c4 : ∀ M, callAt T 5 94 [.dat (.tuple []), .dat (.int 1), .dat (.int 1)] M = .ok (.nw ((run 0 88).map .int)) M := by
      have := hsp _ q0 1 1 (by decide) (by decide)
      rwa [show splitsOf (short (changesOf []) []) 1 1 = run 0 88 by decide +kernel] at this
    have c5 : ∀ M, callAt T 5 95 [.dat (.tuple [])] M = .ok (.dat (.int 1)) M := by
      have := hea _ q0
      rwa [show eachOf (short (changesOf []) []) = 1 by decide +kernel] at this
    have w1 : rng 28 60 = some ((run 28 59).map .int) := by
      rw [rng_nn (by decide) (by decide)]
      unfold run
      rw [List.map_map]; rfl
    have w2 : rng 0 89 = some ((run 0 88).map .int) := by
      rw [rng_nn (by decide) (by decide)]
      unfold run
      rw [List.map_map]; rfl
    have w3 : (run 28 88).length = 61 := by decide +kernel
    have w4 := ne_nn (xs := run 28 59)
    have w5 := eq_nn (xs := run 0 88)
    have w6 : cmpV .ne (.dat (.int ((61 : Nat) : Int))) (.dat (.int 61)) = some (.dat (.bool false)) := rfl
    clear h0 h1 h2 h3 h5 h6 h15 h19 h20 h21 h23 h76 h92 h93 h94 h95 h33 h34 h40 h48 h73 h89 h90 hlaw qb q0
    obtain ⟨m, hm, em⟩ : ∃ m : Int, (0 ≤ m ∧ m ≤ 100) ∧ (if (if (ns.length : Int) < 14 then (ns.length : Int) else 14) > 5 then (if (ns.length : Int) < 14 then (ns.length : Int) else 14) else 5) = m := ⟨_, by split <;> split <;> omega, rfl⟩
    have hr := rng0 (j := m) ⟨hm.1, by omega⟩
    simp only [execs]
    rw [Ok_fin, Ok_bind, exec_fr (M' := []) (fun k : Nat => PyData.int (0 + k)) (List.range m.toNat) (by clear hsrc hpick hmade hff hsp hea hlc hsh hfu c1 c2 c3 c4 c5 w1 w2 w3 w4 w5 w6; get_elem_tactic_extensible)]
    refine (Ok_flp (fun k : Nat => PyData.int (0 + k)) (List.range m.toNat) (fun pre ρ M' => ∃ v, ρ = [.scr ns, .und, .und, .und, .und, .und, .und, v, .und, .und, .und, .und, .und, .und, .und, .und, .und]) (fun _ _ => False) ?step _ [] _ _ rfl ⟨.und, rfl⟩).imp ?fin
    case fin =>
      intro f M' hf
      cases f with
      | ret v => exact hf.elim
      | next ρ =>
        obtain ⟨v, hf⟩ := hf
        subst hf
        clear hsrc hpick hmade hff hsp hea hlc hsh hfu hr hm em
        get_elem_tactic_extensible
        rfl
    case step =>
      intro pre post a ρ M he ⟨v7, hρ⟩
      subst hρ
      have ha := (range_at he).1
      clear c1 c2 c3 c4 c5 w1 w2 w3 w4 w5 w6
      obtain ⟨c, s, q, e1, hq, hs⟩ := hsrc (0 + a) ⟨by omega, by omega⟩ M
      have s1 := src_new M c s q hq hs
      generalize hM1 : M ++ [.lst [.int c, .int s, .int q]] = M1 at s1
      generalize hn : M.length = n at s1
      obtain ⟨d1, M2, e2, b1, s2, _⟩ := hpick _ M1 s1 2 (by decide)
      obtain ⟨a1, m1, x1⟩ := at_int [12, 60] d1 b1.1 b1.2
      simp only [List.map_cons, List.map_nil] at x1
      simp only [List.mem_cons, List.not_mem_nil, or_false] at m1
      obtain ⟨p, M3, e3, hP, ⟨hp12, _⟩, s3, _⟩ := hmade _ M2 s2 12 a1 (by decide) ⟨by omega, by omega⟩
      have k1 := hlc p hP
      have k2 := hsh p hP
      have k3 := hff p hP
      have k4 := hea p hP
      have k5 := hsp p hP
      have hPS := hP.short (changesOf p)
      have hfew : few p = mostOf (short (changesOf p) p) := rfl
      rw [hfew] at k3
      have hSl : (short (changesOf p) p).length ≤ 12 := by
        unfold short
        rw [List.length_map]; omega
      have hS1 : ∀ s ∈ short (changesOf p) p, 1 ≤ s.k := fun s hs => ((hPS).bd s hs).1.1
      have hS88 : ∀ s ∈ short (changesOf p) p, s.k ≤ 88 := fun s hs => ((hPS).bd s hs).1.2
      have hr89 : rng 0 89 = some ((List.range 89).map fun (k : Nat) => PyData.int (0 + k)) := rng0 (by decide)
      have hr4 : rng 0 4 = some ((List.range 4).map fun (k : Nat) => PyData.int (0 + k)) := rng0 (by decide)
      clear hr he em hm hsrc hq hs hmade s1 s2 b1 m1 hfew hP hp12 hPS hsp hea hff hlc hsh
      generalize short (changesOf p) p = S at *
      have hfu1 : ∀ (f : N3 → Bool) M, callAt T 5 73 [.dat (.list ((S.filter f).map eN))] M = .ok (.dat (.int (mostOf (S.filter f)))) M := fun f => hfu _ (by
        have := List.length_filter_le f S
        omega)
      clear hfu
      obtain ⟨mm, emm, hm1, hm2⟩ := min_ex (ns := (List.range 89).map fun k => mx (two S k)) (by simp)
      have hle := least_two (by omega) hS88 hm1 hm2
      clear hm1 hm2
      obtain ⟨g1, g2, g3⟩ := each_spec (S := S) (by omega) hS88
      have g4 : eachOf S ≤ 12 := by
        have := each_most (S := S) (by omega) hS88
        have h5 := most_le_len S
        split at this <;> omega
      have z0 : ∀ L R : Int, 1 ≤ L → decide (0 ∈ splitsOf S L R) = decide (mostOf S ≤ R) := fun L R hL => decide_eq_decide.mpr (by
        rw [splits_mem, fits_iff, low_none hS1, high_all hS1]
        have : mostOf [] = 0 := rfl
        rw [this]
        exact ⟨fun h => h.2.2, fun h => ⟨by decide, by omega, h⟩⟩)
      have z88 : ∀ L R : Int, 1 ≤ R → decide (88 ∈ splitsOf S L R) = decide (mostOf S ≤ L) := fun L R hR => decide_eq_decide.mpr (by
        rw [splits_mem, fits_iff, lowS_all hS88, highS_none hS88]
        have : mostOf [] = 0 := rfl
        rw [this]
        exact ⟨fun h => h.2.1, fun h => ⟨by decide, h, by omega⟩⟩)
      have y1 := k5 (eachOf S) (eachOf S) ⟨g1, by omega⟩ ⟨g1, by omega⟩
      have y2 := k5 1 (eachOf S) (by decide) ⟨g1, by omega⟩
      have y3 := k5 (eachOf S) 1 ⟨g1, by omega⟩ (by decide)
      have y4 : decide (splitsOf S (eachOf S) (eachOf S) = []) = false := decide_eq_false g2
      have y5 := z0 1 (eachOf S) (by decide)
      have y6 := z88 (eachOf S) 1 (by decide)
      have y7 : decide (eachOf S > 1) = false ∨ (decide (eachOf S > 1) = true ∧ (∀ M, callAt T 5 94 [.dat (.tuple (p.map eN)), .dat (.int (eachOf S - 1)), .dat (.int (eachOf S - 1))] M = .ok (.nw ((splitsOf S (eachOf S - 1) (eachOf S - 1)).map .int)) M) ∧ decide (splitsOf S (eachOf S - 1) (eachOf S - 1) = []) = true) := by
        by_cases h : eachOf S > 1
        · exact .inr ⟨decide_eq_true h, k5 _ _ ⟨by omega, by omega⟩ ⟨by omega, by omega⟩, decide_eq_true (g3 _ (by omega) (by omega))⟩
        · exact .inl (decide_eq_false h)
      clear z0 z88 g2 g3 g4 hS1 hS88 hSl
      clear hr4
      have hr4 : rng 0 4 = some ((List.range 4).map fun (k : Nat) => PyData.int (0 + k)) := rng0 (by decide)
      have hpick' := hpick
      have k5' := k5
      have y7' := y7
      clear hpick k5 y7 g1
      get_elem_tactic_extensible
      clear e1 e2 e3 hM1 hn x1 k1 k2
      rw [fr_pre (M' := M3) (fun k : Nat => PyData.int (0 + k)) (List.range 89) (fun pre => [.scr ns, .dat (.int (0 + (a : Int))), .und, .cell n, .dat (.tuple (p.map eN)), .dat (.tuple (S.map eN)), .own ((pre.map (two S)).map eKB), (pre.getLast?.map fun k : Nat => Vl.dat (.int (0 + k))).getD v7, .und, .und, .und, .und, .und, .und, .und, .und, .und]) (by clear hfu1 emm hle y1 y2 y3 y4 y5 y6 y7' hpick' k5' k3 k4; get_elem_tactic_extensible) rfl (by
        intro pre k post he
        have hl : (pre.map (two S)).length < lim := by
          have := (range_at he).2
          have hlim : lim = 16777216 := by decide
          rw [hlim, List.length_map]; omega
        have f1 := hfu1 (fun s => decide (s.k ≤ 0 + (k : Int)))
        have f2 := hfu1 (fun s => decide (s.k > 0 + (k : Int)))
        have f3 : (mostOf (S.filter fun s => decide (s.k ≤ 0 + (k : Int))), mostOf (S.filter fun s => decide (s.k > 0 + (k : Int)))) = two S k := rfl
        have g3 : (pre ++ [k]).getLast? = some k := by simp
        rw [List.length_map] at hl
        clear hfu1 emm hle y1 y2 y3 y4 y5 y6 y7' hpick' k5' k3 k4 hr89 hr4 he
        get_elem_tactic_extensible
        rw [comp_map (own := [15]) eN (fun s => decide (s.k ≤ 0 + (k : Int))) id eN S (by clear f1 f2 f3; get_elem_tactic_extensible) (fun a _ => by clear f1 f2 f3; get_elem_tactic_extensible; rfl), List.map_id]
        get_elem_tactic_extensible
        rw [comp_map (own := [15]) eN (fun s => decide (s.k > 0 + (k : Int))) id eN S (by clear f1 f2 f3; get_elem_tactic_extensible) (fun a _ => by clear f1 f2 f3; get_elem_tactic_extensible; rfl), List.map_id]
        get_elem_tactic_extensible
        refine ⟨_, rfl, ?_⟩
        simp [wipeD])]
      clear hfu1
      generalize hv : ((List.range 89).getLast?.map fun k : Nat => Vl.dat (.int (0 + k))).getD v7 = w7
      clear hv
      get_elem_tactic_extensible
      rw [Ok_bind, exec_fr (M' := M3) (fun k : Nat => PyData.int (0 + k)) (List.range 4) (by clear emm hle y1 y2 y3 y4 y5 y6 y7' hpick' k5' k3 k4 hr89; get_elem_tactic_extensible)]
      refine (Ok_flp (fun k : Nat => PyData.int (0 + k)) (List.range 4) (fun pre ρ M' => SrcAt M' n ∧ ρ = [.scr ns, .dat (.int (0 + (a : Int))), .und, .cell n, .dat (.tuple (p.map eN)), .dat (.tuple (S.map eN)), .own (((List.range 89).map (two S)).map eKB), w7, .und, .und, .und, .und, .und, .und, .und, .und, .und]) (fun _ _ => False) ?st1 _ [] _ _ rfl ⟨s3, rfl⟩).imp ?fi1
      case fi1 =>
        intro f1 M5 hf
        cases f1 with
        | ret v => exact hf.elim
        | next ρ =>
          obtain ⟨_, hρ⟩ := hf
          subst hρ
          clear hpick' k5' hr89 hr4 s3
          have i1 := @eq_nn_nil
          have i2 := @cmp_ne_nil
          have i3 := @ne_bb
          have i4 := @cmp_memN
          have hcm : ∀ M, ev (callAt T 5) (.comp [16] (.nm 16) (.seq (.var 6)) (.cst (.bool true)) (.bi .max (.cons (.var 16) .nil))) ([.scr ns, .dat (.int (0 + (a : Int))), .und, .cell n, .dat (.tuple (p.map eN)), .dat (.tuple (S.map eN)), .dat (.list (((List.range 89).map (two S)).map eKB)), w7, .und, .und, .und, .und, .und, .und, .und, .und, .und]) M = .ok (.nw (((List.range 89).map fun k => mx (two S k)).map .int)) M := fun M => by
            have i5 := @max_kb
            rw [comp_all (own := [16]) eKB mx .int ((List.range 89).map (two S)) (by clear i1 i2 i3 i4 emm hle y1 y2 y3 y4 y5 y6 y7' k3 k4; get_elem_tactic_extensible) (fun q _ => by clear i1 i2 i3 i4 emm hle y1 y2 y3 y4 y5 y6 y7' k3 k4; get_elem_tactic_extensible), List.map_map]
            rfl
          generalize (List.range 89).map (two S) = W at *
          generalize ((List.range 89).map fun k => mx (two S k)) = V at *
          rcases y7' with y7 | ⟨y7, y8, y9⟩
          · get_elem_tactic_extensible
            exact ⟨_, rfl⟩
          · get_elem_tactic_extensible
            exact ⟨_, rfl⟩
      case st1 =>
        intro pre post t ρ M0 he ⟨s0, hρ⟩
        subst hρ
        clear he s3
        obtain ⟨u1, N1, x1, v1, t1, _⟩ := hpick' n M0 s0 4 (by decide)
        obtain ⟨u2, N2, x2, v2, t2, _⟩ := hpick' n N1 t1 4 (by decide)
        have x3 := k5' (1 + u1) (1 + u2) ⟨by omega, by omega⟩ ⟨by omega, by omega⟩
        have i5 : ∀ k : Nat, k < 89 → _ := fun k h => two_at (S := S) h
        have i6 := @idx_kb0
        have i7 := @idx_kb1
        have i8 := @bi_isList
        have i9 := @ty_list_list
        have hcm : ∀ M, ev (callAt T 5) (.comp [7] (.nm 7) (.rng1 (.cst (.int 89))) (.and (.cmp .le (.idx (.idx (.var 6) (.var 7)) (.cst (.int 0))) (.var 11)) (.cmp .le (.idx (.idx (.var 6) (.var 7)) (.cst (.int 1))) (.var 12))) (.var 7)) ([.scr ns, .dat (.int (0 + (a : Int))), .und, .cell n, .dat (.tuple (p.map eN)), .dat (.tuple (S.map eN)), .dat (.list (((List.range 89).map (two S)).map eKB)), w7, .dat (.int (0 + (t : Int))), .und, .und, .dat (.int (1 + u1)), .dat (.int (1 + u2)), .und, .und, .und, .und]) M = .ok (.nw ((splitsOf S (1 + u1) (1 + u2)).map .int)) M := fun M => by
          rw [comp_map (own := [7]) (fun k : Nat => PyData.int (0 + k)) (fun k : Nat => fits S (1 + u1) (1 + u2) (0 + k)) (fun k : Nat => (0 + k : Int)) .int (List.range 89) (by clear x1 x2 x3 i5 i6 i7 i8 i9 emm hle y1 y2 y3 y4 y5 y6 y7' hpick' k5' k3 k4; get_elem_tactic_extensible) (fun k hk => by
            have g5 := i5 k (List.mem_range.mp hk)
            have hf : (decide ((two S k).1 ≤ 1 + u1) && decide ((two S k).2 ≤ 1 + u2)) = fits S (1 + u1) (1 + u2) (0 + k) := rfl
            clear x1 x2 x3 i5 i8 i9 emm hle y1 y2 y3 y4 y5 y6 y7' hpick' k5' k3 k4 hr89 hr4 hk
            generalize (List.range 89).map (two S) = W at *
            rw [← hf]
            clear hf
            generalize two S k = tw at *
            get_elem_tactic_extensible)]
          rfl
        have z1 := ne_dd (xs := splitsOf S (1 + u1) (1 + u2))
        clear i5 i6 i7 hpick' k5' hr89 hr4 emm hle y1 y2 y3 y4 y5 y6 y7' k3 k4 v1 v2
        generalize (List.range 89).map (two S) = W at *
        generalize splitsOf S (1 + u1) (1 + u2) = Z at *
        get_elem_tactic_extensible
        exact ⟨t2, rfl⟩
  obtain ⟨v, M, e, rfl⟩ := key.get
  exact ⟨M, e⟩
theorem _root_.R.law_true (ns : List Int) (h : ns.length ≤ 63) (hb : ∀ z ∈ ns, Builtin.Int.intBits z ≤ 1048576) : ∃ M, Co.callAt (Co.tab R.ds) 6 96 [.scr ns] [] = .ok (.dat (.bool true)) M :=
  law13 rfl rfl rfl rfl rfl rfl rfl rfl rfl rfl rfl rfl rfl rfl rfl rfl rfl rfl rfl rfl rfl rfl rfl rfl ns
end Co
end

section
open PySem PySem.W PyProof.Rows
set_option maxHeartbeats 0 in
theorem PySem.Challenge.cw_pedalholds_k13_whole_splits_of_hands_holds : PySem.Challenge.rw_pedalholds_k13_whole_splits_of_hands.Holds := by
  w_on; o_law; k_head; (case hw => w_witness2)
  k_fill
  refine L2.walk_ofB (l := PySem.Challenge.rw_pedalholds_k13_whole_splits_of_hands) (n := 63) (k := 6) (x := "_law_script") (CX := fun w => L2.CX PySem.Challenge.rw_pedalholds_k13_whole_splits_of_hands.prog w) (sp := fun w => Co.spOf _ (fun _ => 0) 1 (Co.callAt (Co.tab R.ds) 6 96)) rfl (by decide) rfl ⟨rfl, by decide, by decide⟩ (fun w h Y => PySem.W.kIn_of Y) ?F (fun _ _ a ns hl hb hO hS => Co.sp_end hO hS (R.law_true ns hl hb)) (fun _ _ _ _ _ h => Co.noX h)
  case F =>
    intro w mg fa h KX G hmg
    refine Co.end_of (dL := R.d_law) 6 R.gv_ok R.ds_ok rfl rfl KX G hmg ?FF ?GG
    case FF =>
      refine ⟨?f0, ?f1, ?f2, ?f3, ?f4, ?f5, ?f6, ?f7, ?f8, ?f9, ?f10, ?f11, ?f12, ?f13, ?f14, ?f15, ?f16, ?f17, ?f18, ?f19, ?f20, ?f21, ?f22, ?f23, trivial⟩
      case f0 =>
        refine' Co.mkFact R.d_is_integer "is_integer" (R.top 8) rfl rfl ?a ?l ?c ?k ?b
        case a => k_is
        case l => k_is
        case c => k_is
        case k => k_is
        case b => exact fun _ _ _ _ _ _ us hl => match us, hl with | [_, _, _], _ => rfl
      case f1 =>
        refine' Co.mkFact R.d_is_note "is_note" (R.top 9) rfl rfl ?a ?l ?c ?k ?b
        case a => k_is
        case l => k_is
        case c => k_is
        case k => k_is
        case b => exact fun _ _ _ _ _ _ us hl => match us, hl with | [_], _ => rfl
      case f2 =>
        refine' Co.mkFact R.d_is_piece "is_piece" (R.top 10) rfl rfl ?a ?l ?c ?k ?b
        case a => k_is
        case l => k_is
        case c => k_is
        case k => k_is
        case b => exact fun _ _ _ _ _ _ us hl => match us, hl with | [_], _ => rfl
      case f3 =>
        refine' Co.mkFact R.d_require_piece "require_piece" (R.top 11) rfl rfl ?a ?l ?c ?k ?b
        case a => k_is
        case l => k_is
        case c => k_is
        case k => k_is
        case b => exact fun _ _ _ _ _ _ us hl => match us, hl with | [_], _ => rfl
      case f4 =>
        refine' Co.mkFact R.d_struck_again "struck_again" (R.top 12) rfl rfl ?a ?l ?c ?k ?b
        case a => k_is
        case l => k_is
        case c => k_is
        case k => k_is
        case b => exact fun _ _ _ _ _ _ us hl => match us, hl with | [_, _], _ => rfl
      case f5 =>
        refine' Co.mkFact R.d_changes_of "changes_of" (R.top 13) rfl rfl ?a ?l ?c ?k ?b
        case a => k_is
        case l => k_is
        case c => k_is
        case k => k_is
        case b => exact fun _ _ _ _ _ _ us hl => match us, hl with | [_], _ => rfl
      case f6 =>
        refine' Co.mkFact R.d_most_at_once "most_at_once" (R.top 15) rfl rfl ?a ?l ?c ?k ?b
        case a => k_is
        case l => k_is
        case c => k_is
        case k => k_is
        case b => exact fun _ _ _ _ _ _ us hl => match us, hl with | [_], _ => rfl
      case f7 =>
        refine' Co.mkFact R.d_held_with "held_with" (R.top 17) rfl rfl ?a ?l ?c ?k ?b
        case a => k_is
        case l => k_is
        case c => k_is
        case k => k_is
        case b => exact fun _ _ _ _ _ _ us hl => match us, hl with | [_, _], _ => rfl
      case f8 =>
        refine' Co.mkFact R.d_strokes_with "strokes_with" (R.top 18) rfl rfl ?a ?l ?c ?k ?b
        case a => k_is
        case l => k_is
        case c => k_is
        case k => k_is
        case b => exact fun _ _ _ _ _ _ us hl => match us, hl with | [_, _], _ => rfl
      case f9 =>
        refine' Co.mkFact R.d_fewest_of "fewest_of" (R.top 19) rfl rfl ?a ?l ?c ?k ?b
        case a => k_is
        case l => k_is
        case c => k_is
        case k => k_is
        case b => exact fun _ _ _ _ _ _ us hl => match us, hl with | [_], _ => rfl
      case f10 =>
        refine' Co.mkFact R.d_fewest_fingers "fewest_fingers" (R.top 20) rfl rfl ?a ?l ?c ?k ?b
        case a => k_is
        case l => k_is
        case c => k_is
        case k => k_is
        case b => exact fun _ _ _ _ _ _ us hl => match us, hl with | [_], _ => rfl
      case f11 =>
        refine' Co.mkFact R.d_require_count "require_count" (R.top 23) rfl rfl ?a ?l ?c ?k ?b
        case a => k_is
        case l => k_is
        case c => k_is
        case k => k_is
        case b => exact fun _ _ _ _ _ _ us hl => match us, hl with | [_], _ => rfl
      case f12 =>
        refine' Co.mkFact R.d_shortest_strokes "shortest_strokes" (R.top 25) rfl rfl ?a ?l ?c ?k ?b
        case a => k_is
        case l => k_is
        case c => k_is
        case k => k_is
        case b => exact fun _ _ _ _ _ _ us hl => match us, hl with | [_], _ => rfl
      case f13 =>
        refine' Co.mkFact R.d_splits_of "splits_of" (R.top 26) rfl rfl ?a ?l ?c ?k ?b
        case a => k_is
        case l => k_is
        case c => k_is
        case k => k_is
        case b => exact fun _ _ _ _ _ _ us hl => match us, hl with | [_, _, _], _ => rfl
      case f14 =>
        refine' Co.mkFact R.d_splits "splits" (R.top 27) rfl rfl ?a ?l ?c ?k ?b
        case a => k_is
        case l => k_is
        case c => k_is
        case k => k_is
        case b => exact fun _ _ _ _ _ _ us hl => match us, hl with | [_, _, _], _ => rfl
      case f15 =>
        refine' Co.mkFact R.d_fewest_each "fewest_each" (R.top 28) rfl rfl ?a ?l ?c ?k ?b
        case a => k_is
        case l => k_is
        case c => k_is
        case k => k_is
        case b => exact fun _ _ _ _ _ _ us hl => match us, hl with | [_], _ => rfl
      case f16 =>
        refine' Co.mkFact R.d_l_source "_law_source" (R.top 30) rfl rfl ?a ?l ?c ?k ?b
        case a => k_is
        case l => k_is
        case c => k_is
        case k => k_is
        case b => exact fun _ _ _ _ _ _ us hl => match us, hl with | [_, _], _ => rfl
      case f17 =>
        refine' Co.mkFact R.d_l_pick "_law_pick" (R.top 31) rfl rfl ?a ?l ?c ?k ?b
        case a => k_is
        case l => k_is
        case c => k_is
        case k => k_is
        case b => exact fun _ _ _ _ _ _ us hl => match us, hl with | [_, _], _ => rfl
      case f18 =>
        refine' Co.mkFact R.d_l_piece "_law_piece" (R.top 32) rfl rfl ?a ?l ?c ?k ?b
        case a => k_is
        case l => k_is
        case c => k_is
        case k => k_is
        case b => exact fun _ _ _ _ _ _ us hl => match us, hl with | [_, _, _], _ => rfl
      case f19 =>
        refine' Co.mkFact R.d_l_changes "_law_changes" (R.top 33) rfl rfl ?a ?l ?c ?k ?b
        case a => k_is
        case l => k_is
        case c => k_is
        case k => k_is
        case b => exact fun _ _ _ _ _ _ us hl => match us, hl with | [_], _ => rfl
      case f20 =>
        refine' Co.mkFact R.d_l_offs "_law_offs" (R.top 34) rfl rfl ?a ?l ?c ?k ?b
        case a => k_is
        case l => k_is
        case c => k_is
        case k => k_is
        case b => exact fun _ _ _ _ _ _ us hl => match us, hl with | [_, _], _ => rfl
      case f21 =>
        refine' Co.mkFact R.d_l_short "_law_short" (R.top 35) rfl rfl ?a ?l ?c ?k ?b
        case a => k_is
        case l => k_is
        case c => k_is
        case k => k_is
        case b => exact fun _ _ _ _ _ _ us hl => match us, hl with | [_, _], _ => rfl
      case f22 =>
        refine' Co.mkFact R.d_l_full "_law_full" (R.top 36) rfl rfl ?a ?l ?c ?k ?b
        case a => k_is
        case l => k_is
        case c => k_is
        case k => k_is
        case b => exact fun _ _ _ _ _ _ us hl => match us, hl with | [_], _ => rfl
      case f23 =>
        refine' Co.mkFact R.d_law "law" (R.top 37) rfl rfl ?a ?l ?c ?k ?b
        case a => k_is
        case l => k_is
        case c => k_is
        case k => k_is
        case b => exact fun _ _ _ _ _ _ us hl => match us, hl with | [_], _ => rfl
    case GG =>
      refine' ⟨trivial, trivial, trivial, trivial, trivial, trivial, trivial, trivial, trivial, trivial, trivial, trivial, trivial, trivial, trivial, trivial, trivial, trivial, trivial, trivial, trivial, trivial, trivial, trivial, ?c0, ?c1, ?c2, ?c3, ?b0, ?b1, ?b2, ?b3, ?b4, ?b5, ?b6, ?b7, ?b8, ?b9, ?b10, ?b11, ?b12, ?b13, trivial⟩
      case c0 =>
        refine' Co.gfC "LAST" 60 ?a
        case a => k_is
      case c1 =>
        refine' Co.gfC "MAX_FINGERS" 40 ?a
        case a => k_is
      case c2 =>
        refine' Co.gfC "MAX_NOTES" 40 ?a
        case a => k_is
      case c3 =>
        refine' Co.gfC "WIDE" 88 ?a
        case a => k_is
      case b0 =>
        refine' Co.gfB "all" ?a
        case a => k_is
      case b1 =>
        refine' Co.gfB "any" ?a
        case a => k_is
      case b2 =>
        refine' Co.gfB "bool" ?a
        case a => k_is
      case b3 =>
        refine' Co.gfB "int" ?a
        case a => k_is
      case b4 =>
        refine' Co.gfB "isinstance" ?a
        case a => k_is
      case b5 =>
        refine' Co.gfB "len" ?a
        case a => k_is
      case b6 =>
        refine' Co.gfB "list" ?a
        case a => k_is
      case b7 =>
        refine' Co.gfB "max" ?a
        case a => k_is
      case b8 =>
        refine' Co.gfB "min" ?a
        case a => k_is
      case b9 =>
        refine' Co.gfB "range" ?a
        case a => k_is
      case b10 =>
        refine' Co.gfB "set" ?a
        case a => k_is
      case b11 =>
        refine' Co.gfB "sorted" ?a
        case a => k_is
      case b12 =>
        refine' Co.gfB "tuple" ?a
        case a => k_is
      case b13 =>
        refine' Co.gfB "zip" ?a
        case a => k_is
end
