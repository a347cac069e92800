import PyProof.Rows.All
import Wide.All
import OpenK.AllK
import Wide.FinOn
import HandS.ForMost
import HandS.Style
import HandS.IsInst
import HandS.TupMul
import HandS.TupAny
import HandS.Walk
import KE.GoesEnum
import KE.DatumOrd
import KE.KTupSum
import HandS.Codes
import PySem.Challenge.RW_doublepay_k82_across_gifts_and_shifts
set_option Elab.async false
set_option linter.all false
set_option maxRecDepth 100000
set_option maxHeartbeats 2000000
namespace Dp
open PySem PySem.Spec PyProof.Rows L2
/-! ### lists and tuples alike: k = true a list, false a tuple -/
def SqK (k : Bool) (K : PySem.W.Frag) (H : Hp) (a : Addr) (xs : List V) : Prop := match k with
  | true => SqL K H a xs
  | false => SqT K H a xs
def IsItK (k : Bool) (h : Heap) (it a : Addr) (i : Nat) : Prop := match k with
  | true => h.IsListIter it a i
  | false => h.IsTupleIter it a i
def IsSeqK (k : Bool) (h : Heap) (a : Addr) (items : Array Value) : Prop := match k with
  | true => h.IsList a items
  | false => h.IsTuple a items
def itObjK (k : Bool) (a : Addr) : Obj := match k with
  | true => { cls := .type "list_iterator", data := .fields #[.ref a, .int 0 0] }
  | false => { cls := .type "tuple_iterator", data := .fields #[.ref a, .int 0 0] }
theorem beginsK (k : Bool) (a : Addr) (items : Array Value) : Begins (.ref a) (itObjK k a) (fun h => IsSeqK k h a items) := by
  cases k with
  | true => exact begins_list a items
  | false => exact begins_tuple a items
theorem itK_of {k : Bool} {h : Heap} {it a : Addr} (e : h.get? it = some (itObjK k a)) : IsItK k h it a 0 := by
  cases k with
  | true => exact ⟨_, e, rfl, rfl⟩
  | false => exact ⟨_, e, rfl, rfl⟩
theorem IsItK.obj {k : Bool} {h : Heap} {it a : Addr} {i : Nat} (x : IsItK k h it a i) : ∃ o, h.get? it = some o ∧ ∀ v, o.data ≠ .cell v := by
  cases k with
  | true =>
    obtain ⟨o, e, c, d⟩ := x
    exact ⟨o, e, fun v z => nomatch (d.symm.trans z)⟩
  | false =>
    obtain ⟨o, e, c, d⟩ := x
    exact ⟨o, e, fun v z => nomatch (d.symm.trans z)⟩
theorem IsItK.keep {k : Bool} {h h' : Heap} {it a : Addr} {i : Nat} (x : IsItK k h it a i) (kk : ∀ o, h.get? it = some o → h'.get? it = some o) : IsItK k h' it a i := by
  cases k with
  | true =>
    obtain ⟨o, e, r⟩ := x
    exact ⟨o, kk o e, r⟩
  | false =>
    obtain ⟨o, e, r⟩ := x
    exact ⟨o, kk o e, r⟩
theorem drawsK {prog : Program} {w : World} {A : Around} (k : Bool) (hh : A.handled = none) (it a : Addr) (hne : a ≠ it) (items : Array Value) :
    Draws prog w A it [it, a] items.size (fun i v => items[i]? = some v) (fun i h => IsItK k h it a i ∧ IsSeqK k h a items) := by
  cases k with
  | true => exact Draws.list hh it a hne items
  | false => exact Draws.tuple hh it a hne items
section
variable {X : Cx} {pins : List (Addr × Obj)} {σ : L2.St} {H : Hp} {s : Shared}
theorem seqK (k : Bool) {a : Addr} {xs : List V} (I : Inv X pins σ H s) (h : SqK k X.K H a xs) : ∃ its : List Value, Vals xs its ∧ IsSeqK k s.heap a its.toArray ∧ a < s.heap.objs.size ∧ xs.length ≤ sizeLine := by
  cases k with
  | true =>
    obtain ⟨its, rv, p, hz⟩ := I.list h
    exact ⟨its, rv, p.isList, p.lt, hz⟩
  | false =>
    obtain ⟨its, rv, p, hz⟩ := I.tuple h
    exact ⟨its, rv, p, p.lt, hz⟩
theorem seqK_inj {k : Bool} {a : Addr} {xs ys : List V} (I : Inv X pins σ H s) (h : SqK k X.K H a xs) (h' : SqK k X.K H a ys) : xs = ys := by
  cases k with
  | true => exact I.list_inj h h'
  | false => exact I.tuple_inj h h'
end
theorem SqK.same {k : Bool} {K : PySem.W.Frag} {H H' : Hp} {a : Addr} {xs : List V} (e : Same H H') (h : SqK k K H a xs) : SqK k K H' a xs := by
  cases k with
  | true => exact e.seq h
  | false =>
    exact h.imp (fun t => t.imp (e _ _) fun ⟨o, f⟩ => ⟨o, e _ _ f⟩) id

/-! ### zip of two, each a list or a tuple -/
def ItzM (K : PySem.W.Frag) (k1 k2 : Bool) (a b : Addr) : It :=
  ⟨fun i H => ∃ (xs ys : List V) (x y : V), SqK k1 K H a xs ∧ SqK k2 K H b ys ∧ xs[i]? = some x ∧ ys[i]? = some y,
    fun i H v H' => ∃ T x y, v = .ref T ∧ H T = none ∧ H' = upd H T (.tup [x, y]) ∧ (∀ xs, SqK k1 K H a xs → xs[i]? = some x) ∧ ∀ ys, SqK k2 K H b ys → ys[i]? = some y,
    fun i H => ∃ xs ys : List V, SqK k1 K H a xs ∧ SqK k2 K H b ys ∧ i = min xs.length ys.length⟩
/-- a plain object stands at c -/
def Plain (h : Heap) (c : Addr) : Prop := ∃ o, h.get? c = some o ∧ ∀ v, o.data ≠ .cell v
theorem Plain.lt {h : Heap} {c : Addr} (x : Plain h c) : c < h.objs.size := x.elim fun _ q => Heap.lt_size q.1
theorem drawn {its : List Value} {i : Nat} {p q : Value} (hp : its.toArray[i]? = some p) (hq : its[i]? = some q) : p = q := by
  rw [List.getElem?_toArray, hq] at hp
  exact (Option.some.inj hp).symm
theorem in_size {its : List Value} {i : Nat} {q : Value} (hq : its[i]? = some q) : i < its.toArray.size := by
  rw [List.size_toArray]
  exact (List.getElem?_eq_some_iff.mp hq).1
theorem each5 {R : Addr → Prop} {a b c d e : Addr} (ra : R a) (rb : R b) (rc : R c) (rd : R d) (re : R e) : ∀ x ∈ [a, b, c, d, e], R x :=
  List.forall_mem_cons.mpr ⟨ra, List.forall_mem_cons.mpr ⟨rb, List.forall_mem_cons.mpr ⟨rc, List.forall_mem_cons.mpr ⟨rd, List.forall_mem_singleton.mpr re⟩⟩⟩⟩
theorem each2 {R : Addr → Prop} {a b : Addr} (ra : R a) (rb : R b) : ∀ x ∈ [a, b], R x := List.forall_mem_cons.mpr ⟨ra, List.forall_mem_singleton.mpr rb⟩
theorem out5 {x a b c d e : Addr} (h : x ∉ [a, b, c, d, e]) : x ≠ a ∧ x ≠ b ∧ x ≠ c ∧ x ≠ d ∧ x ≠ e :=
  ⟨fun z => h (by simp [z]), fun z => h (by simp [z]), fun z => h (by simp [z]), fun z => h (by simp [z]), fun z => h (by simp [z])⟩
theorem out2 {x a b : Addr} (h : x ∉ [a, b]) : x ≠ a ∧ x ≠ b := ⟨fun z => h (by simp [z]), fun z => h (by simp [z])⟩
/-- the five cells of a zip of two, i items drawn -/
structure ZipAt (k1 k2 : Bool) (a b z TI TO i1 i2 : Addr) (i : Nat) (h : Heap) : Prop where
  zip : IsZip h z TI TO .none
  pair : IsTupOf2 h TI (.ref i1) (.ref i2)
  out : ∃ x y, IsTupOf2 h TO x y
  one : IsItK k1 h i1 a i
  two : IsItK k2 h i2 b i
section
variable {k1 k2 : Bool} {a b z TI TO i1 i2 : Addr} {i : Nat} {h h' : Heap}
theorem ZipAt.plain (q : ZipAt k1 k2 a b z TI TO i1 i2 i h) : ∀ c ∈ [z, TI, TO, i1, i2], Plain h c := by
  obtain ⟨x, y, o⟩ := q.out
  exact each5 ⟨_, q.zip, fun v e => nomatch e⟩ ⟨_, q.pair, fun v e => nomatch e⟩ ⟨_, o, fun v e => nomatch e⟩ q.one.obj q.two.obj
theorem ZipAt.moved (q : ZipAt k1 k2 a b z TI TO i1 i2 i h) (f : ∀ c ∈ [z, TI, TO, i1, i2], ∀ o, h.get? c = some o → h'.get? c = some o) : ZipAt k1 k2 a b z TI TO i1 i2 i h' := by
  obtain ⟨x, y, o⟩ := q.out
  exact { zip := f z (by simp) _ q.zip, pair := f TI (by simp) _ q.pair, out := ⟨x, y, f TO (by simp) _ o⟩, one := q.one.keep (f i1 (by simp)), two := q.two.keep (f i2 (by simp)) }
end
theorem turn_zipM {P : Program} {w : World} {K : PySem.W.Frag} {elts : List Expr} {kk : Nat} {tpos : Pos} (k1 k2 : Bool) {a b z TI TO i1 i2 : Addr} (D : ZipSep2 z TI TO i1 i2 [i1, a] [i2, b]) (na : a ≠ i1) (nb : b ≠ i2) :
    Turn P w K (.Tuple elts kk tpos) (ItzM K k1 k2 a b) [z, TI, TO, i1, i2] z (ZipAt k1 k2 a b z TI TO i1 i2) where
  mem := List.mem_cons_self ..
  obj := fun _ _ q => q.plain
  keep := fun _ _ _ q f => q.moved f
  item := by
    intro Y eP ew eK calm i pins s σ H E I free q g
    subst eP; subst ew; subst eK
    obtain ⟨xs, ys, x, y, sx, sy, ix, iy⟩ := g
    obtain ⟨as, va, pa, -, -⟩ := seqK k1 I sx
    obtain ⟨bs, vb, pb, -, -⟩ := seqK k2 I sy
    obtain ⟨u, gu, ru⟩ := va.get ix
    obtain ⟨t, gt, rt⟩ := vb.get iy
    have quiet : Y.A.in1.handled = none := I.ok.hd calm
    have q0 := q
    obtain ⟨fz, fp, ⟨o1, o2, fo⟩, f1, f2⟩ := q
    have fresh := I.hok.fresh (Nat.le_refl s.heap.objs.size)
    refine wpAny_pyNext_zipD2_item D (drawsK k1 quiet i1 a na as.toArray) (drawsK k2 quiet i2 b nb bs.toArray) fz fp fo ⟨f1, pa⟩ ⟨f2, pb⟩ (in_size gu) (in_size gt) fun u' t' g1 tk du dt z1 out1 n1 n2 born _ old => ?_
    obtain rfl : u' = u := drawn du gu
    obtain rfl : t' = t := drawn dt gt
    refine ⟨_, rfl, wpAny_letOwnedTupleGo_zip (s := { s with heap := g1, toks := tk }) z1 fun g2 z2 rest => ?_⟩
    have stay : ∀ c o, c ∉ [z, TI, TO, i1, i2] → s.heap.get? c = some o → g2.get? c = some o := fun c o no ho => by
      obtain ⟨m1, _, m3, m4, m5⟩ := out5 no
      exact (rest.2 c m1).trans (old c o m1 m3 m4 m5 ho)
    have made : ObjOk Y.prog Y.w (upd H s.heap.objs.size (.tup [x, y])) g2 s.heap.objs.size (.tup [x, y]) :=
      ⟨(by decide : 2 ≤ sizeLine), [u', t'], .cons ru (.cons rt .nil), _, (rest.2 _ (Nat.ne_of_gt (Heap.lt_size fz))).trans born, rfl, _, rfl⟩
    have J := I.turnedNew (t' := tk) stay free (Nat.le_refl _) made
    have next : ZipAt k1 k2 a b z TI TO i1 i2 (i + 1) g2 :=
      { zip := z2, pair := (rest.2 TI D.TIz).trans (old TI _ D.TIz D.TITO D.TIi1 D.TIi2 fp), out := ⟨u', t', (rest.2 TO D.TOz).trans out1⟩,
        one := n1.1.keep fun _ e => (rest.2 i1 D.zi1.symm).trans e, two := n2.1.keep fun _ e => (rest.2 i2 D.zi2.symm).trans e }
    exact ⟨.ref s.heap.objs.size, _, J, rfl, ⟨_, x, y, rfl, fresh, rfl, fun l h => seqK_inj I sx h ▸ ix, fun l h => seqK_inj I sy h ▸ iy⟩, next, fun c m => (upd_ne (Nat.ne_of_lt (q0.plain c m).lt)).trans (free c m).1⟩
  done := by
    intro Y eP ew eK calm i pins s σ H E I free q g
    subst eP; subst ew; subst eK
    obtain ⟨xs, ys, sx, sy, fin⟩ := g
    obtain ⟨as, va, pa, -, -⟩ := seqK k1 I sx
    obtain ⟨bs, vb, pb, -, -⟩ := seqK k2 I sy
    have na' := va.length
    have nb' := vb.length
    have quiet : Y.A.in1.handled = none := I.ok.hd calm
    obtain ⟨fz, fp, ⟨o1, o2, fo⟩, f1, f2⟩ := q
    have za : as.toArray.size = xs.length := by rw [List.size_toArray]; omega
    have zb : bs.toArray.size = ys.length := by rw [List.size_toArray]; omega
    refine wpAny_pyNext_zipD2_end D (drawsK k1 quiet i1 a na as.toArray) (drawsK k2 quiet i2 b nb bs.toArray) fz fp fo ⟨f1, pa⟩ ⟨f2, pb⟩ (by omega) (by omega) (by omega) fun g1 tk old => ⟨rfl, I.turnedL (t' := tk) (fun c o no ho => ?_) free⟩
    obtain ⟨m1, _, m3, m4, m5⟩ := out5 no
    exact old c o m1 m3 m4 m5 ho
  self := fun A i s Q E q h => wpAny_pyIter_zip q.zip h
def iZipM (K : PySem.W.Frag) (ta : TA) : TI := fun σ H R => ta σ H fun vs H1 => ∃ k1 k2 a b xs ys, vs = [.ref a, .ref b] ∧ SqK k1 K H1 a xs ∧ SqK k2 K H1 b ys ∧ R (ItzM K k1 k2 a b) H1
theorem pi_zipM {X : Cx} {e e2 : Expr} {ta : TA} {p pos tpos : Pos} {elts : List Expr} {kk : Nat} (hg : Gl X "zip") (hm : X.mg "zip" = none) (ha : PA X [e, e2] ta)
    (st : starEach [e, e2] X.env = (false, eval e X.env) :: starEach [e2] X.env := by rfl) (pl : (backTo pos (starEach [e2] X.env)).any (·.1) = false := by rfl) :
    PI X (.Tuple elts kk tpos) (.Call (.Name "zip" p) [e, e2] [] pos) (iZipM X.K ta) := by
  constructor
  intro pins s σ H R I h
  refine Call_ (ld_blt I hg hm PyProof.Rows.boot_zip (PyProof.Rows.callWith_type1 (thn (ha.run pos pins s σ H _ I h) fun us s1 ⟨vs, H1, J, reps, more⟩ => ?_) st pl))
  obtain ⟨k1, k2, a, b, xs, ys, rfl, sx, sy, goOn⟩ := more
  cases reps with
  | cons ra tail =>
    rcases tail with _ | ⟨rb, tail⟩
    cases tail
    cases ra
    cases rb
    obtain ⟨as, -, pa, la, -⟩ := seqK k1 J sx
    obtain ⟨bs, -, pb, lb, -⟩ := seqK k2 J sy
    refine zip_begins2 (beginsK k1 a as.toArray) (beginsK k2 b bs.toArray) pa pb fun g1 fz fp fo b1 b2 _ old => wpAny_pyIter_zip fz ?_
    let N : Nat := s1.heap.objs.size
    have high : ∀ c, N ≤ c → FpOk X pins H1 c := fun c le => J.fpOk le (J.hok.fresh le)
    have apart : ZipSep2 (N + 4) (N + 2) (N + 3) N (N + 1) [N, a] [N + 1, b] := zip_sep2 (List.forall_mem_singleton.mpr la) (List.forall_mem_singleton.mpr lb)
    exact ⟨N + 4, [N + 4, N + 2, N + 3, N, N + 1], _, _, H1, rfl, J.kept (t' := s1.toks) old, turn_zipM k1 k2 apart (Nat.ne_of_lt la) (Nat.ne_of_lt (Nat.lt_succ_of_lt lb)), ⟨fz, fp, ⟨_, _, fo⟩, itK_of b1, itK_of b2⟩,
      each5 (high _ (Nat.le_add_right N 4)) (high _ (Nat.le_add_right N 2)) (high _ (Nat.le_add_right N 3)) (high _ (Nat.le_refl N)) (high _ (Nat.le_add_right N 1)), goOn⟩
theorem walk_zipM {K : PySem.W.Frag} {k1 k2 : Bool} {a b : Addr} {xs ys : List V} {n : Nat} (hn : n = min xs.length ys.length) : Walk (ItzM K k1 k2 a b) n (fun H => SqK k1 K H a xs ∧ SqK k2 K H b ys) (YPair (fun i => xs[i]?) (fun i => ys[i]?)) := by
  subst hn
  refine ⟨fun i _ lt q => ?_, fun _ q => ⟨xs, ys, q.1, q.2, rfl⟩, fun i H v H' _ q y => ?_⟩
  · have lx := Nat.lt_of_lt_of_le lt (Nat.min_le_left _ _)
    have ly := Nat.lt_of_lt_of_le lt (Nat.min_le_right _ _)
    exact ⟨xs, ys, xs[i], ys[i], q.1, q.2, List.getElem?_eq_getElem lx, List.getElem?_eq_getElem ly⟩
  · obtain ⟨T, x, z, e1, e2, e3, dx, dy⟩ := y
    exact ⟨T, x, z, e1, e2, e3, dx _ q.1, dy _ q.2⟩

/-! ### enumerate of a list or a tuple -/
def IteM (K : PySem.W.Frag) (k : Bool) (a : Addr) : It :=
  ⟨fun i H => ∃ (xs : List V) (x : V), SqK k K H a xs ∧ xs[i]? = some x, fun i H v H' => ∃ T x, v = .ref T ∧ H T = none ∧ H' = upd H T (.tup [.int (i : Nat), x]) ∧ ∀ xs, SqK k K H a xs → xs[i]? = some x, fun i H => ∃ xs : List V, SqK k K H a xs ∧ i = xs.length⟩
/-- an enumeration's two cells, i items drawn -/
structure EnumAt (k : Bool) (a e it : Addr) (i : Nat) (h : Heap) : Prop where
  enum : ∃ old, IsEnum h e it ((i : Nat) : Int) old
  one : IsItK k h it a i
  ne : e ≠ it
theorem EnumAt.plain {k : Bool} {a e it : Addr} {i : Nat} {h : Heap} (q : EnumAt k a e it i h) : ∀ c ∈ [e, it], Plain h c := by
  obtain ⟨⟨old, x⟩, y, _⟩ := q
  exact each2 ⟨_, x, fun v z => nomatch z⟩ y.obj
theorem turn_enumM {P : Program} {w : World} {K : PySem.W.Frag} {elts : List Expr} {kk : Nat} {tpos : Pos} (k : Bool) (a e it : Addr) (na : a ≠ it) (ne : e ≠ a) :
    Turn P w K (.Tuple elts kk tpos) (IteM K k a) [e, it] e (EnumAt k a e it) where
  mem := List.mem_cons_self ..
  obj := fun _ _ q => q.plain
  keep := fun _ _ _ q f => { enum := q.enum.imp fun _ x => f e (by simp) _ x, one := q.one.keep (f it (by simp)), ne := q.ne }
  item := by
    intro Y eP ew eK calm i pins s σ H E I free q g
    subst eP; subst ew; subst eK
    obtain ⟨xs, x, sx, ix⟩ := g
    obtain ⟨as, va, pa, -, -⟩ := seqK k I sx
    obtain ⟨u, gu, ru⟩ := va.get ix
    have quiet : Y.A.in1.handled = none := I.ok.hd calm
    have q0 := q
    obtain ⟨⟨old0, fe⟩, f1, apart⟩ := q
    have fresh := I.hok.fresh (Nat.le_refl s.heap.objs.size)
    refine wpAny_pyNext_enum_itemC (drawsK k quiet it a na as.toArray) fe ⟨f1, pa⟩ (in_size gu) apart (by simp [apart, ne]) fun u' g1 tk du out1 n1 born _ old => ?_
    obtain rfl : u' = u := drawn du gu
    refine ⟨_, rfl, wpAny_letOwnedTupleGo_enum (s := { s with heap := g1, toks := tk + 1 }) out1 fun g2 e2 rest => ?_⟩
    have stay : ∀ c o, c ∉ [e, it] → s.heap.get? c = some o → g2.get? c = some o := fun c o no ho => (rest.2 c (out2 no).1).trans (old c o (out2 no).1 (out2 no).2 ho)
    have made : ObjOk Y.prog Y.w (upd H s.heap.objs.size (.tup [.int (i : Nat), x])) g2 s.heap.objs.size (.tup [.int (i : Nat), x]) :=
      ⟨(by decide : 2 ≤ sizeLine), [.int i tk, u'], .cons ⟨_, rfl⟩ (.cons ru .nil), _, (rest.2 _ (Nat.ne_of_gt (Heap.lt_size fe))).trans born, rfl, _, rfl⟩
    have J := I.turnedNew (t' := tk + 1) stay free (Nat.le_refl _) made
    have next : EnumAt k a e it (i + 1) g2 := { enum := ⟨u', (Int.natCast_add i 1).symm ▸ e2⟩, one := n1.1.keep fun _ z => (rest.2 it apart.symm).trans z, ne := apart }
    exact ⟨.ref s.heap.objs.size, _, J, rfl, ⟨_, x, rfl, fresh, rfl, fun l h => seqK_inj I sx h ▸ ix⟩, next, fun c m => (upd_ne (Nat.ne_of_lt (q0.plain c m).lt)).trans (free c m).1⟩
  done := by
    intro Y eP ew eK calm i pins s σ H E I free q g
    subst eP; subst ew; subst eK
    obtain ⟨xs, sx, fin⟩ := g
    obtain ⟨as, va, pa, -, -⟩ := seqK k I sx
    have na' := va.length
    have quiet : Y.A.in1.handled = none := I.ok.hd calm
    obtain ⟨⟨old0, fe⟩, f1, apart⟩ := q
    have za : i = as.toArray.size := by rw [List.size_toArray]; omega
    subst za
    obtain ⟨c0, c1, _, c3, c4, c5⟩ := free it (List.mem_cons_of_mem _ (List.mem_singleton.mpr rfl))
    exact wpAny_pyNext_enum_endD (drawsK k quiet it a na as.toArray) fe ⟨f1, pa⟩ fun g1 old => ⟨rfl, I.turned (t' := s.toks) old c0 c1 c3 c4 c5⟩
  self := fun A i s Q E q h => q.enum.elim fun _ x => wpAny_pyIter_enum x h
/-- what enumerate(v) leaves: v's iterator, the enumeration behind it -/
def enumObj (n : Addr) : Obj := { cls := .type "enumerate", data := .fields #[.none, .bool false, .ref n, rawInt 0, .none, .none] }
set_option maxHeartbeats 4000000 in
theorem meets_enum1 {v : Value} {o : Obj} {H : Heap → Prop} (B : Begins v o H) :
    Meets (Builtin.«enumerate.__new__» ⟨[.type "enumerate", v], []⟩) (fun _ R s => H s.heap ∧ R (.ok (.ret (.ref (s.heap.push o).objs.size))) { s with heap := (s.heap.push o).push (enumObj s.heap.objs.size) }) := by
  refine .of_wp fun prog w A R s ⟨at0, goOn⟩ => ?_
  have known := sub_enumerate
  cases s with
  | mk hp gs dd tk os =>
  have opens : ∀ {A' : Around} {E : Value → Shared → Prop} {Q : Value → Shared → Prop}, Q (.ref hp.objs.size) ⟨hp.push o, gs, dd, tk, os⟩ → wpAny (model prog w) A' (pyIter v) Q E ⟨hp, gs, dd, tk, os⟩ := fun q => B.iter prog w _ _ _ _ at0 q
  wp_walk using opens
  refine wpAny_stack_any fun _ => wpAny_pure ?_
  split
  · rename_i c _ _ _ _ _
    generalize (c == Value.type "enumerate") = own
    cases own <;> (wp_walk using opens; exact ⟨_, rfl, goOn⟩)
  · wp_walk using opens
    exact ⟨_, rfl, goOn⟩
theorem enum_begins1 {prog : Program} {w : World} {A : Around} {E : Value → Shared → Prop} {s : Shared} {v : Value} {o : Obj} {H : Heap → Prop} {Q : Value → Shared → Prop} (B : Begins v o H) (at0 : H s.heap)
    (k : ∀ g, IsEnum g (s.heap.objs.size + 1) s.heap.objs.size 0 .none → g.get? s.heap.objs.size = some o → (∀ b u, s.heap.get? b = some u → g.get? b = some u) → Q (.ref (s.heap.objs.size + 1)) { s with heap := g }) :
    wpAny (model prog w) A (call (.type "enumerate") [v]) Q E s := by
  refine callType_new F.called_enumerate (by decide) (F.typeCall_enumerate_1 _) (F.newCall_enumerate_1 _) (fun self => F.args_object_init_2 self _) F.entry_enumerate_new (meets_enum1 B) ⟨at0, ?_⟩
  have grown : (s.heap.push o).objs.size = s.heap.objs.size + 1 := Heap.size_push ..
  have top : ((s.heap.push o).push (enumObj s.heap.objs.size)).get? (s.heap.push o).objs.size = some (enumObj s.heap.objs.size) := Heap.get?_push_size _ rfl
  rw [grown] at top
  show (∃ r, _) ∧ _
  rw [grown]
  exact ⟨⟨_, top, rfl⟩, k _ top (Heap.get?_push_of_some _ (Heap.get?_push_size _ B.free)) fun _ _ z => Heap.get?_push_of_some _ (Heap.get?_push_of_some _ z)⟩
def iEnumM (K : PySem.W.Frag) (ta : TA) : TI := fun σ H R => ta σ H fun vs H1 => ∃ k a xs, vs = [.ref a] ∧ SqK k K H1 a xs ∧ R (IteM K k a) H1
theorem pi_enumM {X : Cx} {e : Expr} {ta : TA} {p pos tpos : Pos} {elts : List Expr} {kk : Nat} (hg : Gl X "enumerate") (hm : X.mg "enumerate" = none) (ha : PA X [e] ta) (st : starEach [e] X.env = [(false, eval e X.env)] := by rfl) :
    PI X (.Tuple elts kk tpos) (.Call (.Name "enumerate" p) [e] [] pos) (iEnumM X.K ta) := by
  constructor
  intro pins s σ H R I h
  refine Call_ (ld_blt I hg hm boot_enumerate (PyProof.Rows.callWith_type1 (thn (ha.run pos pins s σ H _ I h) fun us s1 ⟨vs, H1, J, reps, more⟩ => ?_) st rfl))
  obtain ⟨k, a, xs, rfl, sx, goOn⟩ := more
  cases reps with
  | cons ra tail =>
    cases tail
    cases ra
    obtain ⟨as, -, pa, la, -⟩ := seqK k J sx
    refine enum_begins1 (beginsK k a as.toArray) pa fun g1 fe b1 old => wpAny_pyIter_enum fe ?_
    let N : Nat := s1.heap.objs.size
    have high : ∀ c, N ≤ c → FpOk X pins H1 c := fun c le => J.fpOk le (J.hok.fresh le)
    exact ⟨N + 1, [N + 1, N], _, _, H1, rfl, J.kept (t' := s1.toks) old, turn_enumM k a (N + 1) N (Nat.ne_of_lt la) (Nat.ne_of_gt (Nat.lt_succ_of_lt la)), ⟨⟨.none, fe⟩, itK_of b1, Nat.succ_ne_self N⟩,
      each2 (high _ (Nat.le_add_right N 1)) (high _ (Nat.le_refl N)), goOn⟩
theorem walk_enumM {K : PySem.W.Frag} {k : Bool} {a : Addr} {xs : List V} {n : Nat} (hn : n = xs.length) : Walk (IteM K k a) n (fun H => SqK k K H a xs) (YPair (fun i => some (.int (i : Nat))) (fun i => xs[i]?)) := by
  subst hn
  refine ⟨fun i _ lt q => ⟨xs, xs[i], q, List.getElem?_eq_getElem lt⟩, fun _ q => ⟨xs, q, rfl⟩, fun i H v H' _ q y => ?_⟩
  obtain ⟨T, x, e1, e2, e3, dx⟩ := y
  exact ⟨T, .int (i : Nat), x, e1, e2, e3, rfl, dx _ q⟩
end Dp
set_option maxHeartbeats 2000000
namespace Dp
open PySem PySem.Spec PyProof.Rows L2
/-! ### sum, min, max of lists and tuples of ints -/
theorem dpInts {K : PySem.W.Frag} {H : Hp} : ∀ ns : List Int, DpAll K H (ns.map V.int) (ns.map PyData.int)
  | [] => .nil
  | n :: ns => .cons (.int n) (dpInts ns)
theorem intMin : ∀ (xs : List Int) (x : Int), PySem.W.minOf x xs ∈ x :: xs ∧ ∀ y ∈ x :: xs, PySem.W.minOf x xs ≤ y
  | [], x => ⟨by simp [PySem.W.minOf], by simp [PySem.W.minOf]⟩
  | z :: xs, x => by
    have e : PySem.W.minOf x (z :: xs) = PySem.W.minOf (if PySem.W.DatumOrd.lt z x = true then z else x) xs := rfl
    rw [e]
    have d : (PySem.W.DatumOrd.lt z x = true) ↔ z < x := by
      show (decide (z < x) = true) ↔ z < x
      exact decide_eq_true_iff
    by_cases c : z < x
    · rw [if_pos (d.mpr c)]
      obtain ⟨h1, h2⟩ := intMin xs z
      refine ⟨List.mem_cons_of_mem _ h1, fun y hy => ?_⟩
      rcases List.mem_cons.mp hy with q | q
      · have := h2 z List.mem_cons_self
        omega
      · exact h2 y q
    · rw [if_neg (fun q => c (d.mp q))]
      obtain ⟨h1, h2⟩ := intMin xs x
      refine ⟨?_, fun y hy => ?_⟩
      · rcases List.mem_cons.mp h1 with q | q
        · rw [q]; exact List.mem_cons_self
        · exact List.mem_cons_of_mem _ (List.mem_cons_of_mem _ q)
      · rcases List.mem_cons.mp hy with q | q
        · rw [q]; exact h2 x List.mem_cons_self
        · rcases List.mem_cons.mp q with q | q
          · have := h2 x List.mem_cons_self
            omega
          · exact h2 y (List.mem_cons_of_mem _ q)
theorem intMax : ∀ (xs : List Int) (x : Int), PySem.W.maxOf x xs ∈ x :: xs ∧ ∀ y ∈ x :: xs, y ≤ PySem.W.maxOf x xs
  | [], x => ⟨by simp [PySem.W.maxOf], by simp [PySem.W.maxOf]⟩
  | z :: xs, x => by
    have e : PySem.W.maxOf x (z :: xs) = PySem.W.maxOf (if PySem.W.DatumOrd.lt x z = true then z else x) xs := rfl
    rw [e]
    have d : (PySem.W.DatumOrd.lt x z = true) ↔ x < z := by
      show (decide (x < z) = true) ↔ x < z
      exact decide_eq_true_iff
    by_cases c : x < z
    · rw [if_pos (d.mpr c)]
      obtain ⟨h1, h2⟩ := intMax xs z
      refine ⟨List.mem_cons_of_mem _ h1, fun y hy => ?_⟩
      rcases List.mem_cons.mp hy with q | q
      · have := h2 z List.mem_cons_self
        omega
      · exact h2 y q
    · rw [if_neg (fun q => c (d.mp q))]
      obtain ⟨h1, h2⟩ := intMax xs x
      refine ⟨?_, fun y hy => ?_⟩
      · rcases List.mem_cons.mp h1 with q | q
        · rw [q]; exact List.mem_cons_self
        · exact List.mem_cons_of_mem _ (List.mem_cons_of_mem _ q)
      · rcases List.mem_cons.mp hy with q | q
        · rw [q]; exact h2 x List.mem_cons_self
        · rcases List.mem_cons.mp q with q | q
          · have := h2 x List.mem_cons_self
            omega
          · exact h2 y (List.mem_cons_of_mem _ q)
theorem reads_int {h : Heap} {v : Value} {m : Int} (r : PySem.W.Holds h v m) : ∃ t, v = .int m t := by
  obtain ⟨as, r⟩ := r
  have r' : Reads h v (.int m) as := r
  cases r' with
  | int _ t => exact ⟨t, rfl⟩
theorem reads_int_eq {h : Heap} {d e : Int} {t : Tok} {as : List Addr} (r : Reads h (.int d t) (.int e) as) : d = e := by
  cases r
  rfl
section
variable {X : Cx}
def rSumK (K : PySem.W.Frag) : List V → Hp → VK → Prop := fun vs H Q => ∃ (k : Bool) (a : Addr) (ns : List Int), vs = [V.ref a] ∧ SqK k K H a (ns.map V.int) ∧ Q (.int ns.sum) H
theorem cr_sumK (hc : X.calm = true) : CallR X (.builtin "sum") (rSumK X.K) := by
  intro pins s σ H vs us Q I r h
  obtain ⟨k, a, ns, rfl, hs, q⟩ := h
  cases k with
  | true => exact cr_sum hc pins s σ H _ us Q I r ⟨a, ns, rfl, hs, q⟩
  | false =>
    obtain ⟨its, rv, ht, _⟩ := I.tuple hs
    rw [Vals.ref1 r]
    have all : IntsAre its ns := rv.ints
    obtain ⟨pairs, e⟩ := all.allInts.items
    have nums : numsOf (intItems pairs).toList = ns := e ▸ all.numsOf
    refine PySem.W.ktm_sumG (xs := pairs) (I.ok.hd hc) (e ▸ ht) fun h' tk t' hk => ⟨.int ns.sum, H, I.kept hk, ⟨t', ?_⟩, q⟩
    rw [nums_intItems] at nums
    rw [preSum_eq, List.take_of_length_le (Nat.le_of_eq (by simp)), nums]
def rMinK' (K : PySem.W.Frag) : List V → Hp → VK → Prop := fun vs H Q => ∃ (k : Bool) (a : Addr) (ns : List Int), vs = [V.ref a] ∧ SqK k K H a (ns.map V.int) ∧ ns ≠ [] ∧ ∀ m, m ∈ ns → (∀ y ∈ ns, m ≤ y) → Q (.int m) H
def rMaxK' (K : PySem.W.Frag) : List V → Hp → VK → Prop := fun vs H Q => ∃ (k : Bool) (a : Addr) (ns : List Int), vs = [V.ref a] ∧ SqK k K H a (ns.map V.int) ∧ ns ≠ [] ∧ ∀ m, m ∈ ns → (∀ y ∈ ns, y ≤ m) → Q (.int m) H
theorem cr_minK' (hc : X.calm = true) (hu : X.A.units + 1 < cLine) : CallR X (.builtin "min") (rMinK' X.K) := by
  intro pins s σ H vs us Q I r h
  obtain ⟨k, a, ns, rfl, hs, hne, q⟩ := h
  obtain ⟨its, rv, hq, _⟩ := seqK k I hs
  rw [Vals.ref1 r]
  cases ns with
  | nil => exact absurd rfl hne
  | cons n ns =>
    have hr := Dp.readsAll I _ _ its (dpInts (n :: ns)) rv
    have hm := intMin ns n
    have fin : ∀ v h' tk, PySem.W.Holds h' v (PySem.W.minOf n ns) → (∀ b o, s.heap.get? b = some o → h'.get? b = some o) → EP X pins σ Q v { s with heap := h', toks := tk } := fun v h' tk hv hk => by
      obtain ⟨t, rfl⟩ := reads_int hv
      exact ⟨.int _, H, I.kept hk, ⟨_, rfl⟩, q _ hm.1 hm.2⟩
    cases k with
    | true => exact PySem.W.min_list_datum (I.ok.hd hc) hq hr (by exact hu) fun i v h' tk _ hv hk => fin v h' tk hv hk
    | false => exact PySem.W.min_tuple_datum (I.ok.hd hc) hq hr (by exact hu) fun i v h' tk _ hv hk => fin v h' tk hv hk
theorem cr_maxK' (hc : X.calm = true) (hu : X.A.units + 1 < cLine) : CallR X (.builtin "max") (rMaxK' X.K) := by
  intro pins s σ H vs us Q I r h
  obtain ⟨k, a, ns, rfl, hs, hne, q⟩ := h
  obtain ⟨its, rv, hq, _⟩ := seqK k I hs
  rw [Vals.ref1 r]
  cases ns with
  | nil => exact absurd rfl hne
  | cons n ns =>
    have hr := Dp.readsAll I _ _ its (dpInts (n :: ns)) rv
    have hm := intMax ns n
    have fin : ∀ v h' tk, PySem.W.Holds h' v (PySem.W.maxOf n ns) → (∀ b o, s.heap.get? b = some o → h'.get? b = some o) → EP X pins σ Q v { s with heap := h', toks := tk } := fun v h' tk hv hk => by
      obtain ⟨t, rfl⟩ := reads_int hv
      exact ⟨.int _, H, I.kept hk, ⟨_, rfl⟩, q _ hm.1 hm.2⟩
    cases k with
    | true => exact PySem.W.max_list_datum (I.ok.hd hc) hq hr (by exact hu) fun i v h' tk _ hv hk => fin v h' tk hv hk
    | false => exact PySem.W.max_tuple_datum (I.ok.hd hc) hq hr (by exact hu) fun i v h' tk _ hv hk => fin v h' tk hv hk
end
/-! ### min of a list of pairs (a number, a tuple of numbers) -/
abbrev PairD := Int × PySem.W.Tup Int
theorem pairMin : ∀ (xs : List PairD) (x : PairD), ∀ y ∈ x :: xs, (PySem.W.minOf x xs).1 ≤ y.1
  | [], x => by simp [PySem.W.minOf]
  | z :: xs, x => by
    have e : PySem.W.minOf x (z :: xs) = PySem.W.minOf (if PySem.W.DatumOrd.lt z x = true then z else x) xs := rfl
    rw [e]
    have d : PySem.W.DatumOrd.lt z x = (if z.1 = x.1 then PySem.W.DatumOrd.lt z.2 x.2 else decide (z.1 < x.1)) := rfl
    by_cases c : PySem.W.DatumOrd.lt z x = true
    · rw [if_pos c]
      have le : z.1 ≤ x.1 := by
        rw [d] at c
        by_cases e1 : z.1 = x.1
        · omega
        · rw [if_neg e1] at c
          exact Int.le_of_lt (of_decide_eq_true c)
      have h2 := pairMin xs z
      intro y hy
      rcases List.mem_cons.mp hy with q | q
      · have := h2 z List.mem_cons_self
        rw [q]; omega
      · exact h2 y q
    · rw [if_neg c]
      have le : x.1 ≤ z.1 := by
        rw [d] at c
        by_cases e1 : z.1 = x.1
        · omega
        · rw [if_neg e1] at c
          have : ¬ z.1 < x.1 := fun q => c (decide_eq_true q)
          omega
      have h2 := pairMin xs x
      intro y hy
      rcases List.mem_cons.mp hy with q | q
      · rw [q]; exact h2 x List.mem_cons_self
      · rcases List.mem_cons.mp q with q | q
        · have := h2 x List.mem_cons_self
          rw [q]; omega
        · exact h2 y (List.mem_cons_of_mem _ q)
/-- a pair as it stands: its address, the address of its word, the number, the word -/
structure PairAt where
  at_ : Addr
  wat : Addr
  num : Int
  word : List Int
def PairAt.ok (K : PySem.W.Frag) (H : Hp) (p : PairAt) : Prop := SqT K H p.at_ [.int p.num, .ref p.wat] ∧ SqT K H p.wat (p.word.map V.int)
theorem dpPair {K : PySem.W.Frag} {H : Hp} {p : PairAt} (h : p.ok K H) : L2.Dp K H (.ref p.at_) (PySem.W.Datum.toD (((p.num, ⟨p.word⟩) : PairD))) := by
  refine .tup h.1 (.cons (.int _) (.cons (.tup h.2 ?_) .nil))
  exact dpInts p.word
theorem dpPairs {K : PySem.W.Frag} {H : Hp} : ∀ ps : List PairAt, (∀ p ∈ ps, p.ok K H) → DpAll K H (ps.map fun p => V.ref p.at_) (ps.map fun p => PySem.W.Datum.toD (((p.num, ⟨p.word⟩) : PairD)))
  | [], _ => .nil
  | p :: ps, h => .cons (dpPair (h p List.mem_cons_self)) (dpPairs ps fun q hq => h q (List.mem_cons_of_mem _ hq))
section
variable {X : Cx}
def rMinP (K : PySem.W.Frag) : List V → Hp → VK → Prop := fun vs H Q => ∃ (a : Addr) (ps : List PairAt), vs = [V.ref a] ∧ SqL K H a (ps.map fun p => V.ref p.at_) ∧ (∀ p ∈ ps, p.ok K H) ∧ ps ≠ [] ∧ ∀ p ∈ ps, (∀ q ∈ ps, p.num ≤ q.num) → Q (.ref p.at_) H
theorem cr_minP (hc : X.calm = true) (hu : X.A.units + 3 < cLine) : CallR X (.builtin "min") (rMinP X.K) := by
  intro pins s σ H vs us Q I r h
  obtain ⟨a, ps, rfl, hs, hps, hne, q⟩ := h
  obtain ⟨its, rv, hl, _⟩ := I.list hs
  rw [Vals.ref1 r]
  cases ps with
  | nil => exact absurd rfl hne
  | cons p0 ps =>
    have hr := Dp.readsAll I _ _ its (dpPairs (p0 :: ps) hps) rv
    have hm := pairMin (ps.map fun p => ((p.num, ⟨p.word⟩) : PairD)) ((p0.num, ⟨p0.word⟩) : PairD)
    have hr' : PySem.W.HoldAll s.heap its (((p0.num, ⟨p0.word⟩) : PairD) :: ps.map fun p => ((p.num, ⟨p.word⟩) : PairD)) := by
      obtain ⟨as, hr⟩ := hr
      refine ⟨as, ?_⟩
      rw [List.map_cons, List.map_map]
      exact hr
    refine PySem.W.min_list_datum (vs := its.toArray) (I.ok.hd hc) hl.isList hr' (by exact hu) fun i v h' tk hi hv hk => ?_
    have hi' : its[i]? = some v := by simpa using hi
    have hlt : i < (p0 :: ps).length := by
      have l := rv.length
      rw [List.length_map] at l
      have := (List.getElem?_eq_some_iff.mp hi').1
      omega
    have gi : ((p0 :: ps).map fun p => V.ref p.at_)[i]? = some (.ref ((p0 :: ps)[i]).at_) := by
      rw [List.getElem?_map, List.getElem?_eq_getElem hlt]
      rfl
    obtain ⟨u, hu', ru⟩ := rv.get gi
    rw [hi'] at hu'
    have euv := Option.some.inj hu'
    subst euv
    cases ru
    generalize hp : (p0 :: ps)[i] = p at *
    have hpm : p ∈ p0 :: ps := by rw [← hp]; exact List.getElem_mem hlt
    have I' : L2.Inv X pins σ H { s with heap := h', toks := tk } := I.kept hk
    refine ⟨.ref p.at_, H, I', rfl, q p hpm fun y hy => ?_⟩
    obtain ⟨its2, rv2, ⟨o, ho, hc2, n, hd⟩, _⟩ := I'.tuple (hps p hpm).1
    obtain ⟨as, rd⟩ := hv
    have rd' : Reads h' (.ref p.at_) (.tuple [.int (PySem.W.minOf ((p0.num, ⟨p0.word⟩) : PairD) (ps.map fun p => ((p.num, ⟨p.word⟩) : PairD))).1, PySem.W.Datum.toD (PySem.W.minOf ((p0.num, ⟨p0.word⟩) : PairD) (ps.map fun p => ((p.num, ⟨p.word⟩) : PairD))).2]) as := rd
    have en : p.num = (PySem.W.minOf ((p0.num, ⟨p0.word⟩) : PairD) (ps.map fun p => ((p.num, ⟨p.word⟩) : PairD))).1 := by
      cases rd' with
      | tuple e1 e2 e3 e4 =>
        have ho' : h'.get? p.at_ = some o := ho
        rw [ho'] at e1
        cases e1
        rw [hd] at e3
        injection e3 with e3 _
        subst e3
        cases rv2 with
        | cons r1 r2 =>
          obtain ⟨t, rfl⟩ := r1
          have e5 : ReadsAll h' (.int p.num t :: _) _ _ := e4
          cases e5 with
          | cons e6 _ => exact reads_int_eq e6
    rw [en]
    have := hm ((y.num, ⟨y.word⟩) : PairD) (by
      rcases List.mem_cons.mp hy with z | z
      · rw [z]; exact List.mem_cons_self
      · exact List.mem_cons_of_mem _ (List.mem_map.mpr ⟨y, z, rfl⟩))
    exact this
/-! ### xs[i] read for xs[i] += e -/
def rGetL (K : PySem.W.Frag) : V → V → Hp → VK → Prop := fun o i H Q => ∃ (p : Addr) (xs : List V) (k : Nat) (v : V), o = .ref p ∧ i = .int (k : Nat) ∧ SqL K H p xs ∧ xs[k]? = some v ∧ Q v H
theorem get_list : PGet X (rGetL X.K) := by
  intro pins s σ H o i ov iv Q I ro ri h
  obtain ⟨p, xs, k, v, rfl, rfl, hs, hk, q⟩ := h
  cases ro
  obtain ⟨t, rfl⟩ := ri
  obtain ⟨its, rv, hl, hz⟩ := I.list hs
  obtain ⟨u, hu, ru⟩ := rv.get hk
  have hn := line63
  have hlt : k < xs.length := (List.getElem?_eq_some_iff.mp hk).1
  exact wpAny_getItem_list hl.isList (by omega) (by omega) (by simpa using hu) ⟨v, H, I, ru, q⟩
theorem ixN_nat {n k : Nat} (h : k < n) : ixN n (k : Int) = some k := by
  unfold ixN
  rw [if_pos (by omega), if_pos (by omega)]
  simp
/-! ### (x,) * k, k from 1 on -/
theorem tuple_mul1 (l : Addr) (items : Array Value) (n : Nat) (dd : Option Addr) (sl : Array (Option Value)) (u : Tok) :
    Meets (Builtin.«tuple.__mul__» ⟨[.ref l, .int 1 u], []⟩) (fun _ R s => s.heap.get? l = some { cls := .type "tuple", dict := dd, data := .seq items n, slots := sl } ∧
      R (.ok (.ret (Value.ref l))) s) :=
  .of_wp fun prog w A R s h => by
    obtain ⟨hp, g, d, tk, os⟩ := s
    obtain ⟨hl, h⟩ := h
    have f1 := AutoSeq1.idx_int
    wp_walk using wpAny_loadPart' hl
    repeat (first
      | (refine wpAny_ite_false (decide_eq_false (by decide)) ?_; wp_walk using wpAny_loadPart' hl)
      | (refine wpAny_ite_true (decide_eq_true (by simp)) ?_; wp_walk using wpAny_loadPart' hl))
    exact ⟨_, rfl, h⟩
end
end Dp
set_option maxHeartbeats 2000000
namespace Dp
open PySem PySem.Spec PyProof.Rows L2
/-! ### more rules -/
section
variable {X : Cx}
def ipM : TIp := fun x y H Q => ∃ i j, x = .int i ∧ y = .int j ∧ CMul i j ∧ Q (.int (i * j)) H
theorem ip_mul : PIp X .Mult ipM := by
  intro pins s σ H x y v u Q I r1 r2 h
  obtain ⟨i, j, e1, e2, hc, q⟩ := h
  subst e1; subst e2
  obtain ⟨t, rfl⟩ := r1
  obtain ⟨t', rfl⟩ := r2
  exact imul_int ⟨.int _, H, I.tok _, ⟨_, rfl⟩, q⟩ hc.ok
def rRepA (K : PySem.W.Frag) : R2 := fun x y H Q => ∃ (l : Addr) (k : Int) (xs : List V), x = .ref l ∧ y = .int k ∧ SqT K H l xs ∧ xs ≠ [] ∧ 1 ≤ k ∧ k ≤ 1000 ∧ xs.length ≤ 1000 ∧ (k = 1 → Q (.ref l) H) ∧ (2 ≤ k → ∀ p, H p = none → Q (.ref p) (upd H p (.tup (List.replicate k.toNat xs).flatten)))
theorem op_repA : OpR X (binaryOp .Mult) (rRepA X.K) := by
  intro pins s σ H x y v u Q I rx ry h
  obtain ⟨l, k, xs, rfl, rfl, hT, hne, h1, h2, hz, q1, q2⟩ := h
  by_cases c : k = 1
  · subst c
    cases rx
    obtain ⟨t, rfl⟩ := ry
    obtain ⟨its, r, ⟨⟨cls, dd, data, sl⟩, ho, hc, n, hd⟩, hs⟩ := I.tuple hT
    simp only at hc hd
    subst hc hd
    exact wpAny_binaryOp_repeat_ref (T := "tuple") (U := "int") (by decide) ⟨_, ho, rfl⟩ (fun s' => typeIs_int s' 1 t) noFill_tuple_mul F.fills_int_mul F.slot_int_rmul repeat_tuple F.slot_int_index.lookup
      (call_meets F.slot_int_rmul (typeIs_int s 1 t) F.entry_int_rmul (F.args_int_rmul_2 _ _) (int_rmul_tuple 1 t l its.toArray n dd sl)
        ⟨ho, rfl, ⟨_, ho, rfl⟩, call_meets F.slot_tuple_mul ⟨_, ho, rfl⟩ F.entry_tuple_mul (F.args_tuple_mul_2 _ _) (tuple_mul1 l its.toArray n dd sl t) ⟨ho, ⟨.ref l, H, I, rfl, q1 rfl⟩⟩⟩)
  · exact op_repT pins s σ H _ _ v u Q I rx ry ⟨l, k, xs, rfl, rfl, hT, hne, by omega, h2, hz, q2 (by omega)⟩
def rLen (K : PySem.W.Frag) : List V → Hp → VK → Prop := fun xs H Q => ∃ p ys, xs = [.ref p] ∧ (SqL K H p ys ∨ SqT K H p ys) ∧ Q (.int ys.length) H
theorem callLen : CallR X (.builtin "len") (rLen X.K) := call_len_seq
theorem pe_const {x : Str} {n : Int} {pos : Pos} (hg : Gl X x) (hm : ∃ t, X.mg x = some (.int n t)) (hd : (x == ("__debug__" : Str)) = false := by decide) : PE X (.Name x pos) (tC (.int n)) := by
  obtain ⟨t, hm⟩ := hm
  exact pe_glob hg hm ⟨t, rfl⟩ hd
theorem pe_ty {x : Str} {T : String} {pos : Pos} (hg : Gl X x) (hm : X.mg x = none) (hv : bootBuiltins x = some (.type T)) (hn : x ≠ "__name__" := by decide) (hd : (x == ("__debug__" : Str)) = false := by decide) : PE X (.Name x pos) (tC (.ty T)) :=
  pe_bltn hg hm hv rfl hn hd
end
/-! ### a def of one's own, as it may be called -/
/-- what is called x keeps the promise sp, at the level k -/
def Kept (P : Program) (w : World) (K : PySem.W.Frag) (mg : Str → Option Value) (base : Heap) (k : Nat) (x : Str) (ps : List Str) (sp : Sp) : Prop :=
  ∃ (f : Addr) (fd : FuncData), FnOk P w K mg base CX0 k f fd ps sp ∧ mg x = some (.ref f) ∧ PySem.W.keepIn K (.ref f) = true ∧ Binds K fd ps []
/-- the def st stands at the name x -/
def Own (K : PySem.W.Frag) (mg : Str → Option Value) (x : Str) (st : Stmt) (ps : List Str) : Prop :=
  ∃ (f : Addr) (fd : FuncData), Fun K x x st f fd ∧ mg x = some (.ref f) ∧ Binds K fd ps []
theorem Own.kept {P : Program} {w : World} {K : PySem.W.Frag} {mg : Str → Option Value} {base : Heap} {k : Nat} {x : Str} {st : Stmt} {ps : List Str} {sp : Sp} (D : Own K mg x st ps)
    (h : ∀ f fd, Fun K x x st f fd → FnOk P w K mg base CX0 k f fd ps sp) : Kept P w K mg base k x ps sp := by
  obtain ⟨f, fd, F, m, b⟩ := D
  exact ⟨f, fd, h f fd F, m, F.kp, b⟩
theorem Kept.mono {P : Program} {w : World} {K : PySem.W.Frag} {mg : Str → Option Value} {base : Heap} {j k : Nat} {x : Str} {ps : List Str} {sp : Sp} (h : Kept P w K mg base j x ps sp) (l : j ≤ k) : Kept P w K mg base k x ps sp := by
  obtain ⟨f, fd, F, r⟩ := h
  exact ⟨f, fd, F.mono l, r⟩
section
variable {X : Cx}
theorem pe_own {x : Str} {p pos : Pos} {e : Expr} {es : List Expr} {t : TA} {k : Nat} {ps : List Str} {sp : Sp} (F : Kept X.prog X.w X.K X.mg X.base k x ps sp) (hr : Room k X.A) (hg : Gl X x) (ha : PA X (e :: es) t) (hdb : (x == ("__debug__" : Str)) = false := by decide)
    (he : starEach (e :: es) X.env = (false, eval e X.env) :: starEach es X.env := by rfl) (hpl : (backTo pos (starEach es X.env)).any (·.1) = false := by rfl) :
    PE X (.Call (.Name x p) (e :: es) [] pos) (tCall sp [] E0 t) := by
  obtain ⟨f, fd, G, m, kp, b⟩ := F
  exact pe_call G hr hg m kp b .nil pass0 ha hdb he hpl
end
/-! ### a comprehension that leaves what stood as it was -/
theorem lc_all {J : It} {n : Nat} {G : Hp → Prop} {Y : Nat → Hp → V → Hp → Prop} {g : TG} {tt : TT} {te : TE} {vs : List Nat} {σ : L2.St} {H1 : Hp} {D : Addr} {Qd : Hp → Prop} (hD : H1 D = none) (w : Walk J n G Y) (ys : List (Option V)) (hn : ys.length = n) (hz : n ≤ 1000) (hG : ∀ H, Same H1 H → G H)
    (hs : ∀ i x H H' (C : V → Hp → Prop) (N : Hp → Prop), i < n → Same H1 H → Y i H x H' → (∀ y H4, Same H H4 → ys[i]? = some (some y) → C y H4) → (∀ H3, Same H H3 → ys[i]? = some none → N H3) →
      g x (wipe σ vs) H' fun σ2 H2 => wipe σ2 vs = wipe σ vs ∧ tt σ2 H2 fun b H3 => if b = true then te σ2 H3 C else N H3)
    (hq : ∀ H, Same H1 H → H D = some (.lst (ys.filterMap id)) → Qd H) :
    ∃ W : Nat → Nat → Hp → Prop, (∃ m, W 0 m (upd H1 D (.lst []))) ∧ ∀ i m H, W i m H →
      (J.stop i H ∧ Qd H) ∨ (J.go i H ∧ ∃ Nx : Hp → Prop, (∀ H', Nx H' → ∃ m', m' < m ∧ W (i + 1) m' H') ∧ ∀ x H', J.yld i H x H' → g x (wipe σ vs) H' fun σ2 H2 => wipe σ2 vs = wipe σ vs ∧ tt σ2 H2 fun b H3 =>
        if b = true then te σ2 H3 fun y H4 => ∃ acc, H4 D = some (.lst acc) ∧ acc.length < sizeLine ∧ Nx (upd H4 D (.lst (acc ++ [y]))) else Nx H3) := by
  have small : ∀ i, i ≤ n → ((ys.take i).filterMap id).length < sizeLine := fun i hi => by
    have l1 := List.length_filterMap_le (f := id) (l := ys.take i)
    rw [List.length_take] at l1
    exact small1000 (by omega)
  refine lc_it w (fun i H => Same H1 H ∧ H D = some (.lst ((ys.take i).filterMap id))) ⟨fun b o e => ?_, by rw [upd_same]; simp⟩ (fun i H _ p => hG H p.1) (fun i x H H' hi p y => ?_) (fun H p => hq H p.1 (by rw [p.2, List.take_of_length_le (by omega)]))
  · rw [upd_ne (ne_of_none e hD)]
    exact e
  · obtain ⟨s1, eD⟩ := p
    refine hs i x H H' _ _ hi s1 y (fun y H4 s4 e => ⟨_, s4 _ _ eD, small i (by omega), fun b o eb => ?_, ?_⟩) (fun H3 s3 e => ⟨s1.trans s3, ?_⟩)
    · rw [upd_ne (ne_of_none eb hD)]
      exact s4 _ _ (s1 _ _ eb)
    · rw [upd_same, List.take_add_one, e, List.filterMap_append]
      rfl
    · rw [s3 _ _ eD, List.take_add_one, e, List.filterMap_append]
      simp
theorem filterMap_some (ys : List V) : (ys.map some).filterMap id = ys := by
  induction ys with
  | nil => rfl
  | cons y ys ih =>
    rw [List.map_cons, List.filterMap_cons]
    show y :: _ = _
    rw [ih]
/-- .. each item kept -/
theorem lc_map {J : It} {n : Nat} {G : Hp → Prop} {Y : Nat → Hp → V → Hp → Prop} {g : TG} {te : TE} {vs : List Nat} {σ : L2.St} {H1 : Hp} {D : Addr} {Qd : Hp → Prop} (hD : H1 D = none) (w : Walk J n G Y) (ys : List V) (hn : ys.length = n) (hz : n ≤ 1000) (hG : ∀ H, Same H1 H → G H)
    (hs : ∀ i x H H' (C : V → Hp → Prop), i < n → Same H1 H → Y i H x H' → (∀ y H4, Same H H4 → ys[i]? = some y → C y H4) →
      g x (wipe σ vs) H' fun σ2 H2 => wipe σ2 vs = wipe σ vs ∧ te σ2 H2 C)
    (hq : ∀ H, Same H1 H → H D = some (.lst ys) → Qd H)
    (hg : ∀ x σ' H' (R R' : L2.St → Hp → Prop), (∀ a b, R a b → R' a b) → g x σ' H' R → g x σ' H' R') :
    ∃ W : Nat → Nat → Hp → Prop, (∃ m, W 0 m (upd H1 D (.lst []))) ∧ ∀ i m H, W i m H →
      (J.stop i H ∧ Qd H) ∨ (J.go i H ∧ ∃ Nx : Hp → Prop, (∀ H', Nx H' → ∃ m', m' < m ∧ W (i + 1) m' H') ∧ ∀ x H', J.yld i H x H' → g x (wipe σ vs) H' fun σ2 H2 => wipe σ2 vs = wipe σ vs ∧ tYes σ2 H2 fun b H3 =>
        if b = true then te σ2 H3 fun y H4 => ∃ acc, H4 D = some (.lst acc) ∧ acc.length < sizeLine ∧ Nx (upd H4 D (.lst (acc ++ [y]))) else Nx H3) := by
  refine lc_all (tt := tYes) hD w (ys.map some) (by rw [List.length_map]; exact hn) hz hG (fun i x H H' C N hi s1 y h1 h2 => ?_) (fun H s1 eD => hq H s1 (by rw [eD, filterMap_some]))
  refine hg _ _ _ _ _ (fun a b r => ⟨r.1, ?_⟩) (hs i x H H' C hi s1 y fun y H4 s4 e => h1 y H4 s4 (by rw [List.getElem?_map, e]; rfl))
  show (if true = true then te a b C else N b)
  rw [if_pos rfl]
  exact r.2
theorem gName_mono {i : Nat} : ∀ x σ' H' (R R' : L2.St → Hp → Prop), (∀ a b, R a b → R' a b) → gName i x σ' H' R → gName i x σ' H' R' := fun x σ' H' R R' h q => h _ _ q
theorem gTup2_mono {K : PySem.W.Frag} {n i j : Nat} : ∀ x σ' H' (R R' : L2.St → Hp → Prop), (∀ a b, R a b → R' a b) → gTup K n (gCons (gName i) (gCons (gName j) gNil)) x σ' H' R → gTup K n (gCons (gName i) (gCons (gName j) gNil)) x σ' H' R' := fun x σ' H' R R' h q => by
  obtain ⟨a, xs, e1, e2, e3, v, r, e4, v2, r2, e5, e6, q⟩ := q
  exact ⟨a, xs, e1, e2, e3, v, r, e4, v2, r2, e5, e6, h _ _ q⟩
/-! ### data on the heap -/
def IntsT (K : PySem.W.Frag) (H : Hp) (v : V) (ns : List Int) : Prop := ∃ a, v = .ref a ∧ SqT K H a (ns.map V.int)
def IntsL (K : PySem.W.Frag) (H : Hp) (v : V) (ns : List Int) : Prop := ∃ a, v = .ref a ∧ SqL K H a (ns.map V.int)
def TabAt (K : PySem.W.Frag) (H : Hp) (v : V) (f : Int) (cs : List Int) : Prop := ∃ a c, v = .ref a ∧ SqT K H a [.int f, .ref c] ∧ SqT K H c (cs.map V.int)
/-- a word's payers as numbers -/
def wi (w : List Nat) : List Int := w.map fun (k : Nat) => (k : Int)
theorem sameT {K : PySem.W.Frag} {H H' : Hp} {a : Addr} {xs : List V} (e : Same H H') (h : SqT K H a xs) : SqT K H' a xs := SqK.same (k := false) e h
theorem IntsT.same {K : PySem.W.Frag} {H H' : Hp} {v : V} {ns : List Int} (h : IntsT K H v ns) (e : Same H H') : IntsT K H' v ns := by
  obtain ⟨a, r, q⟩ := h
  exact ⟨a, r, sameT e q⟩
theorem TabAt.same {K : PySem.W.Frag} {H H' : Hp} {v : V} {f : Int} {cs : List Int} (h : TabAt K H v f cs) (e : Same H H') : TabAt K H' v f cs := by
  obtain ⟨a, c, r, q1, q2⟩ := h
  exact ⟨a, c, r, sameT e q1, sameT e q2⟩
theorem same_upd {H : Hp} {p : Addr} {o : HO} (h : H p = none) : Same H (upd H p o) := fun b x e => by
  rw [upd_ne (ne_of_none e h)]
  exact e
theorem same_upd2 {H H1 : Hp} {p : Addr} {o : HO} (s : Same H H1) (h : H p = none) : Same H (upd H1 p o) := fun b x e => by
  rw [upd_ne (ne_of_none e h)]
  exact s b x e
theorem map_getI {ns : List Int} {i : Nat} {v : V} (h : (ns.map V.int)[i]? = some v) : ∃ z, ns[i]? = some z ∧ v = .int z := by
  rw [List.getElem?_map] at h
  cases e : ns[i]? with
  | none => rw [e] at h; cases h
  | some z =>
    rw [e] at h
    exact ⟨z, rfl, (Option.some.inj h).symm⟩
theorem getI {ns : List Int} {i : Nat} {z : Int} (h : ns[i]? = some z) : (ns.map V.int)[i]? = some (.int z) := by
  rw [List.getElem?_map, h]
  rfl
/-! ### what the top has written -/
structure Env (mg : Str → Option Value) : Prop where
  z_len : mg "len" = none
  z_sum : mg "sum" = none
  z_min : mg "min" = none
  z_max : mg "max" = none
  z_abs : mg "abs" = none
  z_int : mg "int" = none
  z_bool : mg "bool" = none
  z_tuple : mg "tuple" = none
  z_zip : mg "zip" = none
  z_range : mg "range" = none
  z_enumerate : mg "enumerate" = none
  z_isinstance : mg "isinstance" = none
  c_MOST_PLAYERS : ∃ t, mg "MOST_PLAYERS" = some (.int 6 t)
  c_MOST_COINS : ∃ t, mg "MOST_COINS" = some (.int 1000000 t)
  c_LEAST_FACTOR : ∃ t, mg "LEAST_FACTOR" = some (.int 2 t)
  c_MOST_FACTOR : ∃ t, mg "MOST_FACTOR" = some (.int 9 t)
  c_MOST_ROUNDS : ∃ t, mg "MOST_ROUNDS" = some (.int 40 t)
  c_MOST_SIZE : ∃ t, mg "MOST_SIZE" = some (.int 10000 t)
  c_MOST_SHORT : ∃ t, mg "MOST_SHORT" = some (.int 6 t)
end Dp
set_option maxHeartbeats 2000000
namespace Dp
open PySem PySem.Spec PyProof.Rows L2
def topS (i : Nat) : Stmt := PySem.Challenge.pw_doublepay_k82_across_gifts_and_shifts.main.body.getD i (.Pass ⟨0, 0, 0, 0⟩)
theorem room3 {k : Nat} {A : Around} (hr : Room k A) : A.units + 3 < cLine := Nat.lt_of_le_of_lt (Nat.add_le_add_left (by decide : 3 ≤ 64) _) hr.units
section
variable {P : Program} {w : World} {K : PySem.W.Frag} {mg : Str → Option Value} {base : Heap}
/-! ### is_in, is_factor -/
abbrev s_is_in : Stmt := topS 10
abbrev n_is_in : List Str := ["value", "least", "most"]
abbrev p_is_in : List Str := ["value", "least", "most"]
theorem sc_is_in : FnScope n_is_in p_is_in (defScope s_is_in) := ⟨rfl, rfl, rfl, by decide +kernel, rfl, by decide +kernel, by decide +kernel⟩
def spIsIn : Sp := fun vs H Q _ => ∃ i a b : Int, vs = [.int i, .int a, .int b] ∧ Q (.bl (decide (a ≤ i ∧ i ≤ b))) H
theorem kept_is_in (T : Env mg) (D : Own K mg "is_in" s_is_in p_is_in) : Kept P w K mg base 1 "is_in" p_is_in spIsIn := by
  refine D.kept fun f fd F => F.ok sc_is_in (fun vs H Q E h => ?_) (fun cdv A outer s H vs Q E hr h => ?_)
  · obtain ⟨i, a, b, rfl, _⟩ := h
    rfl
  · obtain ⟨i, a, b, rfl, q⟩ := h
    refine ⟨_, (pss_one (ps_ret (pe_and (pe_callB call_isi (by rfl) T.z_isinstance (by decide +kernel) (pa_cons (pv 0) (pa_cons (pe_ty (T := "int") rfl T.z_int (by decide +kernel)) pa_nil))) (pe_and (pe_not (pe_callB call_isi (by rfl) T.z_isinstance (by decide +kernel) (pa_cons (pv 0) (pa_cons (pe_ty (T := "bool") rfl T.z_bool (by decide +kernel)) pa_nil)))) (pe_one (pe_chain op_le op_le (pv 1) (pv 0) (pv 2))))))), ?_⟩
    refine ⟨_, rfl, _, _, _, _, _, rfl, .ty "int", .base (.int i), kit_ty (by decide +kernel), true, rfl, iteT ?_⟩
    refine ⟨_, rfl, _, _, _, _, _, rfl, .ty "bool", .base (.int i), kit_ty (b := "bool") (r := false) (by decide +kernel), false, rfl, true, rfl, iteT ?_⟩
    refine ⟨_, rfl, _, rfl, _, _, rfl, rfl, _, rfl, ite2 (fun c => ?_) (fun c => ?_)⟩
    · refine ⟨_, rfl, _, _, rfl, rfl, ?_⟩
      have c1 : a ≤ i := of_decide_eq_true c
      have e : decide (a ≤ i ∧ i ≤ b) = decide (i ≤ b) := decide_eq_decide.mpr ⟨fun x => x.2, fun x => ⟨c1, x⟩⟩
      rw [e] at q
      exact q
    · have c1 : ¬ a ≤ i := fun x => c (decide_eq_true x)
      rw [decide_eq_false (fun x => c1 x.1)] at q
      exact q
abbrev s_is_factor : Stmt := topS 16
abbrev n_is_factor : List Str := ["value"]
abbrev p_is_factor : List Str := ["value"]
theorem sc_is_factor : FnScope n_is_factor p_is_factor (defScope s_is_factor) := ⟨rfl, rfl, rfl, by decide +kernel, rfl, by decide +kernel, by decide +kernel⟩
def spIsFactor : Sp := fun vs H Q _ => ∃ i : Int, vs = [.int i] ∧ Q (.bl (decide (2 ≤ i ∧ i ≤ 9))) H
theorem kept_is_factor (T : Env mg) (D : Own K mg "is_factor" s_is_factor p_is_factor) (k_is_in : Kept P w K mg base 1 "is_in" p_is_in spIsIn) : Kept P w K mg base 2 "is_factor" p_is_factor spIsFactor := by
  refine D.kept fun f fd F => F.ok sc_is_factor (fun vs H Q E h => ?_) (fun cdv A outer s H vs Q E hr h => ?_)
  · obtain ⟨i, rfl, _⟩ := h
    rfl
  · obtain ⟨i, rfl, q⟩ := h
    refine ⟨_, (pss_one (ps_ret (pe_own k_is_in (hr.mono (by decide)) (by rfl) (pa_cons (pv 0) (pa_cons (pe_const rfl T.c_LEAST_FACTOR) (pa_cons (pe_const rfl T.c_MOST_FACTOR) pa_nil)))))), ?_⟩
    exact ⟨_, rfl, i, 2, 9, rfl, q⟩
/-! ### need_table -/
structure OkTab (f : Int) (cs : List Int) : Prop where
  f2 : 2 ≤ f
  f9 : f ≤ 9
  n1 : 1 ≤ cs.length
  n4 : cs.length ≤ 4
  lo : ∀ c ∈ cs, 0 ≤ c
  hi : ∀ c ∈ cs, c ≤ 1000000
  ne : cs.sum ≠ 0
abbrev s_need_table : Stmt := topS 17
abbrev n_need_table : List Str := ["table", "index", "one"]
abbrev p_need_table : List Str := ["table"]
theorem sc_need_table : FnScope n_need_table p_need_table (defScope s_need_table) := ⟨rfl, rfl, rfl, by decide +kernel, rfl, by decide +kernel, by decide +kernel⟩
def spNeedTable (K : PySem.W.Frag) : Sp := fun vs H Q _ => ∃ (v : V) (f : Int) (cs : List Int), vs = [v] ∧ TabAt K H v f cs ∧ OkTab f cs ∧ ∀ H', Same H H' → Q .non H'
theorem tyTup {K : PySem.W.Frag} {H : Hp} {a : Addr} {xs : List V} (h : SqT K H a xs) : TyX K H (.ref a) (.type "tuple") := by
  rcases h with (h | ⟨o, h⟩) | ⟨o, its, n, hk, hc, _⟩
  · exact .base (.tup h)
  · exact .fTuple h
  · exact .kTuple hk hc
theorem kept_need_table (T : Env mg) (D : Own K mg "need_table" s_need_table p_need_table) (k_is_in : Kept P w K mg base 1 "is_in" p_is_in spIsIn) (k_is_factor : Kept P w K mg base 2 "is_factor" p_is_factor spIsFactor) :
    Kept P w K mg base 3 "need_table" p_need_table (spNeedTable K) := by
  refine D.kept fun f fd F => F.ok sc_need_table (fun vs H Q E h => ?_) (fun cdv A outer s H vs Q E hr h => ?_)
  · obtain ⟨v, f, cs, rfl, _⟩ := h
    rfl
  · obtain ⟨_, f, cs, rfl, ⟨a, c, rfl, hT, hC⟩, ok, q⟩ := h
    have hl : (cs.map V.int).length = cs.length := List.length_map ..
    refine ⟨_, (pss_cons (ps_if (PW.pt (pw_or (pt_not (pt_val (pe_callB call_isi (by rfl) T.z_isinstance (by decide +kernel) (pa_cons (pv 0) (pa_cons (pe_ty (T := "tuple") rfl T.z_tuple (by decide +kernel)) pa_nil))))) (pw_or (pt_cmpR op_ne (pe_callB call_len_seq (by rfl) T.z_len (by decide +kernel) (pa_cons (pv 0) pa_nil)) pe_int (nomark _)) (pw_or1 (pt_not (pt_val (pe_own k_is_factor (hr.mono (by decide)) (by rfl) (pa_cons (pe_ix ix_tup (pv 0) pe_int (fun _ _ => rfl)) pa_nil)))))))) (pss_one ps_never) pss_nil)
 (pss_cons (ps_if (PW.pt (pw_or (pt_not (pt_val (pe_callB call_isi (by rfl) T.z_isinstance (by decide +kernel) (pa_cons (pe_ix ix_tup (pv 0) pe_int (fun _ _ => rfl)) (pa_cons (pe_ty (T := "tuple") rfl T.z_tuple (by decide +kernel)) pa_nil))))) (pw_or1 (pt_not (pt_chain op_le op_le pe_int (pe_callB call_len_seq (by rfl) T.z_len (by decide +kernel) (pa_cons (pe_ix ix_tup (pv 0) pe_int (fun _ _ => rfl)) pa_nil)) (pe_const rfl T.c_MOST_PLAYERS)))))) (pss_one ps_never) pss_nil)
 (pss_cons (ps_for PassesOwn.never rfl (pi_enumM (by rfl) T.z_enumerate (pa_cons (pe_ix ix_tup (pv 0) pe_int (fun _ _ => rfl)) pa_nil)) (pg_tup rfl (pgs_cons (pg_name (i := 1) sc_need_table.nd rfl (.inl rfl)) (pgs_cons (pg_name (i := 2) sc_need_table.nd rfl (.inl rfl)) pgs_nil))) (pss_one (ps_if (pt_not (pt_val (pe_own k_is_in (hr.mono (by decide)) (by rfl) (pa_cons (pv 2) (pa_cons pe_int (pa_cons (pe_const rfl T.c_MOST_COINS) pa_nil)))))) (pss_one ps_never) pss_nil)))
 (pss_one (ps_if (pt_cmpR op_eq (pe_callB (cr_sumK rfl) (by rfl) T.z_sum (by decide +kernel) (pa_cons (pe_ix ix_tup (pv 0) pe_int (fun _ _ => rfl)) pa_nil)) pe_int (nomark _)) (pss_one ps_never) pss_nil))))), ?_⟩
    refine ⟨_, rfl, _, _, _, _, _, rfl, .ty "tuple", tyTup hT, kit_ty (r := true) (by decide +kernel), true, rfl, iteF ?_⟩
    refine ⟨_, rfl, a, _, rfl, .inr hT, rfl, false, rfl, iteF ?_⟩
    refine ⟨_, rfl, a, _, 0, .int f, rfl, rfl, hT, atI_nat (j := 0) rfl, f, rfl, _, rfl, ?_⟩
    rw [decide_eq_true (show 2 ≤ f ∧ f ≤ 9 from ⟨ok.f2, ok.f9⟩)]
    refine iteF ?_
    have h1 : atI [V.int f, V.ref c] 1 = some (.ref c) := atI_nat (j := 1) rfl
    refine ⟨_, rfl, a, _, 1, .ref c, rfl, rfl, hT, h1, _, _, _, _, _, rfl, .ty "tuple", tyTup hC, kit_ty (r := true) (by decide +kernel), true, rfl, iteF ?_⟩
    refine ⟨_, rfl, a, _, 1, .ref c, rfl, rfl, hT, h1, c, _, rfl, .inr hC, 1, _, rfl, rfl, _, rfl, ?_⟩
    rw [hl, decide_eq_true (show (1 : Int) ≤ (cs.length : Int) by have := ok.n1; omega)]
    refine iteT ⟨_, _, rfl, rfl, _, rfl, ?_⟩
    rw [decide_eq_true (show (cs.length : Int) ≤ 6 by have := ok.n4; omega)]
    refine iteF ?_
    refine ⟨_, rfl, a, _, 1, .ref c, rfl, rfl, hT, h1, false, c, _, rfl, hC, for_it (walk_enumM (xs := cs.map V.int) rfl) (fun i σ H' => Same H H' ∧ ∃ y1 y2, σ = [some (.ref a), y1, y2]) ⟨Same.refl H, none, none, rfl⟩ (fun i σ H' _ p => SqK.same (k := false) p.1 hC) ?_ ?_⟩
    · rintro i x σ H1 H2 hi ⟨s1, y1, y2, rfl⟩ ⟨t, z1, z2, rfl, nt, rfl, e1, e2⟩
      obtain ⟨z, ez, rfl⟩ := map_getI e2
      have hz := List.mem_of_getElem? ez
      refine ⟨t, _, rfl, .of upd_same, rfl, _, _, rfl, _, _, rfl, rfl, ?_⟩
      refine ⟨_, rfl, z, 0, 1000000, rfl, true, by rw [decide_eq_true (show 0 ≤ z ∧ z ≤ 1000000 from ⟨ok.lo z hz, ok.hi z hz⟩)], iteF ?_⟩
      exact ⟨s1.trans (same_upd nt), _, _, rfl⟩
    · rintro σ H1 ⟨s1, y1, y2, rfl⟩
      refine ⟨_, rfl, a, _, 1, .ref c, rfl, rfl, sameT s1 hT, h1, false, c, cs, rfl, sameT s1 hC, rfl, false, ?_, iteF ?_⟩
      · rw [decide_eq_false (fun e => ok.ne (V.int.inj e))]
      · exact q H1 s1
end
end Dp
namespace Dp
/-! ### the mathematics: numbers of words, least coins -/
def step (f : Int) (l : List Int) (p : Nat) : List Int := (l.map fun x => f * x).set p ((l.map fun x => f * x).getD p 0 + (f - 1))
def nums (f : Int) (n : Nat) (w : List Nat) : List Int := w.foldl (step f) (List.replicate n 0)
def size (f : Int) (w : List Nat) : Int := f ^ w.length
def ceil (x s : Int) : Int := (x + s - 1) / s
def least (f : Int) (n : Nat) (T : Int) (w : List Nat) : List Int := (nums f n w).map fun m => ceil (T * m) (size f w)
def after (f : Int) (cs : List Int) (w : List Nat) : List Int := List.zipWith (fun c m => size f w * c - cs.sum * m) cs (nums f cs.length w)
structure OkWord (n : Nat) (w : List Nat) : Prop where
  lt : ∀ p ∈ w, p < n
  l4 : w.length ≤ 4
def Fac (f : Int) : Prop := 2 ≤ f ∧ f ≤ 9
theorem step_len (f : Int) (l : List Int) (p : Nat) : (step f l p).length = l.length := by simp [step]
theorem nums_snoc (f : Int) (n : Nat) (w : List Nat) (p : Nat) : nums f n (w ++ [p]) = step f (nums f n w) p := by simp [nums]
theorem nums_len (f : Int) (n : Nat) (w : List Nat) : (nums f n w).length = n := by
  have h : ∀ (w : List Nat) (l : List Int), (w.foldl (step f) l).length = l.length := by
    intro w
    induction w with
    | nil => intro l; rfl
    | cons p w ih => intro l; rw [List.foldl_cons, ih, step_len]
  unfold nums
  rw [h, List.length_replicate]
theorem least_len (f : Int) (n : Nat) (T : Int) (w : List Nat) : (least f n T w).length = n := by
  unfold least
  rw [List.length_map, nums_len]
theorem after_len (f : Int) (cs : List Int) (w : List Nat) : (after f cs w).length = cs.length := by
  unfold after
  rw [List.length_zipWith, nums_len]
  omega
theorem size_snoc (f : Int) (w : List Nat) (p : Nat) : size f (w ++ [p]) = f * size f w := by
  unfold size
  rw [List.length_append, List.length_singleton, Int.pow_succ, Int.mul_comm]
theorem size_pos {f : Int} (hf : Fac f) (w : List Nat) : 0 < size f w := Int.pow_pos (by have := hf.1; omega)
theorem pow_bound {f : Int} (hf : Fac f) {k : Nat} (hk : k ≤ 4) : f ^ k ≤ 6561 := by
  have h0 := hf.1
  have h1 : f ≤ 9 := hf.2
  match k, hk with
  | 0, _ => rw [Int.pow_zero]; decide
  | 1, _ => rw [Int.pow_succ, Int.pow_zero]; omega
  | 2, _ =>
    have e2 : f * f ≤ 9 * 9 := Int.mul_le_mul h1 h1 (by omega) (by omega)
    have e : f ^ 2 = f * f := by rw [Int.pow_succ, Int.pow_succ, Int.pow_zero, Int.one_mul]
    rw [e]; omega
  | 3, _ =>
    have e2 : f * f ≤ 9 * 9 := Int.mul_le_mul h1 h1 (by omega) (by omega)
    have e3 : f * f * f ≤ 9 * 9 * 9 := Int.mul_le_mul e2 h1 (by omega) (by omega)
    have e : f ^ 3 = f * f * f := by rw [Int.pow_succ, Int.pow_succ, Int.pow_succ, Int.pow_zero, Int.one_mul]
    rw [e]; omega
  | 4, _ =>
    have e2 : f * f ≤ 9 * 9 := Int.mul_le_mul h1 h1 (by omega) (by omega)
    have e3 : f * f * f ≤ 9 * 9 * 9 := Int.mul_le_mul e2 h1 (by omega) (by omega)
    have e4 : f * f * f * f ≤ 9 * 9 * 9 * 9 := Int.mul_le_mul e3 h1 (by omega) (by omega)
    have e : f ^ 4 = f * f * f * f := by rw [Int.pow_succ, Int.pow_succ, Int.pow_succ, Int.pow_succ, Int.pow_zero, Int.one_mul]
    rw [e]; omega
  | k + 5, h => omega
theorem size_le {f : Int} (hf : Fac f) {n : Nat} {w : List Nat} (h : OkWord n w) : size f w ≤ 6561 := pow_bound hf h.l4
/-- snoc induction -/
theorem snoc_ind {α : Type} {C : List α → Prop} (h0 : C []) (h1 : ∀ l a, C l → C (l ++ [a])) (l : List α) : C l := by
  have h : ∀ r : List α, C r.reverse := by
    intro r
    induction r with
    | nil => exact h0
    | cons a r ih =>
      rw [List.reverse_cons]
      exact h1 _ _ ih
  have := h l.reverse
  rw [List.reverse_reverse] at this
  exact this
theorem step_mem {f : Int} {l : List Int} {p : Nat} {y : Int} (h : y ∈ step f l p) : ∃ x ∈ l, y = f * x ∨ y = f * x + (f - 1) := by
  obtain ⟨i, hi⟩ := List.mem_iff_getElem?.mp h
  unfold step at hi
  by_cases e : p = i
  · subst e
    by_cases hp : p < (l.map fun x => f * x).length
    · rw [List.getElem?_set_self hp] at hi
      have hp' : p < l.length := by simpa using hp
      refine ⟨l[p], List.getElem_mem hp', .inr ?_⟩
      have := Option.some.inj hi
      rw [← this, List.getD_eq_getElem?_getD, List.getElem?_map, List.getElem?_eq_getElem hp']
      rfl
    · rw [List.getElem?_eq_none (by rw [List.length_set]; omega)] at hi
      cases hi
  · rw [List.getElem?_set_ne e, List.getElem?_map] at hi
    cases q : l[i]? with
    | none => rw [q] at hi; cases hi
    | some x =>
      rw [q] at hi
      exact ⟨x, List.mem_of_getElem? q, .inl (Option.some.inj hi).symm⟩
theorem nums_bd {f : Int} (hf : Fac f) (n : Nat) (w : List Nat) : ∀ m ∈ nums f n w, 0 ≤ m ∧ m < size f w := by
  refine snoc_ind (C := fun w => ∀ m ∈ nums f n w, 0 ≤ m ∧ m < size f w) ?_ ?_ w
  · intro m hm
    have : m = 0 := by
      unfold nums at hm
      exact (List.mem_replicate.mp hm).2
    subst this
    exact ⟨Int.le_refl 0, by show (0 : Int) < f ^ 0; rw [Int.pow_zero]; decide⟩
  · intro w p ih y hy
    rw [nums_snoc] at hy
    obtain ⟨x, hx, e⟩ := step_mem hy
    obtain ⟨h0, h1⟩ := ih x hx
    rw [size_snoc]
    have f2 : 2 ≤ f := hf.1
    have g1 : 0 ≤ f * x := Int.mul_nonneg (by omega) h0
    have g2 : f * (x + 1) ≤ f * size f w := Int.mul_le_mul_of_nonneg_left (by omega) (by omega)
    rw [Int.mul_add, Int.mul_one] at g2
    rcases e with e | e <;> subst e <;> constructor <;> omega
theorem sum_set' : ∀ (l : List Int) (p : Nat) (y : Int), p < l.length → (l.set p y).sum = l.sum - l.getD p 0 + y
  | [], p, y, h => by simp at h
  | a :: r, 0, y, _ => by simp [List.sum_cons]; omega
  | a :: r, p + 1, y, h => by
    have ih := sum_set' r p y (by simpa using h)
    show (a :: r.set p y).sum = (a :: r).sum - r.getD p 0 + y
    rw [List.sum_cons, List.sum_cons, ih]
    omega
theorem sum_map_mul (f : Int) : ∀ l : List Int, (l.map fun x => f * x).sum = f * l.sum
  | [] => by simp
  | a :: r => by
    rw [List.map_cons, List.sum_cons, List.sum_cons, sum_map_mul f r, Int.mul_add]
theorem step_sum {f : Int} {l : List Int} {p : Nat} (h : p < l.length) : (step f l p).sum = f * l.sum + (f - 1) := by
  unfold step
  rw [sum_set' _ _ _ (by rw [List.length_map]; exact h), sum_map_mul]
  omega
theorem nums_sum {f : Int} {n : Nat} {w : List Nat} (h : ∀ p ∈ w, p < n) : (nums f n w).sum = size f w - 1 := by
  refine snoc_ind (C := fun w => (∀ p ∈ w, p < n) → (nums f n w).sum = size f w - 1) ?_ ?_ w h
  · intro _
    show (List.replicate n (0 : Int)).sum = f ^ 0 - 1
    rw [Int.pow_zero]
    have : ∀ k : Nat, (List.replicate k (0 : Int)).sum = 0 := by
      intro k
      induction k with
      | zero => rfl
      | succ k ih => rw [List.replicate_succ, List.sum_cons, ih]; rfl
    rw [this]
    decide
  · intro w p ih h
    rw [nums_snoc, step_sum (by rw [nums_len]; exact h p (by simp)), ih (fun q hq => h q (by simp [hq])), size_snoc, Int.mul_sub, Int.mul_one]
    omega
theorem ceil_le {x s c : Int} (hs : 0 < s) : ceil x s ≤ c ↔ x ≤ c * s := by
  unfold ceil
  have h1 : (x + s - 1) / s ≤ c ↔ (x + s - 1) / s < c + 1 := by omega
  have e : (c + 1) * s = c * s + s := by rw [Int.add_mul, Int.one_mul]
  rw [h1, Int.ediv_lt_iff_lt_mul hs, e]
  omega
theorem ceil_mono {x y s : Int} (hs : 0 < s) (h : x ≤ y) : ceil x s ≤ ceil y s := by
  unfold ceil
  exact Int.ediv_le_ediv hs (by omega)
theorem ceil_nonneg {x s : Int} (hs : 0 < s) (h : 0 ≤ x) : 0 ≤ ceil x s := Int.ediv_nonneg (by omega) (by omega)
theorem ceil_mul {x s : Int} (hs : 0 < s) : ceil (x * s) s = x := by
  have h1 : ceil (x * s) s ≤ x := (ceil_le hs).mpr (Int.le_refl _)
  have h2 : x ≤ ceil (x * s) s := by
    unfold ceil
    exact (Int.le_ediv_iff_mul_le hs).mpr (by omega)
  omega
end Dp
set_option maxHeartbeats 2000000
namespace Dp
open PySem PySem.Spec PyProof.Rows L2
section
variable {P : Program} {w : World} {K : PySem.W.Frag} {mg : Str → Option Value} {base : Heap}
theorem OkTab.fac {f : Int} {cs : List Int} (h : OkTab f cs) : Fac f := ⟨h.f2, h.f9⟩
/-! ### need_factor, need_players, need_whole, is_whole -/
abbrev s_need_factor : Stmt := topS 20
abbrev n_need_factor : List Str := ["factor"]
abbrev p_need_factor : List Str := ["factor"]
theorem sc_need_factor : FnScope n_need_factor p_need_factor (defScope s_need_factor) := ⟨rfl, rfl, rfl, by decide +kernel, rfl, by decide +kernel, by decide +kernel⟩
def spNeedFactor : Sp := fun vs H Q _ => ∃ f : Int, vs = [.int f] ∧ Fac f ∧ Q .non H
theorem kept_need_factor (T : Env mg) (D : Own K mg "need_factor" s_need_factor p_need_factor) (k_is_factor : Kept P w K mg base 2 "is_factor" p_is_factor spIsFactor) : Kept P w K mg base 3 "need_factor" p_need_factor spNeedFactor := by
  refine D.kept fun f fd F => F.ok sc_need_factor (fun vs H Q E h => ?_) (fun cdv A outer s H vs Q E hr h => ?_)
  · obtain ⟨i, rfl, _⟩ := h
    rfl
  · obtain ⟨i, rfl, hf, q⟩ := h
    refine ⟨_, (pss_one (ps_if (pt_not (pt_val (pe_own k_is_factor (hr.mono (by decide)) (by rfl) (pa_cons (pv 0) pa_nil)))) (pss_one ps_never) pss_nil)), ?_⟩
    exact ⟨_, rfl, i, rfl, true, by rw [decide_eq_true (show 2 ≤ i ∧ i ≤ 9 from hf)], iteF q⟩
abbrev s_need_players : Stmt := topS 21
abbrev n_need_players : List Str := ["players"]
abbrev p_need_players : List Str := ["players"]
theorem sc_need_players : FnScope n_need_players p_need_players (defScope s_need_players) := ⟨rfl, rfl, rfl, by decide +kernel, rfl, by decide +kernel, by decide +kernel⟩
def spNeedPlayers : Sp := fun vs H Q _ => ∃ n : Nat, vs = [.int n] ∧ (1 ≤ n ∧ n ≤ 4) ∧ Q .non H
theorem kept_need_players (T : Env mg) (D : Own K mg "need_players" s_need_players p_need_players) (k_is_in : Kept P w K mg base 1 "is_in" p_is_in spIsIn) : Kept P w K mg base 2 "need_players" p_need_players spNeedPlayers := by
  refine D.kept fun f fd F => F.ok sc_need_players (fun vs H Q E h => ?_) (fun cdv A outer s H vs Q E hr h => ?_)
  · obtain ⟨i, rfl, _⟩ := h
    rfl
  · obtain ⟨n, rfl, hn, q⟩ := h
    refine ⟨_, (pss_one (ps_if (pt_not (pt_val (pe_own k_is_in (hr.mono (by decide)) (by rfl) (pa_cons (pv 0) (pa_cons pe_int (pa_cons (pe_const rfl T.c_MOST_PLAYERS) pa_nil)))))) (pss_one ps_never) pss_nil)), ?_⟩
    exact ⟨_, rfl, n, 1, 6, rfl, true, by rw [decide_eq_true (show (1 : Int) ≤ n ∧ (n : Int) ≤ 6 by omega)], iteF q⟩
abbrev s_need_whole : Stmt := topS 52
abbrev n_need_whole : List Str := ["whole"]
abbrev p_need_whole : List Str := ["whole"]
theorem sc_need_whole : FnScope n_need_whole p_need_whole (defScope s_need_whole) := ⟨rfl, rfl, rfl, by decide +kernel, rfl, by decide +kernel, by decide +kernel⟩
def spNeedWhole : Sp := fun vs H Q _ => ∃ n : Int, vs = [.int n] ∧ (1 ≤ n ∧ n ≤ 1000000) ∧ Q .non H
theorem kept_need_whole (T : Env mg) (D : Own K mg "need_whole" s_need_whole p_need_whole) (k_is_in : Kept P w K mg base 1 "is_in" p_is_in spIsIn) : Kept P w K mg base 2 "need_whole" p_need_whole spNeedWhole := by
  refine D.kept fun f fd F => F.ok sc_need_whole (fun vs H Q E h => ?_) (fun cdv A outer s H vs Q E hr h => ?_)
  · obtain ⟨i, rfl, _⟩ := h
    rfl
  · obtain ⟨n, rfl, hn, q⟩ := h
    refine ⟨_, (pss_one (ps_if (pt_not (pt_val (pe_own k_is_in (hr.mono (by decide)) (by rfl) (pa_cons (pv 0) (pa_cons pe_int (pa_cons (pe_const rfl T.c_MOST_COINS) pa_nil)))))) (pss_one ps_never) pss_nil)), ?_⟩
    exact ⟨_, rfl, n, 1, 1000000, rfl, true, by rw [decide_eq_true hn], iteF q⟩
abbrev s_is_whole : Stmt := topS 23
abbrev n_is_whole : List Str := ["value"]
abbrev p_is_whole : List Str := ["value"]
theorem sc_is_whole : FnScope n_is_whole p_is_whole (defScope s_is_whole) := ⟨rfl, rfl, rfl, by decide +kernel, rfl, by decide +kernel, by decide +kernel⟩
def spIsWhole : Sp := fun vs H Q _ => ∃ i : Int, vs = [.int i] ∧ Q (.bl true) H
theorem kept_is_whole (T : Env mg) (D : Own K mg "is_whole" s_is_whole p_is_whole) : Kept P w K mg base 1 "is_whole" p_is_whole spIsWhole := by
  refine D.kept fun f fd F => F.ok sc_is_whole (fun vs H Q E h => ?_) (fun cdv A outer s H vs Q E hr h => ?_)
  · obtain ⟨i, rfl, _⟩ := h
    rfl
  · obtain ⟨i, rfl, q⟩ := h
    refine ⟨_, (pss_one (ps_ret (pe_and (pe_callB call_isi (by rfl) T.z_isinstance (by decide +kernel) (pa_cons (pv 0) (pa_cons (pe_ty (T := "int") rfl T.z_int (by decide +kernel)) pa_nil))) (pe_one (pe_not (pe_callB call_isi (by rfl) T.z_isinstance (by decide +kernel) (pa_cons (pv 0) (pa_cons (pe_ty (T := "bool") rfl T.z_bool (by decide +kernel)) pa_nil)))))))), ?_⟩
    refine ⟨_, rfl, _, _, _, _, _, rfl, .ty "int", .base (.int i), kit_ty (by decide +kernel), true, rfl, iteT ?_⟩
    exact ⟨_, rfl, _, _, _, _, _, rfl, .ty "bool", .base (.int i), kit_ty (b := "bool") (r := false) (by decide +kernel), false, rfl, q⟩
/-! ### need_word -/
theorem wi_get {w : List Nat} {i : Nat} {z : Int} (h : (wi w)[i]? = some z) : ∃ p, w[i]? = some p ∧ z = (p : Int) := by
  unfold wi at h
  rw [List.getElem?_map] at h
  cases e : w[i]? with
  | none => rw [e] at h; cases h
  | some p =>
    rw [e] at h
    exact ⟨p, rfl, (Option.some.inj h).symm⟩
theorem wi_len (w : List Nat) : (wi w).length = w.length := by unfold wi; rw [List.length_map]
abbrev s_need_word : Stmt := topS 22
abbrev n_need_word : List Str := ["players", "word", "one"]
abbrev p_need_word : List Str := ["players", "word"]
theorem sc_need_word : FnScope n_need_word p_need_word (defScope s_need_word) := ⟨rfl, rfl, rfl, by decide +kernel, rfl, by decide +kernel, by decide +kernel⟩
def spNeedWord (K : PySem.W.Frag) : Sp := fun vs H Q _ => ∃ (n : Nat) (v : V) (u : List Nat), vs = [.int n, v] ∧ IntsT K H v (wi u) ∧ OkWord n u ∧ ∀ H', Same H H' → Q .non H'
theorem kept_need_word (T : Env mg) (D : Own K mg "need_word" s_need_word p_need_word) (k_is_in : Kept P w K mg base 1 "is_in" p_is_in spIsIn) : Kept P w K mg base 2 "need_word" p_need_word (spNeedWord K) := by
  refine D.kept fun f fd F => F.ok sc_need_word (fun vs H Q E h => ?_) (fun cdv A outer s H vs Q E hr h => ?_)
  · obtain ⟨n, v, u, rfl, _⟩ := h
    rfl
  · obtain ⟨n, _, u, rfl, ⟨a, rfl, hA⟩, ok, q⟩ := h
    refine ⟨_, (pss_cons (ps_if (PW.pt (pw_or (pt_not (pt_val (pe_callB call_isi (by rfl) T.z_isinstance (by decide +kernel) (pa_cons (pv 1) (pa_cons (pe_ty (T := "tuple") rfl T.z_tuple (by decide +kernel)) pa_nil))))) (pw_or1 (pt_cmpR op_gt (pe_callB call_len_seq (by rfl) T.z_len (by decide +kernel) (pa_cons (pv 1) pa_nil)) (pe_const rfl T.c_MOST_ROUNDS) (nomark _))))) (pss_one ps_never) pss_nil)
 (pss_one (ps_if (pt_cmpR (op_neD hr.units) (pe_lc (own := [("one", 2)]) (g := (gName 2)) rfl sc_need_word.nd (pi_tup (pv 1)) (blkOk_by (own := [("one", 2)]) (N := n_need_word) (sc := defScope s_need_word) (by decide +kernel)) (fun _ _ _ _ _ => (pg_name (i := 2) sc_need_word.nd rfl (.inl rfl))) (fun _ _ _ _ _ => pts_one (pt_not (pt_val (pe_own k_is_in (hr.mono (by decide)) (by rfl) (pa_cons (pv 2) (pa_cons pe_int (pa_cons (pe_op op_sub (pv 0) pe_int) pa_nil))))))) (fun _ _ _ _ _ => (pv 2))) (pe_lst pa_nil) (nomark _)) (pss_one ps_never) pss_nil))), ?_⟩
    refine ⟨_, rfl, _, _, _, _, _, rfl, .ty "tuple", tyTup hA, kit_ty (r := true) (by decide +kernel), true, rfl, iteF ?_⟩
    have l4 := ok.l4
    refine ⟨_, rfl, a, _, rfl, .inr hA, _, _, rfl, rfl, _, rfl, ?_⟩
    rw [List.length_map, wi_len, decide_eq_false (by omega)]
    refine iteF ?_
    refine ⟨_, rfl, a, rfl, ⟨_, hA⟩, fun D1 nD => lc_all nD (walk_tup (xs := (wi u).map V.int)) (List.replicate u.length none) (by rw [List.length_replicate, List.length_map, wi_len]) (by rw [List.length_map, wi_len]; omega) (fun H1 s1 => sameT s1 hA) ?_ ?_⟩
    · rintro i x H1 H2 C N hi s1 ⟨rfl, ex⟩ h1 h2
      obtain ⟨z, ez, rfl⟩ := map_getI ex
      obtain ⟨p, ep, rfl⟩ := wi_get ez
      have hp := ok.lt p (List.mem_of_getElem? ep)
      refine ⟨rfl, ⟨_, rfl, _, rfl, _, _, rfl, rfl, _, 0, _, rfl, true, by rw [decide_eq_true (show (0 : Int) ≤ p ∧ (p : Int) ≤ (n : Int) - 1 by omega)], ?_⟩⟩
      show (if false = true then _ else N _)
      rw [if_neg Bool.false_ne_true]
      refine h2 _ (Same.refl _) ?_
      rw [List.getElem?_replicate, if_pos (List.getElem?_eq_some_iff.mp ep).1]
    · intro H1 s1 eD
      have eD' : H1 D1 = some (.lst []) := by
        rw [eD]
        have : ∀ k : Nat, (List.replicate k (none : Option V)).filterMap id = [] := by
          intro k
          induction k with
          | zero => rfl
          | succ k ih => rw [List.replicate_succ, List.filterMap_cons]; exact ih
        rw [this]
      refine ⟨Nat.zero_le _, fun o no => ?_⟩
      refine ⟨.list [], .list [], .lst (.of ((same_upd no) _ _ eD')) .nil, .lst (.of upd_same) .nil, rfl, rfl, _, rfl, ?_⟩
      exact iteF (q _ (s1.trans (same_upd no)))
/-! ### power -/
abbrev s_power : Stmt := topS 24
abbrev n_power : List Str := ["factor", "many", "found", "k"]
abbrev p_power : List Str := ["factor", "many"]
theorem sc_power : FnScope n_power p_power (defScope s_power) := ⟨rfl, rfl, rfl, by decide +kernel, rfl, by decide +kernel, by decide +kernel⟩
def spPower : Sp := fun vs H Q _ => ∃ (f : Int) (n : Nat), vs = [.int f, .int n] ∧ Fac f ∧ n ≤ 4 ∧ Q (.int (f ^ n)) H
theorem kept_power (T : Env mg) (D : Own K mg "power" s_power p_power) : Kept P w K mg base 1 "power" p_power spPower := by
  refine D.kept fun f fd F => F.ok sc_power (fun vs H Q E h => ?_) (fun cdv A outer s H vs Q E hr h => ?_)
  · obtain ⟨f, n, rfl, _⟩ := h
    rfl
  · obtain ⟨f, n, rfl, hf, hn, q⟩ := h
    have f2 := hf.1
    have f9 : f ≤ 9 := hf.2
    refine ⟨_, (pss_cons (ps_set (i := 2) sc_power.nd rfl (.inl rfl) pe_int)
 (pss_cons (ps_for PassesOwn.never rfl (pi_range1 (by rfl) T.z_range (pa_cons (pv 1) pa_nil)) (pg_name (i := 3) sc_power.nd rfl (.inl rfl)) (pss_one (ps_aug (i := 2) sc_power.nd rfl (.inl rfl) (pv 0) ip_mul)))
 (pss_one (ps_ret (pv 2))))), ?_⟩
    refine ⟨_, rfl, _, rfl, by omega, by omega, for_range (lo := 0) (fun i σ H' => H' = H ∧ ∃ y3, σ = [some (.int f), some (.int n), some (.int (f ^ i)), y3]) ⟨rfl, none, by rw [Int.pow_zero]; rfl⟩ ?_ ?_⟩
    · rintro i σ H1 hi ⟨rfl, y3, rfl⟩
      refine ⟨_, rfl, _, rfl, _, _, rfl, rfl, .inr ⟨by omega, by omega⟩, rfl, some (.int (0 + i)), ?_⟩
      rw [Int.pow_succ]
      rfl
    · rintro σ H1 ⟨rfl, y3, rfl⟩
      refine ⟨_, rfl, ?_⟩
      rw [Int.toNat_natCast]
      exact q
end
end Dp
set_option maxHeartbeats 2000000
namespace Dp
open PySem PySem.Spec PyProof.Rows L2
section
variable {P : Program} {w : World} {K : PySem.W.Frag} {mg : Str → Option Value} {base : Heap}
theorem rep_flat (n : Nat) (x : V) : (List.replicate n [x]).flatten = List.replicate n x := by
  induction n with
  | zero => rfl
  | succ n ih => rw [List.replicate_succ, List.flatten_cons, ih, List.replicate_succ]; rfl
theorem rep_ints (n : Nat) : List.replicate n (V.int 0) = (List.replicate n (0 : Int)).map V.int := by
  rw [List.map_replicate]
theorem small_size {n : Nat} (h : n ≤ 1000) : n ≤ sizeLine := Nat.le_of_lt (small1000 h)
/-! ### numbers_in -/
abbrev s_numbers_in : Stmt := topS 25
abbrev n_numbers_in : List Str := ["factor", "players", "word", "found", "payer", "one"]
abbrev p_numbers_in : List Str := ["factor", "players", "word"]
theorem sc_numbers_in : FnScope n_numbers_in p_numbers_in (defScope s_numbers_in) := ⟨rfl, rfl, rfl, by decide +kernel, rfl, by decide +kernel, by decide +kernel⟩
def spNumbers (K : PySem.W.Frag) : Sp := fun vs H Q _ => ∃ (f : Int) (n : Nat) (v : V) (u : List Nat), vs = [.int f, .int n, v] ∧ Fac f ∧ n ≤ 4 ∧ OkWord n u ∧ IntsT K H v (wi u) ∧
  ∀ H' p, Same H H' → H' p = some (.lst ((nums f n u).map V.int)) → Q (.ref p) H'
theorem kept_numbers_in (T : Env mg) (D : Own K mg "numbers_in" s_numbers_in p_numbers_in) : Kept P w K mg base 1 "numbers_in" p_numbers_in (spNumbers K) := by
  refine D.kept fun f fd F => F.ok sc_numbers_in (fun vs H Q E h => ?_) (fun cdv A outer s H vs Q E hr h => ?_)
  · obtain ⟨f, n, v, u, rfl, _⟩ := h
    rfl
  · obtain ⟨f, n, _, u, rfl, hf, hn, ok, ⟨a, rfl, hA⟩, q⟩ := h
    have f2 := hf.1
    have f9 : f ≤ 9 := hf.2
    refine ⟨_, (pss_cons (ps_set (i := 3) sc_numbers_in.nd rfl (.inl rfl) (pe_op op_rep (pe_lst (pa_cons pe_int pa_nil)) (pv 1)))
 (pss_cons (ps_for PassesOwn.never rfl (pi_tup (pv 2)) (pg_name (i := 4) sc_numbers_in.nd rfl (.inl rfl)) (pss_cons (ps_setLc (i := 3) (own := [("one", 5)]) (g := (gName 5)) (tt := tYes) rfl sc_numbers_in.nd rfl rfl (sw_true rfl rfl rfl (by decide +kernel)) (pi_list (pv 3)) (blkOk_by (own := [("one", 5)]) (N := n_numbers_in) (sc := defScope s_numbers_in) (by decide +kernel)) (fun _ _ _ _ _ => (pg_name (i := 5) sc_numbers_in.nd rfl (.inl rfl))) (fun _ _ _ _ _ => pts_nil) (fun _ _ _ _ _ => (pe_op op_mul (pv 0) (pv 5))))
 (pss_one (ps_augS (pv 3) (pv 4) get_list (pe_op op_sub (pv 0) pe_int) ip_add set_list))))
 (pss_one (ps_ret (pv 3))))), ?_⟩
    refine ⟨small_size (by decide), fun o no => ?_⟩
    refine ⟨_, rfl, o, n, _, rfl, rfl, upd_same, by omega, by omega, by rw [Int.toNat_natCast, List.length_singleton]; exact small_size (by omega), fun p0 hp0 => ?_⟩
    have s0 : Same H (upd (upd H o (.lst [.int 0])) p0 (.lst (List.replicate (n : Int).toNat [V.int 0]).flatten)) := (same_upd no).trans (same_upd hp0)
    have n0 : H p0 = none := (same_upd no).free hp0
    refine ⟨_, rfl, a, rfl, ⟨_, sameT s0 hA⟩, for_tup (K := K) (a := a) (xs := (wi u).map V.int) (fun i σ H' => Same H H' ∧ ∃ p y4, H p = none ∧ H' p = some (.lst ((nums f n (u.take i)).map V.int)) ∧ σ = [some (.int f), some (.int n), some (.ref a), some (.ref p), y4, none])
      ⟨s0, p0, none, n0, ?_, rfl⟩ (fun i σ H' _ p => sameT p.1 hA) ?_ ?_⟩
    · rw [upd_same, Int.toNat_natCast, rep_flat, rep_ints]
      rfl
    · rintro i x σ H1 ex ⟨s1, p, y4, np, hp, rfl⟩
      obtain ⟨z, ez, rfl⟩ := map_getI ex
      obtain ⟨k, ek, rfl⟩ := wi_get ez
      have hk := ok.lt k (List.mem_of_getElem? ek)
      have ll : (nums f n (u.take i)).length = n := nums_len ..
      refine ⟨_, rfl, p, rfl, ⟨_, .of hp⟩, fun D1 nD => lc_map nD (walk_list (xs := (nums f n (u.take i)).map V.int)) (((nums f n (u.take i)).map fun x => f * x).map V.int) (by simp) (by rw [List.length_map, ll]; omega) (fun H2 s2 => .of (s2 _ _ hp)) ?_ ?_ gName_mono⟩
      · rintro j x H2 H3 C hj s2 ⟨rfl, ex⟩ h1
        obtain ⟨z, ez, rfl⟩ := map_getI ex
        refine ⟨rfl, _, rfl, _, rfl, f, z, rfl, rfl, .inl ⟨by omega, by omega⟩, h1 _ _ (Same.refl _) ?_⟩
        rw [List.getElem?_map, List.getElem?_map, ez]
        rfl
      · intro H2 s2 eD
        have ek2 : ((nums f n (u.take i)).map fun x => f * x)[k]? = some (((nums f n (u.take i)).map fun x => f * x).getD k 0) := by
          have hk3 : k < ((nums f n (u.take i)).map fun x => f * x).length := by rw [List.length_map, ll]; exact hk
          rw [List.getD_eq_getElem?_getD, List.getElem?_eq_getElem hk3]
          rfl
        have nD0 : H D1 = none := s1.free nD
        refine ⟨_, rfl, _, rfl, D1, _, k, _, rfl, rfl, .of eD, getI ek2, _, rfl, _, _, rfl, rfl, _, _, rfl, rfl, D1, _, k, k, rfl, rfl, eD, ixN_nat (by rw [List.length_map, List.length_map, ll]; exact hk), ?_⟩
        refine ⟨same_upd2 (s1.trans s2) nD0, D1, _, nD0, ?_, rfl⟩
        rw [upd_same, List.take_add_one, ek]
        show some (HO.lst _) = some (HO.lst ((nums f n (u.take i ++ [k])).map V.int))
        rw [nums_snoc]
        unfold step
        rw [List.map_set]
    · rintro σ H1 ⟨s1, p, y4, np, hp, rfl⟩
      rw [List.length_map, wi_len, List.take_length] at hp
      exact ⟨_, rfl, q H1 p s1 hp⟩
/-! ### least_in -/
abbrev s_least_in : Stmt := topS 29
abbrev n_least_in : List Str := ["factor", "players", "total", "word", "size", "number"]
abbrev p_least_in : List Str := ["factor", "players", "total", "word"]
theorem sc_least_in : FnScope n_least_in p_least_in (defScope s_least_in) := ⟨rfl, rfl, rfl, by decide +kernel, rfl, by decide +kernel, by decide +kernel⟩
def spLeast (K : PySem.W.Frag) : Sp := fun vs H Q _ => ∃ (f : Int) (n : Nat) (T : Int) (v : V) (u : List Nat), vs = [.int f, .int n, .int T, v] ∧ Fac f ∧ n ≤ 4 ∧ OkWord n u ∧ IntsT K H v (wi u) ∧
  ∀ H' p, Same H H' → H' p = some (.lst ((least f n T u).map V.int)) → Q (.ref p) H'
theorem kept_least_in (T : Env mg) (D : Own K mg "least_in" s_least_in p_least_in) (k_power : Kept P w K mg base 1 "power" p_power spPower) (k_numbers_in : Kept P w K mg base 1 "numbers_in" p_numbers_in (spNumbers K)) :
    Kept P w K mg base 2 "least_in" p_least_in (spLeast K) := by
  refine D.kept fun f fd F => F.ok sc_least_in (fun vs H Q E h => ?_) (fun cdv A outer s H vs Q E hr h => ?_)
  · obtain ⟨f, n, t, v, u, rfl, _⟩ := h
    rfl
  · obtain ⟨f, n, t, _, u, rfl, hf, hn, ok, ⟨a, rfl, hA⟩, q⟩ := h
    refine ⟨_, (pss_cons (ps_set (i := 4) sc_least_in.nd rfl (.inr rfl) (pe_own k_power (hr.mono (by decide)) (by rfl) (pa_cons (pv 0) (pa_cons (pe_callB call_len_seq (by rfl) T.z_len (by decide +kernel) (pa_cons (pv 3) pa_nil)) pa_nil))))
 (pss_one (ps_ret (pe_lc (own := [("number", 5)]) (g := (gName 5)) (tt := tYes) rfl sc_least_in.nd (pi_list (pe_own k_numbers_in (hr.mono (by decide)) (by rfl) (pa_cons (pv 0) (pa_cons (pv 1) (pa_cons (pv 3) pa_nil))))) (blkOk_by (own := [("number", 5)]) (N := n_least_in) (sc := defScope s_least_in) (by decide +kernel)) (fun _ _ _ _ _ => (pg_name (i := 5) sc_least_in.nd rfl (.inl rfl))) (fun _ _ _ _ _ => pts_nil) (fun _ _ _ _ _ => (pe_op op_fdiv (pe_op op_sub (pe_op op_add (pe_op op_mul (pv 2) (pv 5)) (pv 4)) pe_int) (pv 4))))))), ?_⟩
    have l4 := ok.l4
    have sp := size_pos hf u
    have sl := size_le hf ok
    refine ⟨_, rfl, _, rfl, a, _, rfl, .inr hA, f, u.length, by rw [List.length_map, wi_len]; rfl, hf, l4, ?_⟩
    refine ⟨_, rfl, _, rfl, _, rfl, f, n, _, u, rfl, hf, hn, ok, ⟨a, rfl, hA⟩, fun H1 p s1 hp => ?_⟩
    have ll : (nums f n u).length = n := nums_len ..
    refine ⟨p, rfl, ⟨_, .of hp⟩, fun D1 nD => lc_map nD (walk_list (xs := (nums f n u).map V.int)) ((least f n t u).map V.int) (by rw [List.length_map, List.length_map, least_len, ll]) (by rw [List.length_map, ll]; omega) (fun H2 s2 => .of (s2 _ _ hp)) ?_ ?_ gName_mono⟩
    · rintro j x H2 H3 C hj s2 ⟨rfl, ex⟩ h1
      obtain ⟨z, ez, rfl⟩ := map_getI ex
      obtain ⟨b1, b2⟩ := nums_bd hf n u z (List.mem_of_getElem? ez)
      refine ⟨rfl, _, rfl, _, rfl, t, z, rfl, rfl, .inr ⟨by omega, by omega⟩, _, rfl, _, _, rfl, rfl, _, _, rfl, rfl, _, rfl, _, _, rfl, rfl, ⟨sp, by show size f u < 1073741824; omega⟩, h1 _ _ (Same.refl _) ?_⟩
      refine getI ?_
      unfold least
      rw [List.getElem?_map, ez]
      rfl
    · intro H2 s2 eD
      exact q H2 D1 (s1.trans s2) eD
/-! ### after_in -/
abbrev s_after_in : Stmt := topS 26
abbrev n_after_in : List Str := ["factor", "coins", "word", "size", "total", "one", "number"]
abbrev p_after_in : List Str := ["factor", "coins", "word"]
theorem sc_after_in : FnScope n_after_in p_after_in (defScope s_after_in) := ⟨rfl, rfl, rfl, by decide +kernel, rfl, by decide +kernel, by decide +kernel⟩
def spAfter (K : PySem.W.Frag) : Sp := fun vs H Q _ => ∃ (f : Int) (v1 : V) (cs : List Int) (v2 : V) (u : List Nat), vs = [.int f, v1, v2] ∧ Fac f ∧ cs.length ≤ 4 ∧ OkWord cs.length u ∧ IntsT K H v1 cs ∧ IntsT K H v2 (wi u) ∧
  ∀ H' p, Same H H' → SqT K H' p ((after f cs u).map V.int) → Q (.ref p) H'
theorem kept_after_in (T : Env mg) (D : Own K mg "after_in" s_after_in p_after_in) (k_power : Kept P w K mg base 1 "power" p_power spPower) (k_numbers_in : Kept P w K mg base 1 "numbers_in" p_numbers_in (spNumbers K)) :
    Kept P w K mg base 2 "after_in" p_after_in (spAfter K) := by
  refine D.kept fun f fd F => F.ok sc_after_in (fun vs H Q E h => ?_) (fun cdv A outer s H vs Q E hr h => ?_)
  · obtain ⟨f, v1, cs, v2, u, rfl, _⟩ := h
    rfl
  · obtain ⟨f, _, cs, _, u, rfl, hf, hn, ok, ⟨c, rfl, hC⟩, ⟨a, rfl, hA⟩, q⟩ := h
    refine ⟨_, (pss_cons (ps_asg (pe_tup (pa_cons (pe_own k_power (hr.mono (by decide)) (by rfl) (pa_cons (pv 0) (pa_cons (pe_callB call_len_seq (by rfl) T.z_len (by decide +kernel) (pa_cons (pv 2) pa_nil)) pa_nil))) (pa_cons (pe_callB (cr_sumK rfl) (by rfl) T.z_sum (by decide +kernel) (pa_cons (pv 1) pa_nil)) pa_nil))) (pg_tup rfl (pgs_cons (pg_name (i := 3) sc_after_in.nd rfl (.inr rfl)) (pgs_cons (pg_name (i := 4) sc_after_in.nd rfl (.inr rfl)) pgs_nil))))
 (pss_one (ps_ret (pe_callTy call_tuple_of (by rfl) T.z_tuple (by decide +kernel) (pa_cons (pe_lc (own := [("one", 5), ("number", 6)]) (g := (gTup K 2 (gCons (gName 5) (gCons (gName 6) gNil)))) (tt := tYes) rfl sc_after_in.nd (pi_zipM (by rfl) T.z_zip (pa_cons (pv 1) (pa_cons (pe_own k_numbers_in (hr.mono (by decide)) (by rfl) (pa_cons (pv 0) (pa_cons (pe_callB call_len_seq (by rfl) T.z_len (by decide +kernel) (pa_cons (pv 1) pa_nil)) (pa_cons (pv 2) pa_nil)))) pa_nil))) (blkOk_by (own := [("one", 5), ("number", 6)]) (N := n_after_in) (sc := defScope s_after_in) (by decide +kernel)) (fun _ _ _ _ _ => (pg_tup rfl (pgs_cons (pg_name (i := 5) sc_after_in.nd rfl (.inl rfl)) (pgs_cons (pg_name (i := 6) sc_after_in.nd rfl (.inl rfl)) pgs_nil)))) (fun _ _ _ _ _ => pts_nil) (fun _ _ _ _ _ => (pe_op op_sub (pe_op op_mul (pv 3) (pv 5)) (pe_op op_mul (pv 4) (pv 6))))) pa_nil))))), ?_⟩
    have l4 := ok.l4
    have sp := size_pos hf u
    have sl := size_le hf ok
    refine ⟨_, rfl, _, rfl, a, _, rfl, .inr hA, f, u.length, by rw [List.length_map, wi_len]; rfl, hf, l4, ?_⟩
    refine ⟨_, rfl, false, c, cs, rfl, hC, small_size (show 2 ≤ 1000 by decide), fun t ht => ?_⟩
    refine ⟨t, _, rfl, .of upd_same, rfl, _, _, rfl, _, _, rfl, rfl, ?_⟩
    have s1 := same_upd (o := .tup [V.int (f ^ u.length), V.int cs.sum]) ht
    refine ⟨_, rfl, _, rfl, _, rfl, c, _, rfl, .inr (sameT s1 hC), _, rfl, f, cs.length, _, u, by rw [List.length_map]; rfl, hf, hn, ok, ⟨a, rfl, sameT s1 hA⟩, fun H1 p s2 hp => ?_⟩
    have ll : (nums f cs.length u).length = cs.length := nums_len ..
    have hC2 : SqT K H1 c (cs.map V.int) := sameT s2 (sameT s1 hC)
    refine ⟨false, true, c, p, _, _, rfl, hC2, .of hp, fun D1 nD => lc_map nD (walk_zipM (k1 := false) (k2 := true) (xs := cs.map V.int) (ys := (nums f cs.length u).map V.int) rfl) ((after f cs u).map V.int) (by rw [List.length_map, List.length_map, List.length_map, after_len, ll]; omega) (by rw [List.length_map]; omega) (fun H2 s3 => ⟨sameT s3 hC2, .of (s3 _ _ hp)⟩) ?_ ?_ gTup2_mono⟩
    · rintro j x H2 H3 C hj s3 ⟨t2, x1, x2, rfl, nt, rfl, e1, e2⟩ h1
      obtain ⟨z1, ez1, rfl⟩ := map_getI e1
      obtain ⟨z2, ez2, rfl⟩ := map_getI e2
      obtain ⟨b1, b2⟩ := nums_bd hf _ u z2 (List.mem_of_getElem? ez2)
      refine ⟨t2, _, rfl, .of upd_same, rfl, _, _, rfl, _, _, rfl, rfl, rfl, ?_⟩
      refine ⟨_, rfl, _, rfl, _, _, rfl, rfl, .inl ⟨by show -(2 ^ 64) < size f u; omega, by show size f u < 2 ^ 64; omega⟩, _, rfl, _, rfl, _, _, rfl, rfl, .inr ⟨by omega, by omega⟩, _, _, rfl, rfl, h1 _ _ (same_upd nt) ?_⟩
      refine getI ?_
      unfold after
      rw [List.getElem?_zipWith, ez1, ez2]
      rfl
    · intro H2 s3 eD
      refine ⟨D1, _, rfl, .inl ⟨.of eD, fun l hl => ?_⟩⟩
      exact q _ l ((s1.trans s2).trans (s3.trans (same_upd hl))) (.of upd_same)
end
end Dp
namespace Dp
def sumLeast (f : Int) (n : Nat) (T : Int) (u : List Nat) : Int := (least f n T u).sum
def mx0 (z : Int) : Int := if z > 0 then z else 0
def lacksL (ls cs : List Int) : List Int := List.zipWith (fun l c => mx0 (l - c)) ls cs
def fewest (f : Int) (cs : List Int) (u : List Nat) : Option Int :=
  if sumLeast f cs.length cs.sum u > cs.sum then none else some (lacksL (least f cs.length cs.sum u) cs).sum
def canB (f : Int) (cs : List Int) (u : List Nat) : Bool := (after f cs u).all fun x => decide (0 ≤ x)
theorem lacksL_len {ls cs : List Int} (h : ls.length = cs.length) : (lacksL ls cs).length = cs.length := by
  unfold lacksL
  rw [List.length_zipWith, h]
  omega
theorem map_congr_id {f : Int → Int} : ∀ {l : List Int}, (∀ x ∈ l, f x = x) → l.map f = l
  | [], _ => rfl
  | a :: r, h => by
    rw [List.map_cons, h a (by simp), map_congr_id (fun x hx => h x (by simp [hx]))]
theorem map_congr2 {f g : Int → Int} : ∀ {l : List Int}, (∀ x ∈ l, f x = g x) → l.map f = l.map g
  | [], _ => rfl
  | a :: r, h => by
    rw [List.map_cons, List.map_cons, h a (by simp), map_congr2 (fun x hx => h x (by simp [hx]))]
/-- at a multiple of the size -/
theorem least_mul {f : Int} (hf : Fac f) (n : Nat) (u : List Nat) (y : Int) : least f n (size f u * y) u = (nums f n u).map fun m => y * m := by
  unfold least
  refine map_congr2 fun m _ => ?_
  have e : size f u * y * m = y * m * size f u := by rw [Int.mul_assoc, Int.mul_comm]
  show ceil (size f u * y * m) (size f u) = y * m
  rw [e, ceil_mul (size_pos hf u)]
theorem least_size {f : Int} (hf : Fac f) {n : Nat} {u : List Nat} (h : OkWord n u) : sumLeast f n (size f u) u ≤ size f u := by
  have e := least_mul hf n u 1
  rw [Int.mul_one] at e
  unfold sumLeast
  rw [e, sum_map_mul, nums_sum h.lt]
  omega
theorem zip_getD {l : List Int} {i : Nat} {z : Int} (h : l[i]? = some z) : z ∈ l := List.mem_of_getElem? h
/-! ### chosen -/
def bn : Nat → Nat → Int
  | 0, _ => 1
  | 1, _ => 1
  | 2, 1 => 2
  | 2, _ => 1
  | 3, 1 => 3
  | 3, 2 => 3
  | _, _ => 1
theorem bn_end {p : Nat} (h : p ≤ 3) : bn p p = 1 := by
  match p, h with
  | 0, _ => rfl
  | 1, _ => rfl
  | 2, _ => rfl
  | 3, _ => rfl
  | k + 4, h => omega
theorem bn_step {p k : Nat} {W F : Int} (hp : p ≤ 3) (hk : k < p) (hW : (p : Int) ≤ W) (hF : bn p k ≤ F) : bn p (k + 1) ≤ F * (W - (0 + (k : Int))) / (0 + (k : Int) + 1) := by
  have pos : 0 ≤ bn p k := by
    match p, k, hp, hk with
    | 1, 0, _, _ => decide
    | 2, 0, _, _ => decide
    | 2, 1, _, _ => decide
    | 3, 0, _, _ => decide
    | 3, 1, _, _ => decide
    | 3, 2, _, _ => decide
    | p + 4, k, h, _ => omega
  have e : bn p (k + 1) * (0 + (k : Int) + 1) ≤ bn p k * ((p : Int) - (0 + (k : Int))) := by
    match p, k, hp, hk with
    | 1, 0, _, _ => decide
    | 2, 0, _, _ => decide
    | 2, 1, _, _ => decide
    | 3, 0, _, _ => decide
    | 3, 1, _, _ => decide
    | 3, 2, _, _ => decide
    | p + 4, k, h, _ => omega
  refine (Int.le_ediv_iff_mul_le (by omega)).mpr (Int.le_trans e ?_)
  exact Int.mul_le_mul hF (by omega) (by omega) (by omega)
end Dp
namespace Dp
def mn (a b : Int) : Int := if b < a then b else a
def mx2 (a b : Int) : Int := if b > a then b else a
def shiftF : Int → List (Int × Int) → List Int
  | _, [] => []
  | left, (c, l) :: r => (mx2 c l - mn left (mx0 (c - l))) :: shiftF (left - mn left (mx0 (c - l))) r
theorem shiftF_len : ∀ (left : Int) (l : List (Int × Int)), (shiftF left l).length = l.length
  | _, [] => rfl
  | left, (c, l) :: r => by
    show (shiftF _ r).length + 1 = r.length + 1
    rw [shiftF_len]
theorem fewest_some {f : Int} {cs : List Int} {u : List Nat} (h : sumLeast f cs.length cs.sum u ≤ cs.sum) : fewest f cs u = some (lacksL (least f cs.length cs.sum u) cs).sum := by
  unfold fewest
  rw [if_neg (by omega)]
theorem fewest_none {f : Int} {cs : List Int} {u : List Nat} (h : sumLeast f cs.length cs.sum u > cs.sum) : fewest f cs u = none := by
  unfold fewest
  rw [if_pos h]
end Dp
namespace Dp
/-- what players must have for a gift: the greater of both -/
def mxL (cs ls : List Int) : List Int := List.zipWith mx2 cs ls
theorem mxL_len {cs ls : List Int} (h : ls.length = cs.length) : (mxL cs ls).length = cs.length := by
  unfold mxL
  rw [List.length_zipWith, h]
  omega
/-- the sum that is needed in a whole of x -/
def need (f : Int) (cs : List Int) (u : List Nat) (x : Int) : Int := (mxL cs (least f cs.length x u)).sum
/-- g is the least gift -/
structure IsGift (f : Int) (cs : List Int) (u : List Nat) (g : Int) : Prop where
  nn : 0 ≤ g
  ok : need f cs u (cs.sum + g) ≤ cs.sum + g
  le : ∀ y, 0 ≤ y → need f cs u (cs.sum + y) ≤ cs.sum + y → g ≤ y
theorem IsGift.uniq {f : Int} {cs : List Int} {u : List Nat} {g g' : Int} (h : IsGift f cs u g) (h' : IsGift f cs u g') : g = g' := by
  have := h.le g' h'.nn h'.ok
  have := h'.le g h.nn h.ok
  omega
theorem mx2_ge1 (a b : Int) : a ≤ mx2 a b := by
  unfold mx2
  split <;> omega
theorem mx2_ge2 (a b : Int) : b ≤ mx2 a b := by
  unfold mx2
  split <;> omega
theorem mx2_mono {a b c : Int} (h : b ≤ c) : mx2 a b ≤ mx2 a c := by
  unfold mx2
  split <;> split <;> omega
theorem sum_zip_mono : ∀ (cs ls ms : List Int), ls.length = ms.length → (∀ (i : Nat) (a b : Int), ls[i]? = some a → ms[i]? = some b → a ≤ b) → (mxL cs ls).sum ≤ (mxL cs ms).sum
  | [], _, _, _, _ => by simp [mxL]
  | c :: cs, [], [], _, _ => by simp [mxL]
  | c :: cs, [], m :: ms, h, _ => by simp at h
  | c :: cs, l :: ls, [], h, _ => by simp at h
  | c :: cs, l :: ls, m :: ms, h, hp => by
    have ih := sum_zip_mono cs ls ms (by simpa using h) (fun i a b e1 e2 => hp (i + 1) a b (by simpa using e1) (by simpa using e2))
    have h0 : l ≤ m := hp 0 l m (by simp) (by simp)
    have h1 := mx2_mono (a := c) h0
    show (mx2 c l :: mxL cs ls).sum ≤ (mx2 c m :: mxL cs ms).sum
    rw [List.sum_cons, List.sum_cons]
    omega
theorem least_mono {f : Int} (hf : Fac f) (n : Nat) (u : List Nat) {x y : Int} (h : x ≤ y) : ∀ (i : Nat) (a b : Int), (least f n x u)[i]? = some a → (least f n y u)[i]? = some b → a ≤ b := by
  intro i a b h1 h2
  unfold least at h1 h2
  rw [List.getElem?_map] at h1 h2
  cases e : (nums f n u)[i]? with
  | none => rw [e] at h1; cases h1
  | some m =>
    rw [e] at h1 h2
    have e1 := Option.some.inj h1
    have e2 := Option.some.inj h2
    rw [← e1, ← e2]
    exact ceil_mono (size_pos hf u) (Int.mul_le_mul_of_nonneg_right h (nums_bd hf n u m (List.mem_of_getElem? e)).1)
theorem need_mono {f : Int} (hf : Fac f) (cs : List Int) (u : List Nat) {x y : Int} (h : x ≤ y) : need f cs u x ≤ need f cs u y :=
  sum_zip_mono _ _ _ (by rw [least_len, least_len]) (least_mono hf _ u h)
theorem sum_mx_le : ∀ (cs ls : List Int), (∀ c ∈ cs, 0 ≤ c) → (∀ l ∈ ls, 0 ≤ l) → ls.length = cs.length → (mxL cs ls).sum ≤ cs.sum + ls.sum
  | [], [], _, _, _ => by simp [mxL]
  | [], l :: ls, _, _, h => by simp at h
  | c :: cs, [], _, _, h => by simp at h
  | c :: cs, l :: ls, hc, hl, h => by
    have ih := sum_mx_le cs ls (fun x hx => hc x (by simp [hx])) (fun x hx => hl x (by simp [hx])) (by simpa using h)
    have c0 := hc c (by simp)
    have l0 := hl l (by simp)
    have : mx2 c l ≤ c + l := by
      unfold mx2
      split <;> omega
    show (mx2 c l :: mxL cs ls).sum ≤ (c :: cs).sum + (l :: ls).sum
    rw [List.sum_cons, List.sum_cons, List.sum_cons]
    omega
/-- a gift that is large enough -/
theorem gift_top {f : Int} (hf : Fac f) {cs : List Int} {u : List Nat} (hu : OkWord cs.length u) (hc : ∀ c ∈ cs, 0 ≤ c) (hs : 0 ≤ cs.sum) :
    need f cs u (cs.sum + (size f u * cs.sum - cs.sum)) ≤ cs.sum + (size f u * cs.sum - cs.sum) ∧ 0 ≤ size f u * cs.sum - cs.sum := by
  have sp := size_pos hf u
  have e : cs.sum + (size f u * cs.sum - cs.sum) = size f u * cs.sum := by omega
  rw [e]
  have h1 : cs.sum * 1 ≤ cs.sum * size f u := Int.mul_le_mul_of_nonneg_left (by omega) hs
  rw [Int.mul_one, Int.mul_comm] at h1
  refine ⟨?_, by omega⟩
  unfold need
  rw [least_mul hf]
  have h2 := sum_mx_le cs ((nums f cs.length u).map fun m => cs.sum * m) hc (fun l hl => by
    obtain ⟨m, hm, rfl⟩ := List.mem_map.mp hl
    exact Int.mul_nonneg hs (nums_bd hf _ u m hm).1) (by rw [List.length_map, nums_len])
  rw [sum_map_mul, nums_sum hu.lt, Int.mul_sub, Int.mul_one, Int.mul_comm] at h2
  omega
end Dp
namespace Dp
/-! ### words -/
def ext (n : Nat) (L : List (List Nat)) : List (List Nat) := L.flatMap fun u => (List.range n).map fun p => u ++ [p]
def allW (n : Nat) : Nat → List (List Nat)
  | 0 => [[]]
  | k + 1 => ext n (allW n k)
def wordsF (f : Int) (cs : List Int) : Nat → List (List Nat)
  | 0 => [[]]
  | k + 1 => (ext cs.length (wordsF f cs k)).filter fun u => (fewest f cs u).isSome
theorem ext_len (n : Nat) : ∀ L : List (List Nat), (ext n L).length = L.length * n
  | [] => by simp [ext]
  | u :: L => by
    have ih := ext_len n L
    have e : ext n (u :: L) = (List.range n).map (fun p => u ++ [p]) ++ ext n L := rfl
    rw [e, List.length_append, ih, List.length_map, List.length_range, List.length_cons, Nat.add_mul, Nat.one_mul, Nat.add_comm]
theorem mem_ext {n : Nat} {L : List (List Nat)} {v : List Nat} : v ∈ ext n L ↔ ∃ u ∈ L, ∃ p, p < n ∧ v = u ++ [p] := by
  unfold ext
  rw [List.mem_flatMap]
  constructor
  · rintro ⟨u, hu, h⟩
    obtain ⟨p, hp, e⟩ := List.mem_map.mp h
    exact ⟨u, hu, p, List.mem_range.mp hp, e.symm⟩
  · rintro ⟨u, hu, p, hp, rfl⟩
    exact ⟨u, hu, List.mem_map.mpr ⟨p, List.mem_range.mpr hp, rfl⟩⟩
theorem allW_ok {n : Nat} : ∀ {k : Nat} {u : List Nat}, u ∈ allW n k → (∀ p ∈ u, p < n) ∧ u.length = k
  | 0, u, h => by
    have e : u = [] := List.mem_singleton.mp h
    subst e
    exact ⟨by simp, rfl⟩
  | k + 1, u, h => by
    obtain ⟨v, hv, p, hp, rfl⟩ := mem_ext.mp h
    obtain ⟨h1, h2⟩ := allW_ok hv
    refine ⟨fun q hq => ?_, by rw [List.length_append, h2]; rfl⟩
    rcases List.mem_append.mp hq with z | z
    · exact h1 q z
    · rw [List.mem_singleton.mp z]
      exact hp
theorem wordsF_sub {f : Int} {cs : List Int} : ∀ {k : Nat} {u : List Nat}, u ∈ wordsF f cs k → u ∈ allW cs.length k
  | 0, u, h => h
  | k + 1, u, h => by
    obtain ⟨v, hv, p, hp, rfl⟩ := mem_ext.mp (List.mem_filter.mp h).1
    exact mem_ext.mpr ⟨v, wordsF_sub hv, p, hp, rfl⟩
theorem wordsF_len (f : Int) (cs : List Int) (h : cs.length ≤ 4) : ∀ k, k ≤ 2 → (wordsF f cs k).length ≤ 4 ^ k
  | 0, _ => Nat.le_refl 1
  | k + 1, hk => by
    have ih := wordsF_len f cs h k (by omega)
    have h1 := List.length_filter_le (fun u => (fewest f cs u).isSome) (ext cs.length (wordsF f cs k))
    rw [ext_len] at h1
    have h2 : (wordsF f cs k).length * cs.length ≤ 4 ^ k * 4 := Nat.mul_le_mul ih h
    show ((ext cs.length (wordsF f cs k)).filter _).length ≤ 4 ^ (k + 1)
    rw [Nat.pow_succ]
    omega
theorem allW_len (n : Nat) (h : n ≤ 4) : ∀ k, k ≤ 2 → (allW n k).length ≤ 4 ^ k
  | 0, _ => Nat.le_refl 1
  | k + 1, hk => by
    have ih := allW_len n h k (by omega)
    have h2 : (allW n k).length * n ≤ 4 ^ k * 4 := Nat.mul_le_mul ih h
    show (ext n (allW n k)).length ≤ 4 ^ (k + 1)
    rw [ext_len, Nat.pow_succ]
    omega
theorem pow4 {k : Nat} (h : k ≤ 2) : 4 ^ k ≤ 16 := by
  match k, h with
  | 0, _ => decide
  | 1, _ => decide
  | 2, _ => decide
  | k + 3, h => omega
end Dp
set_option maxHeartbeats 2000000
namespace Dp
open PySem PySem.Spec PyProof.Rows L2
section
variable {P : Program} {w : World} {K : PySem.W.Frag} {mg : Str → Option Value} {base : Heap}
theorem all_min {l : List Int} {m : Int} (hm : m ∈ l) (hle : ∀ y ∈ l, m ≤ y) : decide (m ≥ 0) = l.all fun x => decide (0 ≤ x) := by
  rw [Bool.eq_iff_iff, decide_eq_true_iff, List.all_eq_true]
  constructor
  · intro h x hx
    have := hle x hx
    exact decide_eq_true (by omega)
  · intro h
    exact of_decide_eq_true (h m hm)
theorem after_ne {f : Int} {cs : List Int} {u : List Nat} (h : 1 ≤ cs.length) : after f cs u ≠ [] := fun e => by
  have := after_len f cs u
  rw [e] at this
  have h0 : (0 : Nat) = cs.length := this
  omega
/-! ### can_pay_word -/
abbrev s_can_pay_word : Stmt := topS 27
abbrev n_can_pay_word : List Str := ["table", "word"]
abbrev p_can_pay_word : List Str := ["table", "word"]
theorem sc_can_pay_word : FnScope n_can_pay_word p_can_pay_word (defScope s_can_pay_word) := ⟨rfl, rfl, rfl, by decide +kernel, rfl, by decide +kernel, by decide +kernel⟩
def spCan (K : PySem.W.Frag) : Sp := fun vs H Q _ => ∃ (v1 v2 : V) (f : Int) (cs : List Int) (u : List Nat), vs = [v1, v2] ∧ TabAt K H v1 f cs ∧ OkTab f cs ∧ IntsT K H v2 (wi u) ∧ OkWord cs.length u ∧
  ∀ H', Same H H' → Q (.bl (canB f cs u)) H'
theorem kept_can_pay_word (T : Env mg) (D : Own K mg "can_pay_word" s_can_pay_word p_can_pay_word) (k_need_table : Kept P w K mg base 3 "need_table" p_need_table (spNeedTable K)) (k_need_word : Kept P w K mg base 2 "need_word" p_need_word (spNeedWord K))
    (k_after_in : Kept P w K mg base 2 "after_in" p_after_in (spAfter K)) : Kept P w K mg base 4 "can_pay_word" p_can_pay_word (spCan K) := by
  refine D.kept fun f fd F => F.ok sc_can_pay_word (fun vs H Q E h => ?_) (fun cdv A outer s H vs Q E hr h => ?_)
  · obtain ⟨v1, v2, f, cs, u, rfl, _⟩ := h
    rfl
  · obtain ⟨_, _, f, cs, u, rfl, hTab, ok, ⟨b, rfl, hB⟩, okw, q⟩ := h
    obtain ⟨a, c, rfl, hT, hC⟩ := id hTab
    refine ⟨_, (pss_cons (ps_expr (pe_own k_need_table (hr.mono (by decide)) (by rfl) (pa_cons (pv 0) pa_nil)))
 (pss_cons (ps_expr (pe_own k_need_word (hr.mono (by decide)) (by rfl) (pa_cons (pe_callB call_len_seq (by rfl) T.z_len (by decide +kernel) (pa_cons (pe_ix ix_tup (pv 0) pe_int (fun _ _ => rfl)) pa_nil)) (pa_cons (pv 1) pa_nil))))
 (pss_one (ps_ret (pe_cmpR op_ge (pe_callB (cr_minK' rfl (hu_of hr)) (by rfl) T.z_min (by decide +kernel) (pa_cons (pe_own k_after_in (hr.mono (by decide)) (by rfl) (pa_cons (pe_ix ix_tup (pv 0) pe_int (fun _ _ => rfl)) (pa_cons (pe_ix ix_tup (pv 0) pe_int (fun _ _ => rfl)) (pa_cons (pv 1) pa_nil)))) pa_nil)) pe_int (nomark _)))))), ?_⟩
    have n4 := ok.n4
    have n1 := ok.n1
    have h0 : atI [V.int f, V.ref c] 0 = some (.int f) := atI_nat (j := 0) rfl
    have h1 : atI [V.int f, V.ref c] 1 = some (.ref c) := atI_nat (j := 1) rfl
    refine ⟨_, rfl, _, f, cs, rfl, hTab, ok, fun H1 s1 => ?_⟩
    refine ⟨_, rfl, a, _, 1, .ref c, rfl, rfl, sameT s1 hT, h1, c, _, rfl, .inr (sameT s1 hC), _, rfl, cs.length, _, u, by rw [List.length_map]; rfl, ⟨b, rfl, sameT s1 hB⟩, okw, fun H2 s2 => ?_⟩
    have s12 := s1.trans s2
    refine ⟨_, rfl, a, _, 0, .int f, rfl, rfl, sameT s12 hT, h0, _, rfl, a, _, 1, .ref c, rfl, rfl, sameT s12 hT, h1, _, rfl, f, _, cs, _, u, rfl, ok.fac, n4, okw, ⟨c, rfl, sameT s12 hC⟩, ⟨b, rfl, sameT s12 hB⟩, fun H3 p s3 hp => ?_⟩
    refine ⟨false, p, _, rfl, hp, after_ne n1, fun m hm hle => ⟨_, _, rfl, rfl, ?_⟩⟩
    show Q (.bl (decide (0 ≤ m))) H3
    rw [show decide (0 ≤ m) = canB f cs u from all_min hm hle]
    exact q H3 (s12.trans s3)
/-! ### need_goal, need_small, need_both, need_short, need_given -/
abbrev s_need_goal : Stmt := topS 32
abbrev n_need_goal : List Str := ["factor", "players", "word"]
abbrev p_need_goal : List Str := ["factor", "players", "word"]
theorem sc_need_goal : FnScope n_need_goal p_need_goal (defScope s_need_goal) := ⟨rfl, rfl, rfl, by decide +kernel, rfl, by decide +kernel, by decide +kernel⟩
def spNeedGoal (K : PySem.W.Frag) : Sp := fun vs H Q _ => ∃ (f : Int) (n : Nat) (v : V) (u : List Nat), vs = [.int f, .int n, v] ∧ Fac f ∧ (1 ≤ n ∧ n ≤ 4) ∧ IntsT K H v (wi u) ∧ OkWord n u ∧ ∀ H', Same H H' → Q .non H'
theorem kept_need_goal (T : Env mg) (D : Own K mg "need_goal" s_need_goal p_need_goal) (k_need_factor : Kept P w K mg base 3 "need_factor" p_need_factor spNeedFactor) (k_need_players : Kept P w K mg base 2 "need_players" p_need_players spNeedPlayers)
    (k_need_word : Kept P w K mg base 2 "need_word" p_need_word (spNeedWord K)) : Kept P w K mg base 4 "need_goal" p_need_goal (spNeedGoal K) := by
  refine D.kept fun f fd F => F.ok sc_need_goal (fun vs H Q E h => ?_) (fun cdv A outer s H vs Q E hr h => ?_)
  · obtain ⟨f, n, v, u, rfl, _⟩ := h
    rfl
  · obtain ⟨f, n, _, u, rfl, hf, hn, ⟨b, rfl, hB⟩, okw, q⟩ := h
    refine ⟨_, (pss_cons (ps_expr (pe_own k_need_factor (hr.mono (by decide)) (by rfl) (pa_cons (pv 0) pa_nil)))
 (pss_cons (ps_expr (pe_own k_need_players (hr.mono (by decide)) (by rfl) (pa_cons (pv 1) pa_nil)))
 (pss_one (ps_expr (pe_own k_need_word (hr.mono (by decide)) (by rfl) (pa_cons (pv 1) (pa_cons (pv 2) pa_nil))))))), ?_⟩
    exact ⟨_, rfl, f, rfl, hf, _, rfl, n, rfl, hn, _, rfl, _, rfl, n, _, u, rfl, ⟨b, rfl, hB⟩, okw, fun H1 s1 => q H1 s1⟩
abbrev s_need_small : Stmt := topS 33
abbrev n_need_small : List Str := ["factor", "word"]
abbrev p_need_small : List Str := ["factor", "word"]
theorem sc_need_small : FnScope n_need_small p_need_small (defScope s_need_small) := ⟨rfl, rfl, rfl, by decide +kernel, rfl, by decide +kernel, by decide +kernel⟩
def spNeedSmall (K : PySem.W.Frag) : Sp := fun vs H Q _ => ∃ (f : Int) (v : V) (n : Nat) (u : List Nat), vs = [.int f, v] ∧ Fac f ∧ IntsT K H v (wi u) ∧ OkWord n u ∧ Q .non H
theorem kept_need_small (T : Env mg) (D : Own K mg "need_small" s_need_small p_need_small) (k_power : Kept P w K mg base 1 "power" p_power spPower) : Kept P w K mg base 2 "need_small" p_need_small (spNeedSmall K) := by
  refine D.kept fun f fd F => F.ok sc_need_small (fun vs H Q E h => ?_) (fun cdv A outer s H vs Q E hr h => ?_)
  · obtain ⟨f, v, n, u, rfl, _⟩ := h
    rfl
  · obtain ⟨f, _, n, u, rfl, hf, ⟨b, rfl, hB⟩, okw, q⟩ := h
    refine ⟨_, (pss_one (ps_if (pt_cmpR op_gt (pe_own k_power (hr.mono (by decide)) (by rfl) (pa_cons (pv 0) (pa_cons (pe_callB call_len_seq (by rfl) T.z_len (by decide +kernel) (pa_cons (pv 1) pa_nil)) pa_nil))) (pe_const rfl T.c_MOST_SIZE) (nomark _)) (pss_one ps_never) pss_nil)), ?_⟩
    have l4 := okw.l4
    have sl : f ^ u.length ≤ 6561 := pow_bound hf l4
    refine ⟨_, rfl, _, rfl, b, _, rfl, .inr hB, f, u.length, by rw [List.length_map, wi_len]; rfl, hf, l4, _, _, rfl, rfl, _, rfl, ?_⟩
    rw [decide_eq_false (by omega)]
    exact iteF q
abbrev s_need_both : Stmt := topS 38
abbrev n_need_both : List Str := ["table", "word"]
abbrev p_need_both : List Str := ["table", "word"]
theorem sc_need_both : FnScope n_need_both p_need_both (defScope s_need_both) := ⟨rfl, rfl, rfl, by decide +kernel, rfl, by decide +kernel, by decide +kernel⟩
def spNeedBoth (K : PySem.W.Frag) : Sp := fun vs H Q _ => ∃ (v1 v2 : V) (f : Int) (cs : List Int) (u : List Nat), vs = [v1, v2] ∧ TabAt K H v1 f cs ∧ OkTab f cs ∧ IntsT K H v2 (wi u) ∧ OkWord cs.length u ∧ ∀ H', Same H H' → Q .non H'
theorem kept_need_both (T : Env mg) (D : Own K mg "need_both" s_need_both p_need_both) (k_need_table : Kept P w K mg base 3 "need_table" p_need_table (spNeedTable K)) (k_need_word : Kept P w K mg base 2 "need_word" p_need_word (spNeedWord K)) :
    Kept P w K mg base 4 "need_both" p_need_both (spNeedBoth K) := by
  refine D.kept fun f fd F => F.ok sc_need_both (fun vs H Q E h => ?_) (fun cdv A outer s H vs Q E hr h => ?_)
  · obtain ⟨v1, v2, f, cs, u, rfl, _⟩ := h
    rfl
  · obtain ⟨_, _, f, cs, u, rfl, hTab, ok, ⟨b, rfl, hB⟩, okw, q⟩ := h
    obtain ⟨a, c, rfl, hT, hC⟩ := id hTab
    refine ⟨_, (pss_cons (ps_expr (pe_own k_need_table (hr.mono (by decide)) (by rfl) (pa_cons (pv 0) pa_nil)))
 (pss_one (ps_expr (pe_own k_need_word (hr.mono (by decide)) (by rfl) (pa_cons (pe_callB call_len_seq (by rfl) T.z_len (by decide +kernel) (pa_cons (pe_ix ix_tup (pv 0) pe_int (fun _ _ => rfl)) pa_nil)) (pa_cons (pv 1) pa_nil)))))), ?_⟩
    have h1 : atI [V.int f, V.ref c] 1 = some (.ref c) := atI_nat (j := 1) rfl
    refine ⟨_, rfl, _, f, cs, rfl, hTab, ok, fun H1 s1 => ?_⟩
    exact ⟨_, rfl, a, _, 1, .ref c, rfl, rfl, sameT s1 hT, h1, c, _, rfl, .inr (sameT s1 hC), _, rfl, cs.length, _, u, by rw [List.length_map]; rfl, ⟨b, rfl, sameT s1 hB⟩, okw, fun H2 s2 => q H2 (s1.trans s2)⟩
abbrev s_need_short : Stmt := topS 39
abbrev n_need_short : List Str := ["table", "word"]
abbrev p_need_short : List Str := ["table", "word"]
theorem sc_need_short : FnScope n_need_short p_need_short (defScope s_need_short) := ⟨rfl, rfl, rfl, by decide +kernel, rfl, by decide +kernel, by decide +kernel⟩
theorem kept_need_short (T : Env mg) (D : Own K mg "need_short" s_need_short p_need_short) (k_need_both : Kept P w K mg base 4 "need_both" p_need_both (spNeedBoth K)) (k_need_small : Kept P w K mg base 2 "need_small" p_need_small (spNeedSmall K)) :
    Kept P w K mg base 5 "need_short" p_need_short (spNeedBoth K) := by
  refine D.kept fun f fd F => F.ok sc_need_short (fun vs H Q E h => ?_) (fun cdv A outer s H vs Q E hr h => ?_)
  · obtain ⟨v1, v2, f, cs, u, rfl, _⟩ := h
    rfl
  · obtain ⟨_, _, f, cs, u, rfl, hTab, ok, ⟨b, rfl, hB⟩, okw, q⟩ := h
    obtain ⟨a, c, rfl, hT, hC⟩ := id hTab
    refine ⟨_, (pss_cons (ps_expr (pe_own k_need_both (hr.mono (by decide)) (by rfl) (pa_cons (pv 0) (pa_cons (pv 1) pa_nil))))
 (pss_one (ps_expr (pe_own k_need_small (hr.mono (by decide)) (by rfl) (pa_cons (pe_ix ix_tup (pv 0) pe_int (fun _ _ => rfl)) (pa_cons (pv 1) pa_nil)))))), ?_⟩
    have h0 : atI [V.int f, V.ref c] 0 = some (.int f) := atI_nat (j := 0) rfl
    refine ⟨_, rfl, _, rfl, _, _, f, cs, u, rfl, hTab, ok, ⟨b, rfl, hB⟩, okw, fun H1 s1 => ?_⟩
    exact ⟨_, rfl, a, _, 0, .int f, rfl, rfl, sameT s1 hT, h0, _, rfl, f, _, cs.length, u, rfl, ok.fac, ⟨b, rfl, sameT s1 hB⟩, okw, q H1 s1⟩
abbrev s_need_given : Stmt := topS 53
abbrev n_need_given : List Str := ["factor", "players", "whole", "word"]
abbrev p_need_given : List Str := ["factor", "players", "whole", "word"]
theorem sc_need_given : FnScope n_need_given p_need_given (defScope s_need_given) := ⟨rfl, rfl, rfl, by decide +kernel, rfl, by decide +kernel, by decide +kernel⟩
def spNeedGiven (K : PySem.W.Frag) : Sp := fun vs H Q _ => ∃ (f : Int) (n : Nat) (t : Int) (v : V) (u : List Nat), vs = [.int f, .int n, .int t, v] ∧ Fac f ∧ (1 ≤ n ∧ n ≤ 4) ∧ (1 ≤ t ∧ t ≤ 1000000) ∧ IntsT K H v (wi u) ∧ OkWord n u ∧ ∀ H', Same H H' → Q .non H'
theorem kept_need_given (T : Env mg) (D : Own K mg "need_given" s_need_given p_need_given) (k_need_factor : Kept P w K mg base 3 "need_factor" p_need_factor spNeedFactor) (k_need_players : Kept P w K mg base 2 "need_players" p_need_players spNeedPlayers)
    (k_need_whole : Kept P w K mg base 2 "need_whole" p_need_whole spNeedWhole) (k_need_word : Kept P w K mg base 2 "need_word" p_need_word (spNeedWord K)) : Kept P w K mg base 4 "need_given" p_need_given (spNeedGiven K) := by
  refine D.kept fun f fd F => F.ok sc_need_given (fun vs H Q E h => ?_) (fun cdv A outer s H vs Q E hr h => ?_)
  · obtain ⟨f, n, t, v, u, rfl, _⟩ := h
    rfl
  · obtain ⟨f, n, t, _, u, rfl, hf, hn, ht, ⟨b, rfl, hB⟩, okw, q⟩ := h
    refine ⟨_, (pss_cons (ps_expr (pe_own k_need_factor (hr.mono (by decide)) (by rfl) (pa_cons (pv 0) pa_nil)))
 (pss_cons (ps_expr (pe_own k_need_players (hr.mono (by decide)) (by rfl) (pa_cons (pv 1) pa_nil)))
 (pss_cons (ps_expr (pe_own k_need_whole (hr.mono (by decide)) (by rfl) (pa_cons (pv 2) pa_nil)))
 (pss_one (ps_expr (pe_own k_need_word (hr.mono (by decide)) (by rfl) (pa_cons (pv 1) (pa_cons (pv 3) pa_nil)))))))), ?_⟩
    exact ⟨_, rfl, f, rfl, hf, _, rfl, n, rfl, hn, _, rfl, t, rfl, ht, _, rfl, _, rfl, n, _, u, rfl, ⟨b, rfl, hB⟩, okw, fun H1 s1 => q H1 s1⟩
/-! ### whole_in, least_whole -/
abbrev s_whole_in : Stmt := topS 34
abbrev n_whole_in : List Str := ["factor", "players", "word", "found"]
abbrev p_whole_in : List Str := ["factor", "players", "word"]
theorem sc_whole_in : FnScope n_whole_in p_whole_in (defScope s_whole_in) := ⟨rfl, rfl, rfl, by decide +kernel, rfl, by decide +kernel, by decide +kernel⟩
def spWhole (K : PySem.W.Frag) : Sp := fun vs H Q _ => ∃ (f : Int) (n : Nat) (v : V) (u : List Nat), vs = [.int f, .int n, v] ∧ Fac f ∧ (1 ≤ n ∧ n ≤ 4) ∧ IntsT K H v (wi u) ∧ OkWord n u ∧
  ∀ H' x, Same H H' → (∀ y, 1 ≤ y → sumLeast f n y u ≤ y → x ≤ y) → Q (.int x) H'
theorem kept_whole_in (T : Env mg) (D : Own K mg "whole_in" s_whole_in p_whole_in) (k_least_in : Kept P w K mg base 2 "least_in" p_least_in (spLeast K)) : Kept P w K mg base 3 "whole_in" p_whole_in (spWhole K) := by
  refine D.kept fun f fd F => F.ok sc_whole_in (fun vs H Q E h => ?_) (fun cdv A outer s H vs Q E hr h => ?_)
  · obtain ⟨f, n, v, u, rfl, _⟩ := h
    rfl
  · obtain ⟨f, n, _, u, rfl, hf, hn, ⟨b, rfl, hB⟩, okw, q⟩ := h
    refine ⟨_, (pss_cons (ps_set (i := 3) sc_whole_in.nd rfl (.inl rfl) pe_int)
 (pss_cons (ps_while PassesOwn.never (pt_cmpR op_gt (pe_callB (cr_sumK rfl) (by rfl) T.z_sum (by decide +kernel) (pa_cons (pe_own k_least_in (hr.mono (by decide)) (by rfl) (pa_cons (pv 0) (pa_cons (pv 1) (pa_cons (pv 3) (pa_cons (pv 2) pa_nil))))) pa_nil)) (pv 3) (nomark _)) (pss_one (ps_aug (i := 3) sc_whole_in.nd rfl (.inl rfl) pe_int ip_add)))
 (pss_one (ps_ret (pv 3))))), ?_⟩
    have sp := size_pos hf u
    have ls := least_size hf okw
    refine ⟨fun m σ H' => Same H H' ∧ ∃ x : Int, σ = [some (.int f), some (.int n), some (.ref b), some (.int x)] ∧ 1 ≤ x ∧ x ≤ size f u ∧ (∀ y, 1 ≤ y → y < x → y < sumLeast f n y u) ∧ m = (size f u - x).toNat,
      ⟨_, Same.refl H, 1, rfl, by omega, by omega, fun y h1 h2 => by omega, rfl⟩, ?_⟩
    rintro m σ H1 ⟨s1, x, rfl, x1, x2, hx, rfl⟩
    refine ⟨_, rfl, _, rfl, _, rfl, _, rfl, f, n, x, _, u, rfl, hf, hn.2, okw, ⟨b, rfl, sameT s1 hB⟩, fun H2 p s2 hp => ?_⟩
    refine ⟨true, p, _, rfl, .of hp, _, rfl, _, _, rfl, rfl, _, rfl, ite2 (fun c => ?_) (fun c => ?_)⟩
    · have c1 : sumLeast f n x u > x := of_decide_eq_true c
      have xs : x < size f u := by
        rcases Int.lt_or_eq_of_le x2 with z | z
        · exact z
        · rw [z] at c1
          omega
      refine ⟨fun σ' H' => Same H H' ∧ σ' = [some (.int f), some (.int n), some (.ref b), some (.int (x + 1))], fun σ' H' ⟨s3, e3⟩ => ⟨(size f u - (x + 1)).toNat, by omega, s3, x + 1, e3, by omega, by omega, fun y h1 h2 => ?_, rfl⟩, ?_⟩
      · by_cases yx : y < x
        · exact hx y h1 yx
        · have : y = x := by omega
          rw [this]
          exact c1
      · exact ⟨_, rfl, _, _, rfl, rfl, s1.trans s2, rfl⟩
    · have c1 : ¬ sumLeast f n x u > x := fun z => c (decide_eq_true z)
      refine ⟨_, rfl, q H2 x (s1.trans s2) fun y h1 h2 => ?_⟩
      by_cases yx : y < x
      · have := hx y h1 yx
        omega
      · omega
abbrev s_least_whole : Stmt := topS 35
abbrev n_least_whole : List Str := ["factor", "players", "word"]
abbrev p_least_whole : List Str := ["factor", "players", "word"]
theorem sc_least_whole : FnScope n_least_whole p_least_whole (defScope s_least_whole) := ⟨rfl, rfl, rfl, by decide +kernel, rfl, by decide +kernel, by decide +kernel⟩
theorem kept_least_whole (T : Env mg) (D : Own K mg "least_whole" s_least_whole p_least_whole) (k_need_goal : Kept P w K mg base 4 "need_goal" p_need_goal (spNeedGoal K)) (k_need_small : Kept P w K mg base 2 "need_small" p_need_small (spNeedSmall K))
    (k_whole_in : Kept P w K mg base 3 "whole_in" p_whole_in (spWhole K)) : Kept P w K mg base 5 "least_whole" p_least_whole (spWhole K) := by
  refine D.kept fun f fd F => F.ok sc_least_whole (fun vs H Q E h => ?_) (fun cdv A outer s H vs Q E hr h => ?_)
  · obtain ⟨f, n, v, u, rfl, _⟩ := h
    rfl
  · obtain ⟨f, n, _, u, rfl, hf, hn, ⟨b, rfl, hB⟩, okw, q⟩ := h
    refine ⟨_, (pss_cons (ps_expr (pe_own k_need_goal (hr.mono (by decide)) (by rfl) (pa_cons (pv 0) (pa_cons (pv 1) (pa_cons (pv 2) pa_nil)))))
 (pss_cons (ps_expr (pe_own k_need_small (hr.mono (by decide)) (by rfl) (pa_cons (pv 0) (pa_cons (pv 2) pa_nil))))
 (pss_one (ps_ret (pe_own k_whole_in (hr.mono (by decide)) (by rfl) (pa_cons (pv 0) (pa_cons (pv 1) (pa_cons (pv 2) pa_nil)))))))), ?_⟩
    refine ⟨_, rfl, _, rfl, _, rfl, f, n, _, u, rfl, hf, hn, ⟨b, rfl, hB⟩, okw, fun H1 s1 => ?_⟩
    refine ⟨_, rfl, _, rfl, f, _, n, u, rfl, hf, ⟨b, rfl, sameT s1 hB⟩, okw, ?_⟩
    exact ⟨_, rfl, _, rfl, _, rfl, f, n, _, u, rfl, hf, hn, ⟨b, rfl, sameT s1 hB⟩, okw, fun H2 x s2 hx => q H2 x (s1.trans s2) hx⟩
end
end Dp
set_option maxHeartbeats 2000000
namespace Dp
open PySem PySem.Spec PyProof.Rows L2
section
variable {P : Program} {w : World} {K : PySem.W.Frag} {mg : Str → Option Value} {base : Heap}
/-! ### chosen, ways, count_in, table_count -/
abbrev s_chosen : Stmt := topS 54
abbrev n_chosen : List Str := ["whole", "part", "found", "k"]
abbrev p_chosen : List Str := ["whole", "part"]
theorem sc_chosen : FnScope n_chosen p_chosen (defScope s_chosen) := ⟨rfl, rfl, rfl, by decide +kernel, rfl, by decide +kernel, by decide +kernel⟩
def spChosen : Sp := fun vs H Q _ => ∃ (W : Int) (p : Nat), vs = [.int W, .int p] ∧ p ≤ 3 ∧ (p : Int) ≤ W ∧ W < 10000000 ∧ ∀ r, 1 ≤ r → Q (.int r) H
theorem kept_chosen (T : Env mg) (D : Own K mg "chosen" s_chosen p_chosen) : Kept P w K mg base 1 "chosen" p_chosen spChosen := by
  refine D.kept fun f fd F => F.ok sc_chosen (fun vs H Q E h => ?_) (fun cdv A outer s H vs Q E hr h => ?_)
  · obtain ⟨W, p, rfl, _⟩ := h
    rfl
  · obtain ⟨W, p, rfl, hp, hW, hW2, q⟩ := h
    refine ⟨_, (pss_cons (ps_set (i := 2) sc_chosen.nd rfl (.inl rfl) pe_int)
 (pss_cons (ps_for PassesOwn.never rfl (pi_range1 (by rfl) T.z_range (pa_cons (pv 1) pa_nil)) (pg_name (i := 3) sc_chosen.nd rfl (.inl rfl)) (pss_one (ps_set (i := 2) sc_chosen.nd rfl (.inl rfl) (pe_op op_fdiv (pe_op op_mul (pv 2) (pe_op op_sub (pv 0) (pv 3))) (pe_op op_add (pv 3) pe_int)))))
 (pss_one (ps_ret (pv 2))))), ?_⟩
    refine ⟨_, rfl, _, rfl, by omega, by omega, for_range (lo := 0) (fun i σ H' => H' = H ∧ ∃ x y3, bn p i ≤ x ∧ σ = [some (.int W), some (.int p), some (.int x), y3]) ⟨rfl, 1, none, ?_, rfl⟩ ?_ ?_⟩
    · have : bn p 0 = 1 := by
        match p, hp with
        | 0, _ => rfl
        | 1, _ => rfl
        | 2, _ => rfl
        | 3, _ => rfl
        | k + 4, h => omega
      omega
    · rintro i σ H1 hi ⟨rfl, x, y3, hx, rfl⟩
      have hi' : i < p := by omega
      refine ⟨_, rfl, _, rfl, _, rfl, _, _, rfl, rfl, _, _, rfl, rfl, .inr ⟨by omega, by omega⟩, _, rfl, _, _, rfl, rfl, _, _, rfl, rfl, ⟨by omega, by omega⟩, ?_⟩
      exact ⟨rfl, _, some (.int (0 + i)), bn_step hp hi' hW hx, rfl⟩
    · rintro σ H1 ⟨rfl, x, y3, hx, rfl⟩
      rw [Int.toNat_natCast, bn_end hp] at hx
      exact ⟨_, rfl, q x hx⟩
abbrev s_ways : Stmt := topS 55
abbrev n_ways : List Str := ["left", "players"]
abbrev p_ways : List Str := ["left", "players"]
theorem sc_ways : FnScope n_ways p_ways (defScope s_ways) := ⟨rfl, rfl, rfl, by decide +kernel, rfl, by decide +kernel, by decide +kernel⟩
def spWays : Sp := fun vs H Q _ => ∃ (l : Int) (n : Nat), vs = [.int l, .int n] ∧ (1 ≤ n ∧ n ≤ 4) ∧ l ≤ 1000000 ∧ ∀ r, (l < 0 → r = 0) → (0 ≤ l → 1 ≤ r) → Q (.int r) H
theorem kept_ways (T : Env mg) (D : Own K mg "ways" s_ways p_ways) (k_chosen : Kept P w K mg base 1 "chosen" p_chosen spChosen) : Kept P w K mg base 2 "ways" p_ways spWays := by
  refine D.kept fun f fd F => F.ok sc_ways (fun vs H Q E h => ?_) (fun cdv A outer s H vs Q E hr h => ?_)
  · obtain ⟨l, n, rfl, _⟩ := h
    rfl
  · obtain ⟨l, n, rfl, hn, hl, q⟩ := h
    refine ⟨_, (pss_cons (ps_if (pt_cmpR op_lt (pv 0) pe_int (nomark _)) (pss_one (ps_ret pe_int)) pss_nil)
 (pss_one (ps_ret (pe_ifExp (pt_cmpR op_eq (pv 1) pe_int (nomark _)) (pe_callTy call_int1 (by rfl) T.z_int (by decide +kernel) (pa_cons (pe_cmpR op_eq (pv 0) pe_int (nomark _)) pa_nil)) (pe_own k_chosen (hr.mono (by decide)) (by rfl) (pa_cons (pe_op op_sub (pe_op op_add (pv 0) (pv 1)) pe_int) (pa_cons (pe_op op_sub (pv 1) pe_int) pa_nil))))))), ?_⟩
    refine ⟨_, rfl, _, _, rfl, rfl, _, rfl, ite2 (fun c => ?_) (fun c => ?_)⟩
    · have c1 : l < 0 := of_decide_eq_true c
      exact q 0 (fun _ => rfl) (fun z => by omega)
    · have c1 : ¬ l < 0 := fun z => c (decide_eq_true z)
      refine ⟨_, rfl, rfl, _, rfl, ?_⟩
      rw [decide_eq_false (fun e => by have := V.int.inj e; omega)]
      refine iteF ?_
      refine ⟨_, rfl, _, rfl, _, _, rfl, rfl, _, _, rfl, rfl, _, rfl, _, _, rfl, rfl, ?_⟩
      have e : ((n : Int) - 1) = ((n - 1 : Nat) : Int) := by omega
      show spChosen [.int (l + n - 1), .int ((n : Int) - 1)] _ _ E0
      rw [e]
      exact ⟨_, n - 1, rfl, by omega, by omega, by omega, fun r hr => q r (fun z => by omega) (fun _ => hr)⟩
abbrev s_count_in : Stmt := topS 56
abbrev n_count_in : List Str := ["factor", "players", "whole", "word"]
abbrev p_count_in : List Str := ["factor", "players", "whole", "word"]
theorem sc_count_in : FnScope n_count_in p_count_in (defScope s_count_in) := ⟨rfl, rfl, rfl, by decide +kernel, rfl, by decide +kernel, by decide +kernel⟩
def spCount (K : PySem.W.Frag) : Sp := fun vs H Q _ => ∃ (f : Int) (n : Nat) (t : Int) (v : V) (u : List Nat), vs = [.int f, .int n, .int t, v] ∧ Fac f ∧ (1 ≤ n ∧ n ≤ 4) ∧ (1 ≤ t ∧ t ≤ 1000000) ∧ IntsT K H v (wi u) ∧ OkWord n u ∧
  ∀ H' r, Same H H' → (t < sumLeast f n t u → r = 0) → (sumLeast f n t u ≤ t → 1 ≤ r) → Q (.int r) H'
theorem ceil_nonneg' {f : Int} (hf : Fac f) {n : Nat} {t : Int} {u : List Nat} (ht : 0 ≤ t) : ∀ x ∈ least f n t u, 0 ≤ x := by
  intro x hx
  unfold least at hx
  obtain ⟨m, hm, rfl⟩ := List.mem_map.mp hx
  exact ceil_nonneg (size_pos hf u) (Int.mul_nonneg ht (nums_bd hf n u m hm).1)
theorem sum_nonneg : ∀ {l : List Int}, (∀ x ∈ l, 0 ≤ x) → 0 ≤ l.sum
  | [], _ => by simp
  | a :: r, h => by
    have h1 := h a (by simp)
    have h2 := sum_nonneg (l := r) fun x hx => h x (by simp [hx])
    rw [List.sum_cons]
    omega
theorem kept_count_in (T : Env mg) (D : Own K mg "count_in" s_count_in p_count_in) (k_ways : Kept P w K mg base 2 "ways" p_ways spWays) (k_least_in : Kept P w K mg base 2 "least_in" p_least_in (spLeast K)) : Kept P w K mg base 3 "count_in" p_count_in (spCount K) := by
  refine D.kept fun f fd F => F.ok sc_count_in (fun vs H Q E h => ?_) (fun cdv A outer s H vs Q E hr h => ?_)
  · obtain ⟨f, n, t, v, u, rfl, _⟩ := h
    rfl
  · obtain ⟨f, n, t, _, u, rfl, hf, hn, ht, ⟨b, rfl, hB⟩, okw, q⟩ := h
    refine ⟨_, (pss_one (ps_ret (pe_own k_ways (hr.mono (by decide)) (by rfl) (pa_cons (pe_op op_sub (pv 2) (pe_callB (cr_sumK rfl) (by rfl) T.z_sum (by decide +kernel) (pa_cons (pe_own k_least_in (hr.mono (by decide)) (by rfl) (pa_cons (pv 0) (pa_cons (pv 1) (pa_cons (pv 2) (pa_cons (pv 3) pa_nil))))) pa_nil))) (pa_cons (pv 1) pa_nil))))), ?_⟩
    refine ⟨_, rfl, _, rfl, _, rfl, _, rfl, _, rfl, f, n, t, _, u, rfl, hf, hn.2, okw, ⟨b, rfl, hB⟩, fun H1 p s1 hp => ?_⟩
    have nn : 0 ≤ sumLeast f n t u := sum_nonneg (ceil_nonneg' hf (by omega))
    refine ⟨true, p, _, rfl, .of hp, _, _, rfl, rfl, _, rfl, t - sumLeast f n t u, n, rfl, hn, by omega, fun r h1 h2 => ?_⟩
    exact q H1 r s1 (fun z => h1 (by omega)) (fun z => h2 (by omega))
abbrev s_table_count : Stmt := topS 57
abbrev n_table_count : List Str := ["factor", "players", "whole", "word"]
abbrev p_table_count : List Str := ["factor", "players", "whole", "word"]
theorem sc_table_count : FnScope n_table_count p_table_count (defScope s_table_count) := ⟨rfl, rfl, rfl, by decide +kernel, rfl, by decide +kernel, by decide +kernel⟩
theorem kept_table_count (T : Env mg) (D : Own K mg "table_count" s_table_count p_table_count) (k_need_given : Kept P w K mg base 4 "need_given" p_need_given (spNeedGiven K)) (k_count_in : Kept P w K mg base 3 "count_in" p_count_in (spCount K)) : Kept P w K mg base 5 "table_count" p_table_count (spCount K) := by
  refine D.kept fun f fd F => F.ok sc_table_count (fun vs H Q E h => ?_) (fun cdv A outer s H vs Q E hr h => ?_)
  · obtain ⟨f, n, t, v, u, rfl, _⟩ := h
    rfl
  · obtain ⟨f, n, t, _, u, rfl, hf, hn, ht, ⟨b, rfl, hB⟩, okw, q⟩ := h
    refine ⟨_, (pss_cons (ps_expr (pe_own k_need_given (hr.mono (by decide)) (by rfl) (pa_cons (pv 0) (pa_cons (pv 1) (pa_cons (pv 2) (pa_cons (pv 3) pa_nil))))))
 (pss_one (ps_ret (pe_own k_count_in (hr.mono (by decide)) (by rfl) (pa_cons (pv 0) (pa_cons (pv 1) (pa_cons (pv 2) (pa_cons (pv 3) pa_nil)))))))), ?_⟩
    refine ⟨_, rfl, _, rfl, _, rfl, _, rfl, f, n, t, _, u, rfl, hf, hn, ht, ⟨b, rfl, hB⟩, okw, fun H1 s1 => ?_⟩
    exact ⟨_, rfl, _, rfl, _, rfl, _, rfl, f, n, t, _, u, rfl, hf, hn, ht, ⟨b, rfl, sameT s1 hB⟩, okw, fun H2 r s2 h1 h2 => q H2 r (s1.trans s2) h1 h2⟩
/-! ### lacks, fewest_in, fewest_shifted -/
def optV : Option Int → V
  | none => .non
  | some z => .int z
abbrev LT (f : Int) (cs : List Int) (u : List Nat) : List Int := least f cs.length cs.sum u
theorem sumLT (f : Int) (cs : List Int) (u : List Nat) : (LT f cs u).sum = sumLeast f cs.length cs.sum u := rfl
abbrev s_lacks : Stmt := topS 40
abbrev n_lacks : List Str := ["table", "word", "factor", "coins", "least", "one", "other"]
abbrev p_lacks : List Str := ["table", "word"]
theorem sc_lacks : FnScope n_lacks p_lacks (defScope s_lacks) := ⟨rfl, rfl, rfl, by decide +kernel, rfl, by decide +kernel, by decide +kernel⟩
def spLacks (K : PySem.W.Frag) : Sp := fun vs H Q _ => ∃ (v1 v2 : V) (f : Int) (cs : List Int) (u : List Nat), vs = [v1, v2] ∧ TabAt K H v1 f cs ∧ OkTab f cs ∧ IntsT K H v2 (wi u) ∧ OkWord cs.length u ∧
  (sumLeast f cs.length cs.sum u > cs.sum → ∀ H', Same H H' → Q .non H') ∧ (sumLeast f cs.length cs.sum u ≤ cs.sum → ∀ H' p, Same H H' → H' p = some (.lst ((lacksL (LT f cs u) cs).map V.int)) → Q (.ref p) H')
theorem kept_lacks (T : Env mg) (D : Own K mg "lacks" s_lacks p_lacks) (k_least_in : Kept P w K mg base 2 "least_in" p_least_in (spLeast K)) : Kept P w K mg base 3 "lacks" p_lacks (spLacks K) := by
  refine D.kept fun f fd F => F.ok sc_lacks (fun vs H Q E h => ?_) (fun cdv A outer s H vs Q E hr h => ?_)
  · obtain ⟨v1, v2, f, cs, u, rfl, _⟩ := h
    rfl
  · obtain ⟨_, _, f, cs, u, rfl, hTab, ok, ⟨b, rfl, hB⟩, okw, q1, q2⟩ := h
    obtain ⟨a, c, rfl, hT, hC⟩ := id hTab
    have n4 := ok.n4
    refine ⟨_, (pss_cons (ps_asg (pv 0) (pg_tup rfl (pgs_cons (pg_name (i := 2) sc_lacks.nd rfl (.inl rfl)) (pgs_cons (pg_name (i := 3) sc_lacks.nd rfl (.inl rfl)) pgs_nil))))
 (pss_cons (ps_set (i := 4) sc_lacks.nd rfl (.inl rfl) (pe_own k_least_in (hr.mono (by decide)) (by rfl) (pa_cons (pv 2) (pa_cons (pe_callB call_len_seq (by rfl) T.z_len (by decide +kernel) (pa_cons (pv 3) pa_nil)) (pa_cons (pe_callB (cr_sumK rfl) (by rfl) T.z_sum (by decide +kernel) (pa_cons (pv 3) pa_nil)) (pa_cons (pv 1) pa_nil))))))
 (pss_cons (ps_if (pt_cmpR op_gt (pe_callB (cr_sumK rfl) (by rfl) T.z_sum (by decide +kernel) (pa_cons (pv 4) pa_nil)) (pe_callB (cr_sumK rfl) (by rfl) T.z_sum (by decide +kernel) (pa_cons (pv 3) pa_nil)) (nomark _)) (pss_one (ps_ret pe_non)) pss_nil)
 (pss_one (ps_ret (pe_lc (own := [("one", 5), ("other", 6)]) (g := (gTup K 2 (gCons (gName 5) (gCons (gName 6) gNil)))) (tt := tYes) rfl sc_lacks.nd (pi_zipM (by rfl) T.z_zip (pa_cons (pv 4) (pa_cons (pv 3) pa_nil))) (blkOk_by (own := [("one", 5), ("other", 6)]) (N := n_lacks) (sc := defScope s_lacks) (by decide +kernel)) (fun _ _ _ _ _ => (pg_tup rfl (pgs_cons (pg_name (i := 5) sc_lacks.nd rfl (.inl rfl)) (pgs_cons (pg_name (i := 6) sc_lacks.nd rfl (.inl rfl)) pgs_nil)))) (fun _ _ _ _ _ => pts_nil) (fun _ _ _ _ _ => (pe_callB (call_max2 rfl) (by rfl) T.z_max (by decide +kernel) (pa_cons pe_int (pa_cons (pe_op op_sub (pv 5) (pv 6)) pa_nil)))))))))), ?_⟩
    refine ⟨_, rfl, a, _, rfl, hT, rfl, _, _, rfl, _, _, rfl, rfl, ?_⟩
    refine ⟨_, rfl, _, rfl, c, _, rfl, .inr hC, _, rfl, false, c, cs, rfl, hC, _, rfl, f, cs.length, cs.sum, _, u, by rw [List.length_map]; rfl, ok.fac, n4, okw, ⟨b, rfl, hB⟩, fun H1 p s1 hp => ?_⟩
    have hC1 := sameT s1 hC
    refine ⟨_, rfl, true, p, _, rfl, .of hp, _, rfl, false, c, cs, rfl, hC1, _, _, rfl, rfl, _, rfl, ite2 (fun e => ?_) (fun e => ?_)⟩
    · exact q1 (of_decide_eq_true e) H1 s1
    · have e1 : sumLeast f cs.length cs.sum u ≤ cs.sum := by
        have : ¬ sumLeast f cs.length cs.sum u > cs.sum := fun z => e (decide_eq_true z)
        omega
      have ll : (LT f cs u).length = cs.length := least_len ..
      refine ⟨_, rfl, _, rfl, true, false, p, c, _, _, rfl, .of hp, hC1, fun D1 nD => lc_map nD (walk_zipM (k1 := true) (k2 := false) (xs := (LT f cs u).map V.int) (ys := cs.map V.int) rfl) ((lacksL (LT f cs u) cs).map V.int) (by rw [List.length_map, List.length_map, List.length_map, lacksL_len ll, ll]; omega) (by rw [List.length_map, List.length_map, ll]; omega) (fun H2 s2 => ⟨.of (s2 _ _ hp), sameT s2 hC1⟩) ?_ ?_ gTup2_mono⟩
      · rintro j x H2 H3 C hj s3 ⟨t2, x1, x2, rfl, nt, rfl, e1, e2⟩ h1
        obtain ⟨z1, ez1, rfl⟩ := map_getI e1
        obtain ⟨z2, ez2, rfl⟩ := map_getI e2
        refine ⟨t2, _, rfl, .of upd_same, rfl, _, _, rfl, _, _, rfl, rfl, rfl, ?_⟩
        refine ⟨_, rfl, _, rfl, _, _, rfl, rfl, _, _, rfl, h1 _ _ (same_upd nt) ?_⟩
        refine getI ?_
        unfold lacksL
        rw [List.getElem?_zipWith, ez1, ez2]
        rfl
      · intro H2 s2 eD
        exact q2 e1 H2 D1 (s1.trans s2) eD
abbrev s_fewest_in : Stmt := topS 41
abbrev n_fewest_in : List Str := ["table", "word", "found"]
abbrev p_fewest_in : List Str := ["table", "word"]
theorem sc_fewest_in : FnScope n_fewest_in p_fewest_in (defScope s_fewest_in) := ⟨rfl, rfl, rfl, by decide +kernel, rfl, by decide +kernel, by decide +kernel⟩
def spFewest (K : PySem.W.Frag) : Sp := fun vs H Q _ => ∃ (v1 v2 : V) (f : Int) (cs : List Int) (u : List Nat), vs = [v1, v2] ∧ TabAt K H v1 f cs ∧ OkTab f cs ∧ IntsT K H v2 (wi u) ∧ OkWord cs.length u ∧
  ∀ H', Same H H' → Q (optV (fewest f cs u)) H'
theorem kept_fewest_in (T : Env mg) (D : Own K mg "fewest_in" s_fewest_in p_fewest_in) (k_lacks : Kept P w K mg base 3 "lacks" p_lacks (spLacks K)) : Kept P w K mg base 4 "fewest_in" p_fewest_in (spFewest K) := by
  refine D.kept fun f fd F => F.ok sc_fewest_in (fun vs H Q E h => ?_) (fun cdv A outer s H vs Q E hr h => ?_)
  · obtain ⟨v1, v2, f, cs, u, rfl, _⟩ := h
    rfl
  · obtain ⟨v1, v2, f, cs, u, rfl, hTab, ok, hB, okw, q⟩ := h
    refine ⟨_, (pss_cons (ps_set (i := 2) sc_fewest_in.nd rfl (.inl rfl) (pe_own k_lacks (hr.mono (by decide)) (by rfl) (pa_cons (pv 0) (pa_cons (pv 1) pa_nil))))
 (pss_one (ps_ret (pe_ifExp (pt_cmpR op_isN (pv 2) pe_non (nomark _)) pe_non (pe_callB (cr_sumK rfl) (by rfl) T.z_sum (by decide +kernel) (pa_cons (pv 2) pa_nil)))))), ?_⟩
    refine ⟨_, rfl, _, rfl, v1, v2, f, cs, u, rfl, hTab, ok, hB, okw, fun c H1 s1 => ?_, fun c H1 p s1 hp => ?_⟩
    · refine ⟨_, rfl, rfl, true, rfl, iteT ?_⟩
      have := q H1 s1
      rw [fewest_none c] at this
      exact this
    · refine ⟨_, rfl, rfl, false, rfl, iteF ?_⟩
      refine ⟨_, rfl, true, p, _, rfl, .of hp, ?_⟩
      have := q H1 s1
      rw [fewest_some c] at this
      exact this
abbrev s_fewest_shifted : Stmt := topS 42
abbrev n_fewest_shifted : List Str := ["table", "word"]
abbrev p_fewest_shifted : List Str := ["table", "word"]
theorem sc_fewest_shifted : FnScope n_fewest_shifted p_fewest_shifted (defScope s_fewest_shifted) := ⟨rfl, rfl, rfl, by decide +kernel, rfl, by decide +kernel, by decide +kernel⟩
theorem kept_fewest_shifted (T : Env mg) (D : Own K mg "fewest_shifted" s_fewest_shifted p_fewest_shifted) (k_need_both : Kept P w K mg base 4 "need_both" p_need_both (spNeedBoth K)) (k_fewest_in : Kept P w K mg base 4 "fewest_in" p_fewest_in (spFewest K)) :
    Kept P w K mg base 5 "fewest_shifted" p_fewest_shifted (spFewest K) := by
  refine D.kept fun f fd F => F.ok sc_fewest_shifted (fun vs H Q E h => ?_) (fun cdv A outer s H vs Q E hr h => ?_)
  · obtain ⟨v1, v2, f, cs, u, rfl, _⟩ := h
    rfl
  · obtain ⟨v1, v2, f, cs, u, rfl, hTab, ok, hB, okw, q⟩ := h
    refine ⟨_, (pss_cons (ps_expr (pe_own k_need_both (hr.mono (by decide)) (by rfl) (pa_cons (pv 0) (pa_cons (pv 1) pa_nil))))
 (pss_one (ps_ret (pe_own k_fewest_in (hr.mono (by decide)) (by rfl) (pa_cons (pv 0) (pa_cons (pv 1) pa_nil)))))), ?_⟩
    refine ⟨_, rfl, _, rfl, v1, v2, f, cs, u, rfl, hTab, ok, hB, okw, fun H1 s1 => ?_⟩
    exact ⟨_, rfl, _, rfl, v1, v2, f, cs, u, rfl, hTab.same s1, ok, hB.same s1, okw, fun H2 s2 => q H2 (s1.trans s2)⟩
end
end Dp
namespace Dp
/-! ### the law's own tables -/
theorem step_bound {f : Int} (hf : Fac f) {l : List Int} {B : Int} (h : ∀ x ∈ l, 0 ≤ x ∧ x + 1 ≤ B) (k : Nat) : ∀ y ∈ step f l k, 0 ≤ y ∧ y + 1 ≤ B * 9 := by
  intro y hy
  obtain ⟨x, hx, e⟩ := step_mem hy
  obtain ⟨h0, h1⟩ := h x hx
  have f2 := hf.1
  have f9 : f ≤ 9 := hf.2
  have g1 : 0 ≤ f * x := Int.mul_nonneg (by omega) h0
  have g2 : f * (x + 1) ≤ 9 * B := Int.mul_le_mul f9 h1 (by omega) (by omega)
  rw [Int.mul_add, Int.mul_one] at g2
  rcases e with e | e <;> subst e <;> constructor <;> omega
theorem sum_pos_of_mem : ∀ {l : List Int} {x : Int}, (∀ y ∈ l, 0 ≤ y) → x ∈ l → x ≤ l.sum
  | [], x, _, h => by simp at h
  | a :: r, x, h, hx => by
    have hr : 0 ≤ r.sum := by
      have : ∀ {l : List Int}, (∀ y ∈ l, 0 ≤ y) → 0 ≤ l.sum := by
        intro l
        induction l with
        | nil => intro _; simp
        | cons a r ih =>
          intro h
          have h1 := h a (by simp)
          have h2 := ih fun y hy => h y (by simp [hy])
          rw [List.sum_cons]
          omega
      exact this fun y hy => h y (by simp [hy])
    rw [List.sum_cons]
    rcases List.mem_cons.mp hx with e | e
    · omega
    · have := sum_pos_of_mem (fun y hy => h y (by simp [hy])) e
      have := h a (by simp)
      omega
theorem nonneg_sum {l : List Int} (h : ∀ y ∈ l, 0 ≤ y) : 0 ≤ l.sum := by
  cases l with
  | nil => simp
  | cons a r =>
    have := sum_pos_of_mem h (List.mem_cons_self)
    have := h a (by simp)
    omega
theorem sum_le_mul : ∀ {l : List Int} {B : Int}, (∀ y ∈ l, y ≤ B) → l.sum ≤ l.length * B
  | [], B, _ => by simp
  | a :: r, B, h => by
    have h1 := h a (by simp)
    have h2 := sum_le_mul (l := r) (B := B) fun y hy => h y (by simp [hy])
    rw [List.sum_cons, List.length_cons]
    have : ((r.length + 1 : Nat) : Int) * B = r.length * B + B := by
      rw [Int.natCast_add, Int.add_mul]
      simp
    omega
/-- the other players' coins -/
def oth (l : List Int) (k : Nat) : List Int := ((List.range l.length).filter fun j => j != k).map fun j => l.getD j 0
theorem exists_pos : ∀ {l : List Int}, (∀ y ∈ l, 0 ≤ y) → 0 < l.sum → ∃ j : Nat, ∃ x, l[j]? = some x ∧ 0 < x
  | [], _, h => by simp at h
  | a :: r, h, hs => by
    by_cases c : 0 < a
    · exact ⟨0, a, rfl, c⟩
    · have h0 := h a (by simp)
      have : a = 0 := by omega
      rw [List.sum_cons] at hs
      obtain ⟨j, x, e, hx⟩ := exists_pos (l := r) (fun y hy => h y (by simp [hy])) (by omega)
      exact ⟨j + 1, x, by simpa using e, hx⟩
/-- what a payer has had is a coin at least -/
theorem payer_pos {f : Int} (hf : Fac f) {l : List Int} {k : Nat} {c : Int} (h : ∀ y ∈ l, 0 ≤ y) (hs : 0 < l.sum) (hk : l[k]? = some c) (hd : ∀ y ∈ oth l k, y % f = 0) : f ≤ c + (f - 1) * l.sum := by
  have f2 := hf.1
  have c0 : 0 ≤ c := h c (List.mem_of_getElem? hk)
  by_cases c1 : 1 ≤ c
  · have : c ≤ l.sum := sum_pos_of_mem h (List.mem_of_getElem? hk)
    have g : (f - 1) * 1 ≤ (f - 1) * l.sum := Int.mul_le_mul_of_nonneg_left (by omega) (by omega)
    rw [Int.mul_one] at g
    omega
  · obtain ⟨j, x, ej, hx⟩ := exists_pos h hs
    have jk : j ≠ k := fun e => by
      rw [e, hk] at ej
      have := Option.some.inj ej
      omega
    have jl : j < l.length := (List.getElem?_eq_some_iff.mp ej).1
    have hm : x ∈ oth l k := by
      unfold oth
      refine List.mem_map.mpr ⟨j, List.mem_filter.mpr ⟨List.mem_range.mpr jl, by simpa using jk⟩, ?_⟩
      rw [List.getD_eq_getElem?_getD, ej]
      rfl
    have hx2 := hd x hm
    have fx : f ≤ x := by
      have := Int.emod_emod_of_dvd
      rcases Int.lt_or_le x f with z | z
      · rw [Int.emod_eq_of_lt (by omega) z] at hx2
        omega
      · exact z
    have : x ≤ l.sum := sum_pos_of_mem h (List.mem_of_getElem? ej)
    have g : 1 * f ≤ (f - 1) * l.sum := Int.mul_le_mul (by omega) (by omega) (by omega) (by omega)
    omega
/-- the coins ahead of a round -/
def back (f : Int) (l : List Int) (k : Nat) (z : Int) : List Int := (l.map fun x => x / f).set k (z / f)
theorem mem_set_or {l : List Int} {k : Nat} {v y : Int} (h : y ∈ l.set k v) : y ∈ l ∨ y = v := List.mem_or_eq_of_mem_set h
theorem back_bound {f : Int} (hf : Fac f) {l : List Int} {k : Nat} {c B : Int} (hl : l.length ≤ 4) (h : ∀ y ∈ l, 0 ≤ y ∧ y ≤ B) (hk : l[k]? = some c) :
    ∀ y ∈ back f l k (c + (f - 1) * l.sum), 0 ≤ y ∧ y ≤ B * 9 := by
  have f2 := hf.1
  have hn : ∀ y ∈ l, 0 ≤ y := fun y hy => (h y hy).1
  have c0 := h c (List.mem_of_getElem? hk)
  have s0 := nonneg_sum hn
  have s1 := sum_le_mul (B := B) fun y hy => (h y hy).2
  have s2 : (l.length : Int) * B ≤ 4 * B := Int.mul_le_mul_of_nonneg_right (by omega) (by omega)
  have cs := sum_pos_of_mem hn (List.mem_of_getElem? hk)
  intro y hy
  rcases mem_set_or hy with e | e
  · obtain ⟨x, hx, rfl⟩ := List.mem_map.mp e
    obtain ⟨x0, x1⟩ := h x hx
    have e1 : x / f ≤ x := Int.ediv_le_self _ x0
    have e2 : 0 ≤ x / f := Int.ediv_nonneg x0 (by omega)
    constructor <;> omega
  · subst e
    have g0 : 0 ≤ (f - 1) * l.sum := Int.mul_nonneg (by omega) s0
    have e2 : 0 ≤ (c + (f - 1) * l.sum) / f := Int.ediv_nonneg (by omega) (by omega)
    have e3 : (c + (f - 1) * l.sum) / f ≤ l.sum := by
      have : (c + (f - 1) * l.sum) < (l.sum + 1) * f := by
        have q : (l.sum + 1) * f = (f - 1) * l.sum + l.sum + f := by
          rw [Int.add_mul, Int.one_mul, Int.sub_mul, Int.one_mul, Int.mul_comm]
          omega
        rw [q]
        omega
      have := (Int.ediv_lt_iff_lt_mul (show 0 < f by omega)).mpr this
      omega
    constructor <;> omega
theorem back_sum {f : Int} (hf : Fac f) {l : List Int} {k : Nat} {c : Int} (h : ∀ y ∈ l, 0 ≤ y) (hs : 0 < l.sum) (hk : l[k]? = some c) (hd : ∀ y ∈ oth l k, y % f = 0) : 0 < (back f l k (c + (f - 1) * l.sum)).sum := by
  have f2 := hf.1
  have g := payer_pos hf h hs hk hd
  have hn : ∀ y ∈ l, 0 ≤ y := h
  have e1 : 1 ≤ (c + (f - 1) * l.sum) / f := (Int.le_ediv_iff_mul_le (show 0 < f by omega)).mpr (by omega)
  have nn : ∀ y ∈ back f l k (c + (f - 1) * l.sum), 0 ≤ y := by
    intro y hy
    rcases mem_set_or hy with e | e
    · obtain ⟨x, hx, rfl⟩ := List.mem_map.mp e
      exact Int.ediv_nonneg (h x hx) (by omega)
    · omega
  have hk2 : k < (l.map fun x => x / f).length := by
    rw [List.length_map]
    exact (List.getElem?_eq_some_iff.mp hk).1
  have hm : (c + (f - 1) * l.sum) / f ∈ back f l k (c + (f - 1) * l.sum) := by
    unfold back
    exact List.mem_of_getElem? (List.getElem?_set_self hk2)
  have := sum_pos_of_mem nn hm
  omega
theorem mul_bound {f : Int} (hf : Fac f) {l : List Int} {B : Int} (h : ∀ y ∈ l, 0 ≤ y ∧ y ≤ B) : ∀ y ∈ l.map (fun x => f * x), 0 ≤ y ∧ y ≤ B * 9 := by
  intro y hy
  obtain ⟨x, hx, rfl⟩ := List.mem_map.mp hy
  obtain ⟨x0, x1⟩ := h x hx
  have f2 := hf.1
  have f9 : f ≤ 9 := hf.2
  have g1 : 0 ≤ f * x := Int.mul_nonneg (by omega) x0
  have g2 : f * x ≤ 9 * B := Int.mul_le_mul f9 x1 (by omega) (by omega)
  constructor <;> omega
theorem pow9 {k : Nat} (h : k ≤ 5) : (9 : Int) ^ k ≤ 59049 := by
  match k, h with
  | 0, _ => decide
  | 1, _ => decide
  | 2, _ => decide
  | 3, _ => decide
  | 4, _ => decide
  | 5, _ => decide
  | k + 6, h => omega
end Dp
namespace Dp
/-! ### the law's own mathematics -/
def LeP (ls cs : List Int) : Prop := ∀ (i : Nat) (l c : Int), ls[i]? = some l → cs[i]? = some c → l ≤ c
theorem LeP.cons {l c : Int} {ls cs : List Int} : LeP (l :: ls) (c :: cs) ↔ l ≤ c ∧ LeP ls cs := by
  constructor
  · intro h
    exact ⟨h 0 l c rfl rfl, fun i a b e1 e2 => h (i + 1) a b (by simpa using e1) (by simpa using e2)⟩
  · rintro ⟨h0, h1⟩ i a b e1 e2
    cases i with
    | zero =>
      have e1 : l = a := by simpa using e1
      have e2 : c = b := by simpa using e2
      omega
    | succ i => exact h1 i a b (by simpa using e1) (by simpa using e2)
theorem LeP.nil (cs : List Int) : LeP [] cs := fun i l c e => by simp at e
theorem LeP.trans {a b c : List Int} (hl : b.length = c.length) (h1 : LeP a b) (h2 : LeP b c) : LeP a c := fun i x z e1 e2 => by
  have hi : i < b.length := by rw [hl]; exact (List.getElem?_eq_some_iff.mp e2).1
  have e3 : b[i]? = some b[i] := List.getElem?_eq_getElem hi
  have := h1 i x _ e1 e3
  have := h2 i _ z e3 e2
  omega
theorem LeP.sum : ∀ {ls cs : List Int}, ls.length = cs.length → LeP ls cs → ls.sum ≤ cs.sum
  | [], [], _, _ => by simp
  | [], c :: cs, h, _ => by simp at h
  | l :: ls, [], h, _ => by simp at h
  | l :: ls, c :: cs, h, hp => by
    obtain ⟨h0, h1⟩ := LeP.cons.mp hp
    have := LeP.sum (by simpa using h) h1
    rw [List.sum_cons, List.sum_cons]
    omega
theorem mx0_nn (z : Int) : 0 ≤ mx0 z := by
  unfold mx0
  split <;> omega
theorem lacks_nn : ∀ (ls cs : List Int), 0 ≤ (lacksL ls cs).sum
  | [], _ => by simp [lacksL]
  | _ :: _, [] => by simp [lacksL]
  | l :: ls, c :: cs => by
    have ih := lacks_nn ls cs
    have := mx0_nn (l - c)
    show 0 ≤ (mx0 (l - c) :: lacksL ls cs).sum
    rw [List.sum_cons]
    omega
theorem lacks_zero : ∀ {ls cs : List Int}, ls.length = cs.length → ((lacksL ls cs).sum = 0 ↔ LeP ls cs)
  | [], [], _ => ⟨fun _ => LeP.nil _, fun _ => by simp [lacksL]⟩
  | [], c :: cs, h => by simp at h
  | l :: ls, [], h => by simp at h
  | l :: ls, c :: cs, h => by
    have ih := lacks_zero (ls := ls) (cs := cs) (by simpa using h)
    have n1 := mx0_nn (l - c)
    have n2 := lacks_nn ls cs
    rw [LeP.cons, ← ih]
    show (mx0 (l - c) :: lacksL ls cs).sum = 0 ↔ _
    rw [List.sum_cons]
    have : mx0 (l - c) = 0 ↔ l ≤ c := by
      unfold mx0
      split <;> omega
    omega
theorem can_iff {f : Int} (hf : Fac f) (xs : List Int) (u : List Nat) : canB f xs u = true ↔ LeP (least f xs.length xs.sum u) xs := by
  have sp := size_pos hf u
  unfold canB
  rw [List.all_eq_true]
  constructor
  · intro h i l c e1 e2
    unfold least at e1
    rw [List.getElem?_map] at e1
    cases em : (nums f xs.length u)[i]? with
    | none => rw [em] at e1; cases e1
    | some m =>
      rw [em] at e1
      have el := Option.some.inj e1
      have ea : (after f xs u)[i]? = some (size f u * c - xs.sum * m) := by
        unfold after
        rw [List.getElem?_zipWith, e2, em]
      have := of_decide_eq_true (h _ (List.mem_of_getElem? ea))
      rw [← el]
      refine (ceil_le sp).mpr ?_
      rw [Int.mul_comm c]
      omega
  · intro h x hx
    obtain ⟨i, hi⟩ := List.mem_iff_getElem?.mp hx
    unfold after at hi
    rw [List.getElem?_zipWith] at hi
    cases ec : xs[i]? with
    | none => rw [ec] at hi; cases hi
    | some c =>
      cases em : (nums f xs.length u)[i]? with
      | none => rw [ec, em] at hi; cases hi
      | some m =>
        rw [ec, em] at hi
        have ex := Option.some.inj hi
        have el : (least f xs.length xs.sum u)[i]? = some (ceil (xs.sum * m) (size f u)) := by
          unfold least
          rw [List.getElem?_map, em]
          rfl
        have h1 := (ceil_le sp).mp (h i _ c el ec)
        rw [Int.mul_comm c] at h1
        refine decide_eq_true ?_
        rw [← ex]
        omega
/-- what is 0 exactly if the word can be paid -/
theorem few_zero {f : Int} (hf : Fac f) (cs : List Int) (u : List Nat) : fewest f cs u = some 0 ↔ canB f cs u = true := by
  rw [can_iff hf]
  have ll : (least f cs.length cs.sum u).length = cs.length := least_len ..
  constructor
  · intro h
    unfold fewest at h
    split at h
    · cases h
    · exact (lacks_zero ll).mp (Option.some.inj h)
  · intro h
    have hs := LeP.sum ll h
    unfold fewest
    rw [if_neg (show ¬ sumLeast f cs.length cs.sum u > cs.sum by unfold sumLeast; omega), (lacks_zero ll).mpr h]
theorem mx_sum : ∀ {cs ls : List Int}, ls.length = cs.length → (mxL cs ls).sum = cs.sum + (lacksL ls cs).sum
  | [], [], _ => by simp [mxL, lacksL]
  | [], l :: ls, h => by simp at h
  | c :: cs, [], h => by simp at h
  | c :: cs, l :: ls, h => by
    have ih := mx_sum (cs := cs) (ls := ls) (by simpa using h)
    have : mx2 c l = c + mx0 (l - c) := by
      unfold mx2 mx0
      split <;> split <;> omega
    show (mx2 c l :: mxL cs ls).sum = (c :: cs).sum + (mx0 (l - c) :: lacksL ls cs).sum
    rw [List.sum_cons, List.sum_cons, List.sum_cons]
    omega
theorem gift_zero {f : Int} (hf : Fac f) {cs : List Int} {u : List Nat} {g : Int} (hg : IsGift f cs u g) : g = 0 ↔ canB f cs u = true := by
  rw [can_iff hf]
  have ll : (least f cs.length cs.sum u).length = cs.length := least_len ..
  have ms := mx_sum ll
  have ln := lacks_nn (least f cs.length cs.sum u) cs
  have nd : need f cs u cs.sum = (mxL cs (least f cs.length cs.sum u)).sum := rfl
  constructor
  · intro e
    have := hg.ok
    rw [e, Int.add_zero] at this
    exact (lacks_zero ll).mp (by omega)
  · intro h
    have h0 := (lacks_zero ll).mpr h
    have := hg.le 0 (Int.le_refl 0) (by rw [Int.add_zero]; omega)
    have := hg.nn
    omega
/-! ### shifts -/
def upL (xs cs : List Int) : List Int := List.zipWith (fun x c => mx0 (x - c)) xs cs
def abI (z : Int) : Int := if z < 0 then -z else z
def absL (xs cs : List Int) : List Int := List.zipWith (fun x c => abI (x - c)) xs cs
theorem up_sum : ∀ {cs ls : List Int}, ls.length = cs.length → (upL cs ls).sum = cs.sum - ls.sum + (lacksL ls cs).sum
  | [], [], _ => by simp [upL, lacksL]
  | [], l :: ls, h => by simp at h
  | c :: cs, [], h => by simp at h
  | c :: cs, l :: ls, h => by
    have ih := up_sum (cs := cs) (ls := ls) (by simpa using h)
    have : mx0 (c - l) = c - l + mx0 (l - c) := by
      unfold mx0
      split <;> split <;> omega
    show (mx0 (c - l) :: upL cs ls).sum = (c :: cs).sum - (l :: ls).sum + (mx0 (l - c) :: lacksL ls cs).sum
    rw [List.sum_cons, List.sum_cons, List.sum_cons, List.sum_cons]
    omega
theorem mn_cases (a b : Int) : (mn a b = a ∧ a ≤ b) ∨ (mn a b = b ∧ b < a) := by
  unfold mn
  split <;> omega
theorem up_nn : ∀ (cs ls : List Int), 0 ≤ (upL cs ls).sum
  | [], _ => by simp [upL]
  | _ :: _, [] => by simp [upL]
  | c :: cs, l :: ls => by
    have ih := up_nn cs ls
    have := mx0_nn (c - l)
    show 0 ≤ (mx0 (c - l) :: upL cs ls).sum
    rw [List.sum_cons]
    omega
theorem shift_all : ∀ {cs ls : List Int} {left : Int}, ls.length = cs.length → 0 ≤ left → left ≤ (upL cs ls).sum →
    (shiftF left (cs.zip ls)).sum = (mxL cs ls).sum - left ∧ LeP ls (shiftF left (cs.zip ls)) ∧ (upL (shiftF left (cs.zip ls)) cs).sum = (lacksL ls cs).sum ∧ (absL (shiftF left (cs.zip ls)) cs).sum = (lacksL ls cs).sum + left
  | [], [], left, _, h0, h1 => by
    have e : left = 0 := by
      have : (upL [] []).sum = 0 := rfl
      omega
    subst e
    refine ⟨rfl, LeP.nil _, rfl, rfl⟩
  | [], l :: ls, _, h, _, _ => by simp at h
  | c :: cs, [], _, h, _, _ => by simp at h
  | c :: cs, l :: ls, left, h, h0, h1 => by
    have n1 := mx0_nn (c - l)
    have n2 := up_nn cs ls
    have e1 : (upL (c :: cs) (l :: ls)).sum = mx0 (c - l) + (upL cs ls).sum := by
      show (mx0 (c - l) :: upL cs ls).sum = _
      rw [List.sum_cons]
    rw [e1] at h1
    have hm := mn_cases left (mx0 (c - l))
    have ih := shift_all (cs := cs) (ls := ls) (left := left - mn left (mx0 (c - l))) (by simpa using h) (by omega) (by omega)
    obtain ⟨i1, i2, i3, i4⟩ := ih
    have es : shiftF left ((c :: cs).zip (l :: ls)) = (mx2 c l - mn left (mx0 (c - l))) :: shiftF (left - mn left (mx0 (c - l))) (cs.zip ls) := rfl
    rw [es]
    have hmx : (mx2 c l = l ∧ c < l) ∨ (mx2 c l = c ∧ l ≤ c) := by
      unfold mx2
      split <;> omega
    have hz : (mx0 (c - l) = c - l ∧ l < c) ∨ (mx0 (c - l) = 0 ∧ c ≤ l) := by
      unfold mx0
      split <;> omega
    have hz2 : (mx0 (l - c) = l - c ∧ c < l) ∨ (mx0 (l - c) = 0 ∧ l ≤ c) := by
      unfold mx0
      split <;> omega
    refine ⟨?_, LeP.cons.mpr ⟨by omega, i2⟩, ?_, ?_⟩
    · show _ = (mx2 c l :: mxL cs ls).sum - left
      rw [List.sum_cons, List.sum_cons, i1]
      omega
    · show (mx0 (mx2 c l - mn left (mx0 (c - l)) - c) :: upL (shiftF (left - mn left (mx0 (c - l))) (cs.zip ls)) cs).sum = (mx0 (l - c) :: lacksL ls cs).sum
      rw [List.sum_cons, List.sum_cons, i3]
      have : mx0 (mx2 c l - mn left (mx0 (c - l)) - c) = mx0 (l - c) := by
        have q : ∀ z, (mx0 z = z ∧ 0 < z) ∨ (mx0 z = 0 ∧ z ≤ 0) := by
          intro z
          unfold mx0
          split <;> omega
        have := q (mx2 c l - mn left (mx0 (c - l)) - c)
        omega
      omega
    · show (abI (mx2 c l - mn left (mx0 (c - l)) - c) :: absL (shiftF (left - mn left (mx0 (c - l))) (cs.zip ls)) cs).sum = (mx0 (l - c) :: lacksL ls cs).sum + left
      rw [List.sum_cons, List.sum_cons, i4]
      have q : ∀ z, (abI z = z ∧ 0 ≤ z) ∨ (abI z = -z ∧ z < 0) := by
        intro z
        unfold abI
        split <;> omega
      have := q (mx2 c l - mn left (mx0 (c - l)) - c)
      omega
/-! ### gifts -/
def subL (xs ys : List Int) : List Int := List.zipWith (fun x y => x - y) xs ys
def addL (xs ys : List Int) : List Int := List.zipWith (fun x y => x + y) xs ys
def giftsL (f : Int) (cs : List Int) (u : List Nat) (g : Int) : List Int :=
  (subL (mxL cs (least f cs.length (cs.sum + g) u)) cs).set 0 ((subL (mxL cs (least f cs.length (cs.sum + g) u)) cs).getD 0 0 + (g - (subL (mxL cs (least f cs.length (cs.sum + g) u)) cs).sum))
theorem sub_sum : ∀ {xs ys : List Int}, xs.length = ys.length → (subL xs ys).sum = xs.sum - ys.sum
  | [], [], _ => by simp [subL]
  | [], y :: ys, h => by simp at h
  | x :: xs, [], h => by simp at h
  | x :: xs, y :: ys, h => by
    have ih := sub_sum (xs := xs) (ys := ys) (by simpa using h)
    show ((x - y) :: subL xs ys).sum = (x :: xs).sum - (y :: ys).sum
    rw [List.sum_cons, List.sum_cons, List.sum_cons]
    omega
theorem add_sum : ∀ {xs ys : List Int}, xs.length = ys.length → (addL xs ys).sum = xs.sum + ys.sum
  | [], [], _ => by simp [addL]
  | [], y :: ys, h => by simp at h
  | x :: xs, [], h => by simp at h
  | x :: xs, y :: ys, h => by
    have ih := add_sum (xs := xs) (ys := ys) (by simpa using h)
    show ((x + y) :: addL xs ys).sum = (x :: xs).sum + (y :: ys).sum
    rw [List.sum_cons, List.sum_cons, List.sum_cons]
    omega
theorem gifts_all {f : Int} {cs : List Int} {u : List Nat} {g : Int} (h1 : 1 ≤ cs.length) (hg : IsGift f cs u g) :
    (giftsL f cs u g).length = cs.length ∧ (giftsL f cs u g).sum = g ∧ (∀ x ∈ giftsL f cs u g, 0 ≤ x) ∧ LeP (least f cs.length (cs.sum + g) u) (addL cs (giftsL f cs u g)) := by
  have ll : (least f cs.length (cs.sum + g) u).length = cs.length := least_len ..
  have lm : (mxL cs (least f cs.length (cs.sum + g) u)).length = cs.length := mxL_len ll
  have lg : (subL (mxL cs (least f cs.length (cs.sum + g) u)) cs).length = cs.length := by
    unfold subL
    rw [List.length_zipWith, lm]
    omega
  have ss := sub_sum lm
  have ok := hg.ok
  have nd : need f cs u (cs.sum + g) = (mxL cs (least f cs.length (cs.sum + g) u)).sum := rfl
  have gi : ∀ (i : Nat) (x : Int), (subL (mxL cs (least f cs.length (cs.sum + g) u)) cs)[i]? = some x → ∃ c l, cs[i]? = some c ∧ (least f cs.length (cs.sum + g) u)[i]? = some l ∧ x = mx2 c l - c := by
    intro i x h
    unfold subL at h
    rw [List.getElem?_zipWith] at h
    unfold mxL at h
    rw [List.getElem?_zipWith] at h
    cases ec : cs[i]? with
    | none => rw [ec] at h; cases h
    | some c =>
      cases el : (least f cs.length (cs.sum + g) u)[i]? with
      | none => rw [ec, el] at h; cases h
      | some l =>
        rw [ec, el] at h
        exact ⟨c, l, rfl, rfl, (Option.some.inj h).symm⟩
  have nn : ∀ x ∈ subL (mxL cs (least f cs.length (cs.sum + g) u)) cs, 0 ≤ x := by
    intro x hx
    obtain ⟨i, hi⟩ := List.mem_iff_getElem?.mp hx
    obtain ⟨c, l, _, _, e⟩ := gi i x hi
    have := mx2_ge1 c l
    omega
  have e0 : (subL (mxL cs (least f cs.length (cs.sum + g) u)) cs)[0]? = some ((subL (mxL cs (least f cs.length (cs.sum + g) u)) cs).getD 0 0) := by
    rw [List.getD_eq_getElem?_getD, List.getElem?_eq_getElem (by omega)]
    rfl
  have n0 := nn _ (List.mem_of_getElem? e0)
  have lgl : (giftsL f cs u g).length = cs.length := by
    unfold giftsL
    rw [List.length_set, lg]
  refine ⟨lgl, ?_, fun x hx => ?_, fun i l c el ec => ?_⟩
  · unfold giftsL
    rw [sum_set' _ _ _ (by omega)]
    omega
  · rcases mem_set_or hx with e | e
    · exact nn x e
    · omega
  · unfold addL at ec
    rw [List.getElem?_zipWith] at ec
    cases e1 : cs[i]? with
    | none => rw [e1] at ec; cases ec
    | some c1 =>
      cases e2 : (giftsL f cs u g)[i]? with
      | none => rw [e1, e2] at ec; cases ec
      | some x =>
        rw [e1, e2] at ec
        have ec' := Option.some.inj ec
        have ge : ∃ y, (subL (mxL cs (least f cs.length (cs.sum + g) u)) cs)[i]? = some y ∧ y ≤ x := by
          unfold giftsL at e2
          by_cases i0 : 0 = i
          · subst i0
            rw [List.getElem?_set_self (by omega)] at e2
            have := Option.some.inj e2
            exact ⟨_, e0, by omega⟩
          · rw [List.getElem?_set_ne i0] at e2
            exact ⟨x, e2, Int.le_refl x⟩
        obtain ⟨y, ey, yx⟩ := ge
        obtain ⟨c2, l2, e3, e4, e5⟩ := gi i y ey
        rw [e1] at e3
        rw [el] at e4
        have e3 := Option.some.inj e3
        have e4 := Option.some.inj e4
        have := mx2_ge2 c2 l2
        omega
/-! ### words and their beginnings -/
theorem least_snoc {f : Int} (hf : Fac f) (n : Nat) {T : Int} (hT : 0 ≤ T) (u : List Nat) (p : Nat) : LeP (least f n T u) (least f n T (u ++ [p])) := by
  intro i a b e1 e2
  unfold least at e1 e2
  rw [List.getElem?_map] at e1 e2
  have f2 := hf.1
  cases em : (nums f n u)[i]? with
  | none => rw [em] at e1; cases e1
  | some m =>
    cases em2 : (nums f n (u ++ [p]))[i]? with
    | none => rw [em2] at e2; cases e2
    | some m2 =>
      rw [em] at e1
      rw [em2] at e2
      have e1 := Option.some.inj e1
      have e2 := Option.some.inj e2
      have hm : f * m ≤ m2 := by
        rw [nums_snoc] at em2
        unfold step at em2
        have eg : ((nums f n u).map fun x => f * x)[i]? = some (f * m) := by rw [List.getElem?_map, em]; rfl
        by_cases ip : p = i
        · subst ip
          have hl : p < ((nums f n u).map fun x => f * x).length := (List.getElem?_eq_some_iff.mp eg).1
          rw [List.getElem?_set_self hl] at em2
          have := Option.some.inj em2
          rw [List.getD_eq_getElem?_getD, eg] at this
          have : f * m + (f - 1) = m2 := this
          omega
        · rw [List.getElem?_set_ne ip, eg] at em2
          have := Option.some.inj em2
          omega
      rw [← e1]
      refine (ceil_le (size_pos hf u)).mpr ?_
      have h2 : T * m2 ≤ b * size f (u ++ [p]) := (ceil_le (size_pos hf _)).mp (by rw [← e2]; exact Int.le_refl _)
      rw [size_snoc] at h2
      have h3 : T * (f * m) ≤ T * m2 := Int.mul_le_mul_of_nonneg_left hm hT
      have e3 : T * (f * m) = f * (T * m) := by rw [← Int.mul_assoc, Int.mul_comm T f, Int.mul_assoc]
      have e4 : b * (f * size f u) = f * (b * size f u) := by rw [← Int.mul_assoc, Int.mul_comm b f, Int.mul_assoc]
      exact Int.le_of_mul_le_mul_left (show f * (T * m) ≤ f * (b * size f u) by omega) (by omega)
theorem few_iff {f : Int} {cs : List Int} {u : List Nat} : (fewest f cs u).isSome = true ↔ sumLeast f cs.length cs.sum u ≤ cs.sum := by
  unfold fewest
  split
  · constructor
    · intro h; cases h
    · intro h; omega
  · exact ⟨fun _ => by omega, fun _ => rfl⟩
theorem few_prefix {f : Int} (hf : Fac f) {cs : List Int} (hs : 0 ≤ cs.sum) {u : List Nat} {p : Nat} (h : (fewest f cs (u ++ [p])).isSome = true) : (fewest f cs u).isSome = true := by
  rw [few_iff] at h ⊢
  have := LeP.sum (by rw [least_len, least_len]) (least_snoc hf cs.length hs u p)
  unfold sumLeast at h ⊢
  omega
theorem few_nil {f : Int} (hf : Fac f) {cs : List Int} (hs : 0 ≤ cs.sum) : (fewest f cs []).isSome = true := by
  rw [few_iff]
  unfold sumLeast least
  have e : size f [] = 1 := Int.pow_zero f
  have : ((nums f cs.length []).map fun m => ceil (cs.sum * m) (size f [])) = (nums f cs.length []).map fun m => 0 * m := by
    refine map_congr2 fun m hm => ?_
    have m0 : m = 0 := by
      unfold nums at hm
      exact (List.mem_replicate.mp hm).2
    subst m0
    rw [e, Int.mul_zero, Int.mul_zero]
    rfl
  rw [this, sum_map_mul, Int.zero_mul]
  exact hs
theorem wordsF_mem {f : Int} (hf : Fac f) {cs : List Int} (hs : 0 ≤ cs.sum) : ∀ {k : Nat} {u : List Nat}, u ∈ allW cs.length k → (fewest f cs u).isSome = true → u ∈ wordsF f cs k
  | 0, u, h, _ => h
  | k + 1, u, h, hu => by
    obtain ⟨v, hv, p, hp, rfl⟩ := mem_ext.mp h
    exact List.mem_filter.mpr ⟨mem_ext.mpr ⟨v, wordsF_mem hf hs hv (few_prefix hf hs hu), p, hp, rfl⟩, hu⟩
end Dp
set_option maxHeartbeats 2000000
namespace Dp
open PySem PySem.Spec PyProof.Rows L2
section
variable {P : Program} {w : World} {K : PySem.W.Frag} {mg : Str → Option Value} {base : Heap}
/-! ### shifted -/
abbrev s_shifted : Stmt := topS 43
abbrev n_shifted : List Str := ["table", "word", "some", "factor", "coins", "least", "left", "found", "one", "other", "gone"]
abbrev p_shifted : List Str := ["table", "word"]
theorem sc_shifted : FnScope n_shifted p_shifted (defScope s_shifted) := ⟨rfl, rfl, rfl, by decide +kernel, rfl, by decide +kernel, by decide +kernel⟩
def spShifted (K : PySem.W.Frag) : Sp := fun vs H Q _ => ∃ (v1 v2 : V) (f : Int) (cs : List Int) (u : List Nat) (z : Int), vs = [v1, v2] ∧ TabAt K H v1 f cs ∧ OkTab f cs ∧ IntsT K H v2 (wi u) ∧ OkWord cs.length u ∧
  sumLeast f cs.length cs.sum u ≤ cs.sum ∧ z = (lacksL (LT f cs u) cs).sum ∧ ∀ H' p, Same H H' → SqT K H' p ((shiftF z (cs.zip (LT f cs u))).map V.int) → Q (.ref p) H'
theorem drop_get {α : Type} {l : List α} {i : Nat} {x : α} (h : l[i]? = some x) : l.drop i = x :: l.drop (i + 1) := by
  obtain ⟨hi, e⟩ := List.getElem?_eq_some_iff.mp h
  rw [List.drop_eq_getElem_cons hi, e]
theorem kept_shifted (T : Env mg) (D : Own K mg "shifted" s_shifted p_shifted) (k_need_both : Kept P w K mg base 4 "need_both" p_need_both (spNeedBoth K)) (k_lacks : Kept P w K mg base 3 "lacks" p_lacks (spLacks K)) (k_least_in : Kept P w K mg base 2 "least_in" p_least_in (spLeast K)) :
    Kept P w K mg base 5 "shifted" p_shifted (spShifted K) := by
  refine D.kept fun f fd F => F.ok sc_shifted (fun vs H Q E h => ?_) (fun cdv A outer s H vs Q E hr h => ?_)
  · obtain ⟨v1, v2, f, cs, u, z, rfl, _⟩ := h
    rfl
  · obtain ⟨_, _, f, cs, u, z, rfl, hTab, ok, ⟨b, rfl, hB⟩, okw, hle, hz, q⟩ := h
    obtain ⟨a, c, rfl, hT, hC⟩ := id hTab
    have n4 := ok.n4
    have ll : (LT f cs u).length = cs.length := least_len ..
    refine ⟨_, (pss_cons (ps_expr (pe_own k_need_both (hr.mono (by decide)) (by rfl) (pa_cons (pv 0) (pa_cons (pv 1) pa_nil))))
 (pss_cons (ps_set (i := 2) sc_shifted.nd rfl (.inl rfl) (pe_own k_lacks (hr.mono (by decide)) (by rfl) (pa_cons (pv 0) (pa_cons (pv 1) pa_nil))))
 (pss_cons (ps_if (pt_cmpR op_isN (pv 2) pe_non (nomark _)) (pss_one (ps_ret pe_non)) pss_nil)
 (pss_cons (ps_asg (pv 0) (pg_tup rfl (pgs_cons (pg_name (i := 3) sc_shifted.nd rfl (.inl rfl)) (pgs_cons (pg_name (i := 4) sc_shifted.nd rfl (.inl rfl)) pgs_nil))))
 (pss_cons (ps_par3 (i := 5) (j := 6) (l := 7) (by rfl) sc_shifted.nd rfl rfl rfl (by decide) (by decide) (by decide) rfl rfl rfl (pa_cons (pe_own k_least_in (hr.mono (by decide)) (by rfl) (pa_cons (pv 3) (pa_cons (pe_callB call_len_seq (by rfl) T.z_len (by decide +kernel) (pa_cons (pv 4) pa_nil)) (pa_cons (pe_callB (cr_sumK rfl) (by rfl) T.z_sum (by decide +kernel) (pa_cons (pv 4) pa_nil)) (pa_cons (pv 1) pa_nil))))) (pa_cons (pe_callB (cr_sumK rfl) (by rfl) T.z_sum (by decide +kernel) (pa_cons (pv 2) pa_nil)) (pa_cons (pe_lst pa_nil) pa_nil))) (by rfl))
 (pss_cons (ps_for PassesOwn.never rfl (pi_zipM (by rfl) T.z_zip (pa_cons (pv 4) (pa_cons (pv 5) pa_nil))) (pg_tup rfl (pgs_cons (pg_name (i := 8) sc_shifted.nd rfl (.inl rfl)) (pgs_cons (pg_name (i := 9) sc_shifted.nd rfl (.inl rfl)) pgs_nil))) (pss_cons (ps_set (i := 10) sc_shifted.nd rfl (.inl rfl) (pe_callB (call_min2 rfl) (by rfl) T.z_min (by decide +kernel) (pa_cons (pv 6) (pa_cons (pe_callB (call_max2 rfl) (by rfl) T.z_max (by decide +kernel) (pa_cons pe_int (pa_cons (pe_op op_sub (pv 8) (pv 9)) pa_nil))) pa_nil))))
 (pss_cons (ps_aug (i := 6) sc_shifted.nd rfl (.inl rfl) (pv 10) ip_sub)
 (pss_one (ps_expr (pe_bm PySem.F.plainAttrs_list PySem.F.slot_list_append PySem.F.type_list_append mt_append (pv 7) (pa_cons (pe_op op_sub (pe_callB (call_max2 rfl) (by rfl) T.z_max (by decide +kernel) (pa_cons (pv 8) (pa_cons (pv 9) pa_nil))) (pv 10)) pa_nil)))))))
 (pss_one (ps_ret (pe_callTy call_tuple_of (by rfl) T.z_tuple (by decide +kernel) (pa_cons (pv 7) pa_nil)))))))))), ?_⟩
    refine ⟨_, rfl, _, rfl, _, _, f, cs, u, rfl, hTab, ok, ⟨b, rfl, hB⟩, okw, fun H1 s1 => ?_⟩
    refine ⟨_, rfl, _, rfl, _, _, f, cs, u, rfl, hTab.same s1, ok, ⟨b, rfl, sameT s1 hB⟩, okw, fun e => by omega, fun _ H2 p s2 hp => ?_⟩
    have s12 := s1.trans s2
    refine ⟨_, rfl, rfl, false, rfl, iteF ?_⟩
    refine ⟨_, rfl, a, _, rfl, sameT s12 hT, rfl, _, _, rfl, _, _, rfl, rfl, ?_⟩
    refine ⟨_, rfl, _, rfl, c, _, rfl, .inr (sameT s12 hC), _, rfl, false, c, cs, rfl, sameT s12 hC, _, rfl, f, cs.length, cs.sum, _, u, by rw [List.length_map]; rfl, ok.fac, n4, okw, ⟨b, rfl, sameT s12 hB⟩, fun H3 lp s3 hlp => ?_⟩
    have s13 := s12.trans s3
    refine ⟨_, rfl, true, p, _, rfl, .of (s3 _ _ hp), Nat.zero_le _, fun o no => ?_⟩
    have s4 := same_upd (o := .lst []) no
    have s14 := s13.trans s4
    refine ⟨_, _, _, rfl, ?_⟩
    have hlo : lp ≠ o := ne_of_none hlp no
    have n0 : H o = none := s13.free no
    refine ⟨_, rfl, _, rfl, false, true, c, lp, _, _, rfl, sameT s14 hC, .of (s4 _ _ hlp), for_it (walk_zipM (k1 := false) (k2 := true) (xs := cs.map V.int) (ys := (LT f cs u).map V.int) rfl)
      (fun i σ H' => Same H H' ∧ H' lp = some (.lst ((LT f cs u).map V.int)) ∧ ∃ left found y8 y9 y10, H' o = some (.lst (found.map V.int)) ∧ found.length = i ∧ found ++ shiftF left ((cs.zip (LT f cs u)).drop i) = shiftF z (cs.zip (LT f cs u)) ∧
        σ = [some (.ref a), some (.ref b), some (.ref p), some (.int f), some (.ref c), some (.ref lp), some (.int left), some (.ref o), y8, y9, y10])
      ⟨s14, s4 _ _ hlp, z, [], none, none, none, upd_same, rfl, rfl, by rw [hz]; rfl⟩ (fun i σ H' _ p => ⟨sameT p.1 hC, .of p.2.1⟩) ?_ ?_⟩
    · rintro i x σ H5 H6 hi ⟨s5, hl5, left, found, y8, y9, y10, ho, hfl, he, rfl⟩ ⟨t, x1, x2, rfl, nt, rfl, e1, e2⟩
      obtain ⟨z1, ez1, rfl⟩ := map_getI e1
      obtain ⟨z2, ez2, rfl⟩ := map_getI e2
      have s6 := same_upd (o := .tup [V.int z1, V.int z2]) nt
      refine ⟨t, _, rfl, .of upd_same, rfl, _, _, rfl, _, _, rfl, rfl, ?_⟩
      refine ⟨_, rfl, _, rfl, _, rfl, _, _, rfl, rfl, _, _, rfl, _, _, rfl, ?_⟩
      refine ⟨_, rfl, _, rfl, _, _, rfl, rfl, ?_⟩
      refine ⟨_, rfl, .inl ⟨rfl, _, .of (s6 _ _ ho)⟩, _, rfl, _, rfl, _, _, rfl, _, rfl, _, _, rfl, rfl, o, _, _, rfl, rfl, s6 _ _ ho, small1000 (by rw [List.length_map, hfl]; rw [List.length_map] at hi; omega), ?_⟩
      refine ⟨same_upd2 (s5.trans s6) n0, by rw [upd_ne hlo]; exact s6 _ _ hl5, _, found ++ [mx2 z1 z2 - mn left (mx0 (z1 - z2))], _, _, _, ?_, by rw [List.length_append, hfl]; rfl, ?_, rfl⟩
      · rw [upd_same, List.map_append]
        rfl
      · have ez : (cs.zip (LT f cs u))[i]? = some (z1, z2) := by
          rw [List.getElem?_zip_eq_some]
          exact ⟨ez1, ez2⟩
        rw [drop_get ez] at he
        rw [← he, List.append_assoc]
        rfl
    · rintro σ H5 ⟨s5, hl5, left, found, y8, y9, y10, ho, hfl, he, rfl⟩
      have e0 : (cs.zip (LT f cs u)).drop (min (cs.map V.int).length ((LT f cs u).map V.int).length) = [] := by
        rw [List.drop_eq_nil_iff, List.length_zip, List.length_map, List.length_map]
        exact Nat.le_refl _
      rw [e0] at he
      have he' : found = shiftF z (cs.zip (LT f cs u)) := by
        rw [← he]
        show found = found ++ []
        rw [List.append_nil]
      refine ⟨_, rfl, o, _, rfl, .inl ⟨.of ho, fun l hl => ?_⟩⟩
      rw [he']
      exact q _ l (s5.trans (same_upd hl)) (.of upd_same)
/-! ### is_coins, shows_shift -/
theorem filter_none (n : Nat) : (List.replicate n (none : Option V)).filterMap id = [] := by
  induction n with
  | zero => rfl
  | succ k ih => rw [List.replicate_succ, List.filterMap_cons]; exact ih
abbrev s_is_coins : Stmt := topS 44
abbrev n_is_coins : List Str := ["table", "value", "one"]
abbrev p_is_coins : List Str := ["table", "value"]
theorem sc_is_coins : FnScope n_is_coins p_is_coins (defScope s_is_coins) := ⟨rfl, rfl, rfl, by decide +kernel, rfl, by decide +kernel, by decide +kernel⟩
def spIsCoins (K : PySem.W.Frag) : Sp := fun vs H Q _ => ∃ (v1 v2 : V) (f : Int) (cs xs : List Int), vs = [v1, v2] ∧ TabAt K H v1 f cs ∧ IntsT K H v2 xs ∧ xs.length = cs.length ∧ xs.length ≤ 4 ∧ (∀ x ∈ xs, 0 ≤ x) ∧ ∀ H', Same H H' → Q (.bl true) H'
theorem kept_is_coins (T : Env mg) (D : Own K mg "is_coins" s_is_coins p_is_coins) (k_is_whole : Kept P w K mg base 1 "is_whole" p_is_whole spIsWhole) : Kept P w K mg base 2 "is_coins" p_is_coins (spIsCoins K) := by
  refine D.kept fun f fd F => F.ok sc_is_coins (fun vs H Q E h => ?_) (fun cdv A outer s H vs Q E hr h => ?_)
  · obtain ⟨v1, v2, f, cs, xs, rfl, _⟩ := h
    rfl
  · obtain ⟨_, _, f, cs, xs, rfl, ⟨a, c, rfl, hT, hC⟩, ⟨b, rfl, hB⟩, hl, h4, hx, q⟩ := h
    have h1 : atI [V.int f, V.ref c] 1 = some (.ref c) := atI_nat (j := 1) rfl
    refine ⟨_, (pss_cons (ps_if (PW.pt (pw_or (pt_not (pt_val (pe_callB call_isi (by rfl) T.z_isinstance (by decide +kernel) (pa_cons (pv 1) (pa_cons (pe_ty (T := "tuple") rfl T.z_tuple (by decide +kernel)) pa_nil))))) (pw_or1 (pt_cmpR op_ne (pe_callB call_len_seq (by rfl) T.z_len (by decide +kernel) (pa_cons (pv 1) pa_nil)) (pe_callB call_len_seq (by rfl) T.z_len (by decide +kernel) (pa_cons (pe_ix ix_tup (pv 0) pe_int (fun _ _ => rfl)) pa_nil)) (nomark _))))) (pss_one (ps_ret pe_bl)) pss_nil)
 (pss_one (ps_ret (pe_cmpR (op_eqD hr.units) (pe_lc (own := [("one", 2)]) (g := (gName 2)) rfl sc_is_coins.nd (pi_tup (pv 1)) (blkOk_by (own := [("one", 2)]) (N := n_is_coins) (sc := defScope s_is_coins) (by decide +kernel)) (fun _ _ _ _ _ => (pg_name (i := 2) sc_is_coins.nd rfl (.inl rfl))) (fun _ _ _ _ _ => pts_one (PW.pt (pw_or (pt_not (pt_val (pe_own k_is_whole (hr.mono (by decide)) (by rfl) (pa_cons (pv 2) pa_nil)))) (pw_or1 (pt_cmpR op_lt (pv 2) pe_int (nomark _)))))) (fun _ _ _ _ _ => (pv 2))) (pe_lst pa_nil) (nomark _))))), ?_⟩
    refine ⟨_, rfl, _, _, _, _, _, rfl, .ty "tuple", tyTup hB, kit_ty (r := true) (by decide +kernel), true, rfl, iteF ?_⟩
    refine ⟨_, rfl, b, _, rfl, .inr hB, _, rfl, a, _, 1, .ref c, rfl, rfl, hT, h1, c, _, rfl, .inr hC, rfl, _, rfl, ?_⟩
    rw [List.length_map, List.length_map, hl, decide_eq_true rfl]
    refine iteF ?_
    refine ⟨_, rfl, b, rfl, ⟨_, hB⟩, fun D1 nD => lc_all nD (walk_tup (xs := xs.map V.int)) (List.replicate xs.length none) (by rw [List.length_replicate, List.length_map]) (by rw [List.length_map]; omega) (fun H1 s1 => sameT s1 hB) ?_ ?_⟩
    · rintro i x H1 H2 C N hi s1 ⟨rfl, ex⟩ g1 g2
      obtain ⟨z, ez, rfl⟩ := map_getI ex
      have hz := hx z (List.mem_of_getElem? ez)
      refine ⟨rfl, _, rfl, z, rfl, true, rfl, iteF ⟨_, rfl, _, _, rfl, rfl, _, rfl, ?_⟩⟩
      rw [decide_eq_false (by omega)]
      refine iteF (g2 _ (Same.refl _) ?_)
      rw [List.getElem?_replicate, if_pos (List.getElem?_eq_some_iff.mp ez).1]
    · intro H1 s1 eD
      rw [filter_none] at eD
      refine ⟨Nat.zero_le _, fun o no => ?_⟩
      exact ⟨.list [], .list [], .lst (.of ((same_upd no) _ _ eD)) .nil, .lst (.of upd_same) .nil, rfl, rfl, q _ (s1.trans (same_upd no))⟩
abbrev s_shows_shift : Stmt := topS 45
abbrev n_shows_shift : List Str := ["table", "word", "value", "fewest", "one", "other"]
abbrev p_shows_shift : List Str := ["table", "word", "value"]
theorem sc_shows_shift : FnScope n_shows_shift p_shows_shift (defScope s_shows_shift) := ⟨rfl, rfl, rfl, by decide +kernel, rfl, by decide +kernel, by decide +kernel⟩
def spShows (K : PySem.W.Frag) : Sp := fun vs H Q _ => ∃ (v1 v2 v3 : V) (f : Int) (cs : List Int) (u : List Nat) (xs : List Int), vs = [v1, v2, v3] ∧ TabAt K H v1 f cs ∧ OkTab f cs ∧ IntsT K H v2 (wi u) ∧ OkWord cs.length u ∧
  IntsT K H v3 xs ∧ xs.length = cs.length ∧ (∀ x ∈ xs, 0 ≤ x) ∧ xs.sum = cs.sum ∧ fewest f cs u = some (upL xs cs).sum ∧ ∀ H', Same H H' → Q (.bl (canB f xs u)) H'
theorem kept_shows_shift (T : Env mg) (D : Own K mg "shows_shift" s_shows_shift p_shows_shift) (k_need_both : Kept P w K mg base 4 "need_both" p_need_both (spNeedBoth K)) (k_fewest_in : Kept P w K mg base 4 "fewest_in" p_fewest_in (spFewest K))
    (k_is_coins : Kept P w K mg base 2 "is_coins" p_is_coins (spIsCoins K)) (k_after_in : Kept P w K mg base 2 "after_in" p_after_in (spAfter K)) : Kept P w K mg base 5 "shows_shift" p_shows_shift (spShows K) := by
  refine D.kept fun f fd F => F.ok sc_shows_shift (fun vs H Q E h => ?_) (fun cdv A outer s H vs Q E hr h => ?_)
  · obtain ⟨v1, v2, v3, f, cs, u, xs, rfl, _⟩ := h
    rfl
  · obtain ⟨_, _, _, f, cs, u, xs, rfl, hTab, ok, hB, okw, ⟨d, rfl, hD⟩, hl, hx, hs, hfew, q⟩ := h
    obtain ⟨a, c, rfl, hT, hC⟩ := id hTab
    have n4 := ok.n4
    have n1 := ok.n1
    have h0 : atI [V.int f, V.ref c] 0 = some (.int f) := atI_nat (j := 0) rfl
    have h1 : atI [V.int f, V.ref c] 1 = some (.ref c) := atI_nat (j := 1) rfl
    refine ⟨_, (pss_cons (ps_expr (pe_own k_need_both (hr.mono (by decide)) (by rfl) (pa_cons (pv 0) (pa_cons (pv 1) pa_nil))))
 (pss_cons (ps_set (i := 3) sc_shows_shift.nd rfl (.inl rfl) (pe_own k_fewest_in (hr.mono (by decide)) (by rfl) (pa_cons (pv 0) (pa_cons (pv 1) pa_nil))))
 (pss_cons (ps_if (pt_cmpR op_isN (pv 3) pe_non (nomark _)) (pss_one (ps_ret (pe_cmpR op_isN (pv 2) pe_non (nomark _)))) pss_nil)
 (pss_cons (ps_if (PW.pt (pw_or (pt_not (pt_val (pe_own k_is_coins (hr.mono (by decide)) (by rfl) (pa_cons (pv 0) (pa_cons (pv 2) pa_nil))))) (pw_or1 (pt_cmpR op_ne (pe_callB (cr_sumK rfl) (by rfl) T.z_sum (by decide +kernel) (pa_cons (pv 2) pa_nil)) (pe_callB (cr_sumK rfl) (by rfl) T.z_sum (by decide +kernel) (pa_cons (pe_ix ix_tup (pv 0) pe_int (fun _ _ => rfl)) pa_nil)) (nomark _))))) (pss_one (ps_ret pe_bl)) pss_nil)
 (pss_cons (ps_if (pt_cmpR op_ne (pe_callB (cr_sumK rfl) (by rfl) T.z_sum (by decide +kernel) (pa_cons (pe_lc (own := [("one", 4), ("other", 5)]) (g := (gTup K 2 (gCons (gName 4) (gCons (gName 5) gNil)))) (tt := tYes) rfl sc_shows_shift.nd (pi_zipM (by rfl) T.z_zip (pa_cons (pv 2) (pa_cons (pe_ix ix_tup (pv 0) pe_int (fun _ _ => rfl)) pa_nil))) (blkOk_by (own := [("one", 4), ("other", 5)]) (N := n_shows_shift) (sc := defScope s_shows_shift) (by decide +kernel)) (fun _ _ _ _ _ => (pg_tup rfl (pgs_cons (pg_name (i := 4) sc_shows_shift.nd rfl (.inl rfl)) (pgs_cons (pg_name (i := 5) sc_shows_shift.nd rfl (.inl rfl)) pgs_nil)))) (fun _ _ _ _ _ => pts_nil) (fun _ _ _ _ _ => (pe_callB (call_max2 rfl) (by rfl) T.z_max (by decide +kernel) (pa_cons pe_int (pa_cons (pe_op op_sub (pv 4) (pv 5)) pa_nil))))) pa_nil)) (pv 3) (nomark _)) (pss_one (ps_ret pe_bl)) pss_nil)
 (pss_one (ps_ret (pe_cmpR op_ge (pe_callB (cr_minK' rfl (hu_of hr)) (by rfl) T.z_min (by decide +kernel) (pa_cons (pe_own k_after_in (hr.mono (by decide)) (by rfl) (pa_cons (pe_ix ix_tup (pv 0) pe_int (fun _ _ => rfl)) (pa_cons (pv 2) (pa_cons (pv 1) pa_nil)))) pa_nil)) pe_int (nomark _))))))))), ?_⟩
    refine ⟨_, rfl, _, rfl, _, _, f, cs, u, rfl, hTab, ok, hB, okw, fun H1 s1 => ?_⟩
    refine ⟨_, rfl, _, rfl, _, _, f, cs, u, rfl, hTab.same s1, ok, hB.same s1, okw, fun H2 s2 => ?_⟩
    have s12 := s1.trans s2
    rw [hfew]
    refine ⟨_, rfl, rfl, false, rfl, iteF ?_⟩
    refine ⟨_, rfl, _, rfl, _, _, f, cs, xs, rfl, hTab.same s12, ⟨d, rfl, sameT s12 hD⟩, hl, by omega, hx, fun H3 s3 => ⟨true, rfl, iteF ?_⟩⟩
    have s13 := s12.trans s3
    refine ⟨_, rfl, false, d, xs, rfl, sameT s13 hD, _, rfl, a, _, 1, .ref c, rfl, rfl, sameT s13 hT, h1, false, c, cs, rfl, sameT s13 hC, rfl, _, rfl, ?_⟩
    rw [hs, decide_eq_true rfl]
    refine iteF ?_
    refine ⟨_, rfl, _, rfl, a, _, 1, .ref c, rfl, rfl, sameT s13 hT, h1, false, false, d, c, _, _, rfl, sameT s13 hD, sameT s13 hC, fun D1 nD => lc_map nD (walk_zipM (k1 := false) (k2 := false) (xs := xs.map V.int) (ys := cs.map V.int) rfl) ((upL xs cs).map V.int) (by unfold upL; rw [List.length_map, List.length_map, List.length_map, List.length_zipWith]) (by rw [List.length_map, List.length_map]; omega) (fun H4 s4 => ⟨sameT (s13.trans s4) hD, sameT (s13.trans s4) hC⟩) ?_ ?_ gTup2_mono⟩
    · rintro j x H4 H5 C hj s4 ⟨t2, x1, x2, rfl, nt, rfl, e1, e2⟩ g1
      obtain ⟨z1, ez1, rfl⟩ := map_getI e1
      obtain ⟨z2, ez2, rfl⟩ := map_getI e2
      refine ⟨t2, _, rfl, .of upd_same, rfl, _, _, rfl, _, _, rfl, rfl, rfl, ?_⟩
      refine ⟨_, rfl, _, rfl, _, _, rfl, rfl, _, _, rfl, g1 _ _ (same_upd nt) ?_⟩
      refine getI ?_
      unfold upL
      rw [List.getElem?_zipWith, ez1, ez2]
      rfl
    · intro H4 s4 eD
      have s14 := s13.trans s4
      refine ⟨true, D1, _, rfl, .of eD, _, rfl, rfl, false, ?_, iteF ?_⟩
      · show V.bl (!decide (V.int (upL xs cs).sum = V.int (upL xs cs).sum)) = V.bl false
        rw [decide_eq_true rfl]
        rfl
      · refine ⟨_, rfl, a, _, 0, .int f, rfl, rfl, sameT s14 hT, h0, _, rfl, _, rfl, f, _, xs, _, u, rfl, ok.fac, by omega, by rw [hl]; exact okw, ⟨d, rfl, sameT s14 hD⟩, hB.same s14, fun H5 p s5 hp => ?_⟩
        refine ⟨false, p, _, rfl, hp, after_ne (by omega), fun m hm hle => ⟨_, _, rfl, rfl, ?_⟩⟩
        show Q (.bl (decide (0 ≤ m))) H5
        rw [show decide (0 ≤ m) = canB f xs u from all_min hm hle]
        exact q H5 (s14.trans s5)
end
end Dp
set_option maxHeartbeats 2000000
namespace Dp
open PySem PySem.Spec PyProof.Rows L2
section
variable {P : Program} {w : World} {K : PySem.W.Frag} {mg : Str → Option Value} {base : Heap}
theorem sum_nn {cs : List Int} (h : ∀ c ∈ cs, 0 ≤ c) : 0 ≤ cs.sum := sum_nonneg h
/-! ### gift_in, least_gift, gifts, shows_gifts -/
abbrev s_gift_in : Stmt := topS 46
abbrev n_gift_in : List Str := ["table", "word", "factor", "coins", "total", "found", "need", "some", "one", "other"]
abbrev p_gift_in : List Str := ["table", "word"]
theorem sc_gift_in : FnScope n_gift_in p_gift_in (defScope s_gift_in) := ⟨rfl, rfl, rfl, by decide +kernel, rfl, by decide +kernel, by decide +kernel⟩
def spGiftIn (K : PySem.W.Frag) : Sp := fun vs H Q _ => ∃ (v1 v2 : V) (f : Int) (cs : List Int) (u : List Nat), vs = [v1, v2] ∧ TabAt K H v1 f cs ∧ OkTab f cs ∧ IntsT K H v2 (wi u) ∧ OkWord cs.length u ∧
  ∀ H' p q g, Same H H' → IsGift f cs u g → SqT K H' p [.int g, .ref q] → H' q = some (.lst ((mxL cs (least f cs.length (cs.sum + g) u)).map V.int)) → Q (.ref p) H'
theorem kept_gift_in (T : Env mg) (D : Own K mg "gift_in" s_gift_in p_gift_in) (k_least_in : Kept P w K mg base 2 "least_in" p_least_in (spLeast K)) : Kept P w K mg base 3 "gift_in" p_gift_in (spGiftIn K) := by
  refine D.kept fun f fd F => F.ok sc_gift_in (fun vs H Q E h => ?_) (fun cdv A outer s H vs Q E hr h => ?_)
  · obtain ⟨v1, v2, f, cs, u, rfl, _⟩ := h
    rfl
  · obtain ⟨_, _, f, cs, u, rfl, hTab, ok, ⟨b, rfl, hB⟩, okw, q⟩ := h
    obtain ⟨a, c, rfl, hT, hC⟩ := id hTab
    have n4 := ok.n4
    have snn := sum_nn ok.lo
    obtain ⟨top1, top2⟩ := gift_top ok.fac okw ok.lo snn
    refine ⟨_, (pss_cons (ps_asg (pv 0) (pg_tup rfl (pgs_cons (pg_name (i := 2) sc_gift_in.nd rfl (.inl rfl)) (pgs_cons (pg_name (i := 3) sc_gift_in.nd rfl (.inl rfl)) pgs_nil))))
 (pss_cons (ps_par (i := 4) (j := 5) (by rfl) sc_gift_in.nd rfl rfl (by decide) rfl rfl (pa_cons (pe_callB (cr_sumK rfl) (by rfl) T.z_sum (by decide +kernel) (pa_cons (pv 3) pa_nil)) (pa_cons pe_int pa_nil)) (by rfl))
 (pss_one (ps_while PassesOwn.never (pt_val pe_bl) (pss_cons (ps_set (i := 6) sc_gift_in.nd rfl (.inl rfl) (pe_own k_least_in (hr.mono (by decide)) (by rfl) (pa_cons (pv 2) (pa_cons (pe_callB call_len_seq (by rfl) T.z_len (by decide +kernel) (pa_cons (pv 3) pa_nil)) (pa_cons (pe_op op_add (pv 4) (pv 5)) (pa_cons (pv 1) pa_nil))))))
 (pss_cons (ps_setLc (i := 7) (own := [("one", 8), ("other", 9)]) (g := (gTup K 2 (gCons (gName 8) (gCons (gName 9) gNil)))) (tt := tYes) rfl sc_gift_in.nd rfl rfl (sw_true rfl rfl rfl (by decide +kernel)) (pi_zipM (by rfl) T.z_zip (pa_cons (pv 3) (pa_cons (pv 6) pa_nil))) (blkOk_by (own := [("one", 8), ("other", 9)]) (N := n_gift_in) (sc := defScope s_gift_in) (by decide +kernel)) (fun _ _ _ _ _ => (pg_tup rfl (pgs_cons (pg_name (i := 8) sc_gift_in.nd rfl (.inl rfl)) (pgs_cons (pg_name (i := 9) sc_gift_in.nd rfl (.inl rfl)) pgs_nil)))) (fun _ _ _ _ _ => pts_nil) (fun _ _ _ _ _ => (pe_callB (call_max2 rfl) (by rfl) T.z_max (by decide +kernel) (pa_cons (pv 8) (pa_cons (pv 9) pa_nil)))))
 (pss_cons (ps_if (pt_cmpR op_le (pe_callB (cr_sumK rfl) (by rfl) T.z_sum (by decide +kernel) (pa_cons (pv 7) pa_nil)) (pe_op op_add (pv 4) (pv 5)) (nomark _)) (pss_one (ps_ret (pe_tup (pa_cons (pv 5) (pa_cons (pv 7) pa_nil))))) pss_nil)
 (pss_one (ps_set (i := 5) sc_gift_in.nd rfl (.inl rfl) (pe_op op_sub (pe_callB (cr_sumK rfl) (by rfl) T.z_sum (by decide +kernel) (pa_cons (pv 7) pa_nil)) (pv 4))))))))))), ?_⟩
    refine ⟨_, rfl, a, _, rfl, hT, rfl, _, _, rfl, _, _, rfl, rfl, ?_⟩
    refine ⟨_, rfl, false, c, cs, rfl, hC, _, _, rfl, ?_⟩
    refine ⟨fun m σ H' => Same H H' ∧ ∃ g y6 y7, σ = [some (.ref a), some (.ref b), some (.int f), some (.ref c), some (.int cs.sum), some (.int g), y6, y7, none, none] ∧ 0 ≤ g ∧
        (∀ y, 0 ≤ y → need f cs u (cs.sum + y) ≤ cs.sum + y → g ≤ y) ∧ m = (size f u * cs.sum - cs.sum - g).toNat,
      ⟨_, Same.refl H, 0, none, none, rfl, Int.le_refl 0, fun y h _ => h, rfl⟩, ?_⟩
    rintro m σ H1 ⟨s1, g, y6, y7, rfl, g0, gle, rfl⟩
    refine ⟨true, rfl, iteT ?_⟩
    have gtop := gle _ top2 top1
    refine ⟨fun σ' H' => Same H H' ∧ ∃ y6 y7, need f cs u (cs.sum + g) > cs.sum + g ∧ σ' = [some (.ref a), some (.ref b), some (.int f), some (.ref c), some (.int cs.sum), some (.int (need f cs u (cs.sum + g) - cs.sum)), y6, y7, none, none], ?_, ?_⟩
    · rintro σ' H' ⟨s2, y6', y7', hgt, rfl⟩
      have le' : ∀ y, 0 ≤ y → need f cs u (cs.sum + y) ≤ cs.sum + y → need f cs u (cs.sum + g) - cs.sum ≤ y := fun y h1 h2 => by
        have h3 := gle y h1 h2
        have h4 := need_mono ok.fac cs u (show cs.sum + g ≤ cs.sum + y by omega)
        omega
      have := le' _ top2 top1
      exact ⟨_, by omega, s2, _, y6', y7', rfl, by omega, le', rfl⟩
    ·
      have hC1 := sameT s1 hC
      refine ⟨_, rfl, _, rfl, c, _, rfl, .inr hC1, _, rfl, _, rfl, _, _, rfl, rfl, _, rfl, f, cs.length, cs.sum + g, _, u, by rw [List.length_map]; rfl, ok.fac, n4, okw, ⟨b, rfl, sameT s1 hB⟩, fun H2 lp s2 hlp => ?_⟩
      have ll : (least f cs.length (cs.sum + g) u).length = cs.length := least_len ..
      have hC2 := sameT s2 hC1
      refine ⟨_, rfl, _, rfl, false, true, c, lp, _, _, rfl, hC2, .of hlp, fun D1 nD => lc_map nD (walk_zipM (k1 := false) (k2 := true) (xs := cs.map V.int) (ys := (least f cs.length (cs.sum + g) u).map V.int) rfl) ((mxL cs (least f cs.length (cs.sum + g) u)).map V.int) (by rw [List.length_map, List.length_map, List.length_map, mxL_len ll, ll]; omega) (by rw [List.length_map, List.length_map, ll]; omega) (fun H3 s3 => ⟨sameT s3 hC2, .of (s3 _ _ hlp)⟩) ?_ ?_ gTup2_mono⟩
      · rintro j x H3 H4 C hj s3 ⟨t2, x1, x2, rfl, nt, rfl, e1, e2⟩ g1
        obtain ⟨z1, ez1, rfl⟩ := map_getI e1
        obtain ⟨z2, ez2, rfl⟩ := map_getI e2
        refine ⟨t2, _, rfl, .of upd_same, rfl, _, _, rfl, _, _, rfl, rfl, rfl, ?_⟩
        refine ⟨_, rfl, _, rfl, _, _, rfl, g1 _ _ (same_upd nt) ?_⟩
        refine getI ?_
        unfold mxL
        rw [List.getElem?_zipWith, ez1, ez2]
        rfl
      · intro H3 s3 eD
        have s13 := (s1.trans s2).trans s3
        refine ⟨_, rfl, true, D1, _, rfl, .of eD, _, rfl, _, rfl, _, _, rfl, rfl, _, _, rfl, rfl, _, rfl, ite2 (fun e => ?_) (fun e => ?_)⟩
        · have e1 : need f cs u (cs.sum + g) ≤ cs.sum + g := of_decide_eq_true e
          refine ⟨_, rfl, _, rfl, small_size (show 2 ≤ 1000 by decide), fun t nt => ?_⟩
          exact q _ t D1 g (s13.trans (same_upd nt)) ⟨g0, e1, gle⟩ (.of upd_same) ((same_upd nt) _ _ eD)
        · have e1 : ¬ need f cs u (cs.sum + g) ≤ cs.sum + g := fun z => e (decide_eq_true z)
          refine ⟨_, rfl, true, D1, _, rfl, .of eD, _, rfl, _, _, rfl, rfl, s13, _, _, by omega, rfl⟩
abbrev s_least_gift : Stmt := topS 47
abbrev n_least_gift : List Str := ["table", "word"]
abbrev p_least_gift : List Str := ["table", "word"]
theorem sc_least_gift : FnScope n_least_gift p_least_gift (defScope s_least_gift) := ⟨rfl, rfl, rfl, by decide +kernel, rfl, by decide +kernel, by decide +kernel⟩
def spLeastGift (K : PySem.W.Frag) : Sp := fun vs H Q _ => ∃ (v1 v2 : V) (f : Int) (cs : List Int) (u : List Nat), vs = [v1, v2] ∧ TabAt K H v1 f cs ∧ OkTab f cs ∧ IntsT K H v2 (wi u) ∧ OkWord cs.length u ∧
  ∀ H' g, Same H H' → IsGift f cs u g → Q (.int g) H'
theorem kept_least_gift (T : Env mg) (D : Own K mg "least_gift" s_least_gift p_least_gift) (k_need_short : Kept P w K mg base 5 "need_short" p_need_short (spNeedBoth K)) (k_gift_in : Kept P w K mg base 3 "gift_in" p_gift_in (spGiftIn K)) :
    Kept P w K mg base 6 "least_gift" p_least_gift (spLeastGift K) := by
  refine D.kept fun f fd F => F.ok sc_least_gift (fun vs H Q E h => ?_) (fun cdv A outer s H vs Q E hr h => ?_)
  · obtain ⟨v1, v2, f, cs, u, rfl, _⟩ := h
    rfl
  · obtain ⟨v1, v2, f, cs, u, rfl, hTab, ok, hB, okw, q⟩ := h
    refine ⟨_, (pss_cons (ps_expr (pe_own k_need_short (hr.mono (by decide)) (by rfl) (pa_cons (pv 0) (pa_cons (pv 1) pa_nil))))
 (pss_one (ps_ret (pe_ix ix_tup (pe_own k_gift_in (hr.mono (by decide)) (by rfl) (pa_cons (pv 0) (pa_cons (pv 1) pa_nil))) pe_int (fun _ _ => rfl))))), ?_⟩
    refine ⟨_, rfl, _, rfl, _, _, f, cs, u, rfl, hTab, ok, hB, okw, fun H1 s1 => ?_⟩
    refine ⟨_, rfl, _, rfl, _, _, f, cs, u, rfl, hTab.same s1, ok, hB.same s1, okw, fun H2 p r g s2 hg hp hr2 => ?_⟩
    exact ⟨p, _, 0, .int g, rfl, rfl, hp, atI_nat (j := 0) rfl, q H2 g (s1.trans s2) hg⟩
abbrev s_gifts : Stmt := topS 48
abbrev n_gifts : List Str := ["table", "word", "found", "some", "given", "one", "other"]
abbrev p_gifts : List Str := ["table", "word"]
theorem sc_gifts : FnScope n_gifts p_gifts (defScope s_gifts) := ⟨rfl, rfl, rfl, by decide +kernel, rfl, by decide +kernel, by decide +kernel⟩
def spGifts (K : PySem.W.Frag) : Sp := fun vs H Q _ => ∃ (v1 v2 : V) (f : Int) (cs : List Int) (u : List Nat), vs = [v1, v2] ∧ TabAt K H v1 f cs ∧ OkTab f cs ∧ IntsT K H v2 (wi u) ∧ OkWord cs.length u ∧
  ∀ H' p g, Same H H' → IsGift f cs u g → SqT K H' p ((giftsL f cs u g).map V.int) → Q (.ref p) H'
theorem kept_gifts (T : Env mg) (D : Own K mg "gifts" s_gifts p_gifts) (k_need_short : Kept P w K mg base 5 "need_short" p_need_short (spNeedBoth K)) (k_gift_in : Kept P w K mg base 3 "gift_in" p_gift_in (spGiftIn K)) :
    Kept P w K mg base 6 "gifts" p_gifts (spGifts K) := by
  refine D.kept fun f fd F => F.ok sc_gifts (fun vs H Q E h => ?_) (fun cdv A outer s H vs Q E hr h => ?_)
  · obtain ⟨v1, v2, f, cs, u, rfl, _⟩ := h
    rfl
  · obtain ⟨_, v2, f, cs, u, rfl, hTab, ok, hB, okw, q⟩ := h
    obtain ⟨a, c, rfl, hT, hC⟩ := id hTab
    have n4 := ok.n4
    have n1 := ok.n1
    have h1 : atI [V.int f, V.ref c] 1 = some (.ref c) := atI_nat (j := 1) rfl
    refine ⟨_, (pss_cons (ps_expr (pe_own k_need_short (hr.mono (by decide)) (by rfl) (pa_cons (pv 0) (pa_cons (pv 1) pa_nil))))
 (pss_cons (ps_asg (pe_own k_gift_in (hr.mono (by decide)) (by rfl) (pa_cons (pv 0) (pa_cons (pv 1) pa_nil))) (pg_tup rfl (pgs_cons (pg_name (i := 2) sc_gifts.nd rfl (.inl rfl)) (pgs_cons (pg_name (i := 3) sc_gifts.nd rfl (.inl rfl)) pgs_nil))))
 (pss_cons (ps_setLc (i := 4) (own := [("one", 5), ("other", 6)]) (g := (gTup K 2 (gCons (gName 5) (gCons (gName 6) gNil)))) (tt := tYes) rfl sc_gifts.nd rfl rfl (sw_true rfl rfl rfl (by decide +kernel)) (pi_zipM (by rfl) T.z_zip (pa_cons (pv 3) (pa_cons (pe_ix ix_tup (pv 0) pe_int (fun _ _ => rfl)) pa_nil))) (blkOk_by (own := [("one", 5), ("other", 6)]) (N := n_gifts) (sc := defScope s_gifts) (by decide +kernel)) (fun _ _ _ _ _ => (pg_tup rfl (pgs_cons (pg_name (i := 5) sc_gifts.nd rfl (.inl rfl)) (pgs_cons (pg_name (i := 6) sc_gifts.nd rfl (.inl rfl)) pgs_nil)))) (fun _ _ _ _ _ => pts_nil) (fun _ _ _ _ _ => (pe_op op_sub (pv 5) (pv 6))))
 (pss_cons (ps_augS (pv 4) pe_int get_list (pe_op op_sub (pv 2) (pe_callB (cr_sumK rfl) (by rfl) T.z_sum (by decide +kernel) (pa_cons (pv 4) pa_nil))) ip_add set_list)
 (pss_one (ps_ret (pe_callTy call_tuple_of (by rfl) T.z_tuple (by decide +kernel) (pa_cons (pv 4) pa_nil)))))))), ?_⟩
    refine ⟨_, rfl, _, rfl, _, _, f, cs, u, rfl, hTab, ok, hB, okw, fun H1 s1 => ?_⟩
    refine ⟨_, rfl, _, rfl, _, _, f, cs, u, rfl, hTab.same s1, ok, hB.same s1, okw, fun H2 p r g s2 hg hp hr2 => ?_⟩
    have s12 := s1.trans s2
    refine ⟨p, _, rfl, hp, rfl, _, _, rfl, _, _, rfl, rfl, ?_⟩
    have ll : (mxL cs (least f cs.length (cs.sum + g) u)).length = cs.length := mxL_len (least_len ..)
    have lg : (subL (mxL cs (least f cs.length (cs.sum + g) u)) cs).length = cs.length := by unfold subL; rw [List.length_zipWith, ll]; omega
    refine ⟨_, rfl, _, rfl, a, _, 1, .ref c, rfl, rfl, sameT s12 hT, h1, true, false, r, c, _, _, rfl, .of hr2, sameT s12 hC, fun D1 nD => lc_map nD (walk_zipM (k1 := true) (k2 := false) (xs := (mxL cs (least f cs.length (cs.sum + g) u)).map V.int) (ys := cs.map V.int) rfl) ((subL (mxL cs (least f cs.length (cs.sum + g) u)) cs).map V.int) (by rw [List.length_map, List.length_map, List.length_map, lg, ll]; omega) (by rw [List.length_map, List.length_map, ll]; omega) (fun H3 s3 => ⟨.of (s3 _ _ hr2), sameT (s12.trans s3) hC⟩) ?_ ?_ gTup2_mono⟩
    · rintro j x H3 H4 C hj s3 ⟨t2, x1, x2, rfl, nt, rfl, e1, e2⟩ g1
      obtain ⟨z1, ez1, rfl⟩ := map_getI e1
      obtain ⟨z2, ez2, rfl⟩ := map_getI e2
      refine ⟨t2, _, rfl, .of upd_same, rfl, _, _, rfl, _, _, rfl, rfl, rfl, ?_⟩
      refine ⟨_, rfl, _, rfl, _, _, rfl, rfl, g1 _ _ (same_upd nt) ?_⟩
      refine getI ?_
      unfold subL
      rw [List.getElem?_zipWith, ez1, ez2]
    · intro H3 s3 eD
      have nD0 : H D1 = none := s12.free nD
      have e0 : (subL (mxL cs (least f cs.length (cs.sum + g) u)) cs)[0]? = some ((subL (mxL cs (least f cs.length (cs.sum + g) u)) cs).getD 0 0) := by
        rw [List.getD_eq_getElem?_getD, List.getElem?_eq_getElem (by rw [lg]; omega)]
        rfl
      have hix : ixN ((subL (mxL cs (least f cs.length (cs.sum + g) u)) cs).map V.int).length ((0 : Nat) : Int) = some 0 := ixN_nat (by rw [List.length_map, lg]; exact n1)
      refine ⟨_, rfl, D1, _, 0, _, rfl, rfl, .of eD, getI e0, _, rfl, _, rfl, true, D1, _, rfl, .of eD, _, _, rfl, rfl, _, _, rfl, rfl, D1, _, 0, 0, rfl, rfl, eD, hix, ?_⟩
      refine ⟨_, rfl, D1, _, rfl, .inl ⟨.of upd_same, fun l hl => ?_⟩⟩
      refine q _ l g ((same_upd2 (s12.trans s3) nD0).trans (same_upd hl)) hg (.of ?_)
      rw [upd_same]
      unfold giftsL
      rw [List.map_set]
abbrev s_shows_gifts : Stmt := topS 49
abbrev n_shows_gifts : List Str := ["table", "word", "value", "coins", "one", "other"]
abbrev p_shows_gifts : List Str := ["table", "word", "value"]
theorem sc_shows_gifts : FnScope n_shows_gifts p_shows_gifts (defScope s_shows_gifts) := ⟨rfl, rfl, rfl, by decide +kernel, rfl, by decide +kernel, by decide +kernel⟩
def spShowsGifts (K : PySem.W.Frag) : Sp := fun vs H Q _ => ∃ (v1 v2 v3 : V) (f : Int) (cs : List Int) (u : List Nat) (xs : List Int), vs = [v1, v2, v3] ∧ TabAt K H v1 f cs ∧ OkTab f cs ∧ IntsT K H v2 (wi u) ∧ OkWord cs.length u ∧
  IntsT K H v3 xs ∧ xs.length = cs.length ∧ (∀ x ∈ xs, 0 ≤ x) ∧ IsGift f cs u xs.sum ∧ ∀ H', Same H H' → Q (.bl (canB f (addL cs xs) u)) H'
theorem kept_shows_gifts (T : Env mg) (D : Own K mg "shows_gifts" s_shows_gifts p_shows_gifts) (k_need_short : Kept P w K mg base 5 "need_short" p_need_short (spNeedBoth K)) (k_gift_in : Kept P w K mg base 3 "gift_in" p_gift_in (spGiftIn K))
    (k_is_coins : Kept P w K mg base 2 "is_coins" p_is_coins (spIsCoins K)) (k_after_in : Kept P w K mg base 2 "after_in" p_after_in (spAfter K)) : Kept P w K mg base 6 "shows_gifts" p_shows_gifts (spShowsGifts K) := by
  refine D.kept fun f fd F => F.ok sc_shows_gifts (fun vs H Q E h => ?_) (fun cdv A outer s H vs Q E hr h => ?_)
  · obtain ⟨v1, v2, v3, f, cs, u, xs, rfl, _⟩ := h
    rfl
  · obtain ⟨_, _, _, f, cs, u, xs, rfl, hTab, ok, hB, okw, ⟨d, rfl, hD⟩, hl, hx, hg, q⟩ := h
    obtain ⟨a, c, rfl, hT, hC⟩ := id hTab
    have n4 := ok.n4
    have n1 := ok.n1
    have h0 : atI [V.int f, V.ref c] 0 = some (.int f) := atI_nat (j := 0) rfl
    have h1 : atI [V.int f, V.ref c] 1 = some (.ref c) := atI_nat (j := 1) rfl
    have la : (addL cs xs).length = cs.length := by unfold addL; rw [List.length_zipWith, hl]; omega
    refine ⟨_, (pss_cons (ps_expr (pe_own k_need_short (hr.mono (by decide)) (by rfl) (pa_cons (pv 0) (pa_cons (pv 1) pa_nil))))
 (pss_cons (ps_if (PW.pt (pw_or (pt_not (pt_val (pe_own k_is_coins (hr.mono (by decide)) (by rfl) (pa_cons (pv 0) (pa_cons (pv 2) pa_nil))))) (pw_or1 (pt_cmpR op_ne (pe_callB (cr_sumK rfl) (by rfl) T.z_sum (by decide +kernel) (pa_cons (pv 2) pa_nil)) (pe_ix ix_tup (pe_own k_gift_in (hr.mono (by decide)) (by rfl) (pa_cons (pv 0) (pa_cons (pv 1) pa_nil))) pe_int (fun _ _ => rfl)) (nomark _))))) (pss_one (ps_ret pe_bl)) pss_nil)
 (pss_cons (ps_set (i := 3) sc_shows_gifts.nd rfl (.inl rfl) (pe_callTy call_tuple_of (by rfl) T.z_tuple (by decide +kernel) (pa_cons (pe_lc (own := [("one", 4), ("other", 5)]) (g := (gTup K 2 (gCons (gName 4) (gCons (gName 5) gNil)))) (tt := tYes) rfl sc_shows_gifts.nd (pi_zipM (by rfl) T.z_zip (pa_cons (pe_ix ix_tup (pv 0) pe_int (fun _ _ => rfl)) (pa_cons (pv 2) pa_nil))) (blkOk_by (own := [("one", 4), ("other", 5)]) (N := n_shows_gifts) (sc := defScope s_shows_gifts) (by decide +kernel)) (fun _ _ _ _ _ => (pg_tup rfl (pgs_cons (pg_name (i := 4) sc_shows_gifts.nd rfl (.inl rfl)) (pgs_cons (pg_name (i := 5) sc_shows_gifts.nd rfl (.inl rfl)) pgs_nil)))) (fun _ _ _ _ _ => pts_nil) (fun _ _ _ _ _ => (pe_op op_add (pv 4) (pv 5)))) pa_nil)))
 (pss_one (ps_ret (pe_cmpR op_ge (pe_callB (cr_minK' rfl (hu_of hr)) (by rfl) T.z_min (by decide +kernel) (pa_cons (pe_own k_after_in (hr.mono (by decide)) (by rfl) (pa_cons (pe_ix ix_tup (pv 0) pe_int (fun _ _ => rfl)) (pa_cons (pv 3) (pa_cons (pv 1) pa_nil)))) pa_nil)) pe_int (nomark _))))))), ?_⟩
    refine ⟨_, rfl, _, rfl, _, _, f, cs, u, rfl, hTab, ok, hB, okw, fun H1 s1 => ?_⟩
    refine ⟨_, rfl, _, rfl, _, _, f, cs, xs, rfl, hTab.same s1, ⟨d, rfl, sameT s1 hD⟩, hl, by omega, hx, fun H2 s2 => ⟨true, rfl, iteF ?_⟩⟩
    have s12 := s1.trans s2
    refine ⟨_, rfl, false, d, xs, rfl, sameT s12 hD, _, rfl, _, rfl, _, _, f, cs, u, rfl, hTab.same s12, ok, hB.same s12, okw, fun H3 p r g s3 hg3 hp hr3 => ?_⟩
    have s13 := s12.trans s3
    have eg : xs.sum = g := hg.uniq hg3
    refine ⟨p, _, 0, .int g, rfl, rfl, hp, atI_nat (j := 0) rfl, rfl, _, rfl, ?_⟩
    rw [eg, decide_eq_true rfl]
    refine iteF ?_
    refine ⟨_, rfl, a, _, 1, .ref c, rfl, rfl, sameT s13 hT, h1, _, rfl, false, false, c, d, _, _, rfl, sameT s13 hC, sameT s13 hD, fun D1 nD => lc_map nD (walk_zipM (k1 := false) (k2 := false) (xs := cs.map V.int) (ys := xs.map V.int) rfl) ((addL cs xs).map V.int) (by unfold addL; rw [List.length_map, List.length_map, List.length_map, List.length_zipWith]) (by rw [List.length_map, List.length_map]; omega) (fun H4 s4 => ⟨sameT (s13.trans s4) hC, sameT (s13.trans s4) hD⟩) ?_ ?_ gTup2_mono⟩
    · rintro j x H4 H5 C hj s4 ⟨t2, x1, x2, rfl, nt, rfl, e1, e2⟩ g1
      obtain ⟨z1, ez1, rfl⟩ := map_getI e1
      obtain ⟨z2, ez2, rfl⟩ := map_getI e2
      refine ⟨t2, _, rfl, .of upd_same, rfl, _, _, rfl, _, _, rfl, rfl, rfl, ?_⟩
      refine ⟨_, rfl, _, rfl, _, _, rfl, rfl, g1 _ _ (same_upd nt) ?_⟩
      refine getI ?_
      unfold addL
      rw [List.getElem?_zipWith, ez1, ez2]
    · intro H4 s4 eD
      refine ⟨D1, _, rfl, .inl ⟨.of eD, fun l hl2 => ?_⟩⟩
      have s14 := (s13.trans s4).trans (same_upd (o := .tup ((addL cs xs).map V.int)) hl2)
      refine ⟨_, rfl, a, _, 0, .int f, rfl, rfl, sameT s14 hT, h0, _, rfl, _, rfl, f, _, addL cs xs, _, u, rfl, ok.fac, by omega, by rw [la]; exact okw, ⟨l, rfl, .of upd_same⟩, hB.same s14, fun H5 p2 s5 hp2 => ?_⟩
      refine ⟨false, p2, _, rfl, hp2, after_ne (by omega), fun m hm hle => ⟨_, _, rfl, rfl, ?_⟩⟩
      show Q (.bl (decide (0 ≤ m))) H5
      rw [show decide (0 ≤ m) = canB f (addL cs xs) u from all_min hm hle]
      exact q H5 (s14.trans s5)
end
end Dp
set_option maxHeartbeats 2000000
namespace Dp
open PySem PySem.Spec PyProof.Rows L2
/-! ### words on the heap: their addresses and the words -/
def wvs (u : List Nat) : List V := (wi u).map V.int
theorem wvs_snoc (u : List Nat) (p : Nat) : wvs (u ++ [p]) = wvs u ++ [.int (p : Int)] := by
  unfold wvs wi
  rw [List.map_append, List.map_append]
  rfl
abbrev WP := Addr × List Nat
def WOk (K : PySem.W.Frag) (H : Hp) (ps : List WP) : Prop := ∀ p ∈ ps, SqT K H p.1 (wvs p.2)
def WList (K : PySem.W.Frag) (H : Hp) (D : Addr) (L : List (List Nat)) : Prop := ∃ ps : List WP, H D = some (.lst (ps.map fun p => V.ref p.1)) ∧ ps.map (·.2) = L ∧ WOk K H ps
theorem WOk.same {K : PySem.W.Frag} {H H' : Hp} {ps : List WP} (h : WOk K H ps) (e : Same H H') : WOk K H' ps := fun p hp => sameT e (h p hp)
theorem WList.same {K : PySem.W.Frag} {H H' : Hp} {D : Addr} {L : List (List Nat)} (h : WList K H D L) (e : Same H H') : WList K H' D L := by
  obtain ⟨ps, h1, h2, h3⟩ := h
  exact ⟨ps, e _ _ h1, h2, h3.same e⟩
/-- a tuple's place stays though a list is written -/
theorem SqT.updL {K : PySem.W.Frag} {H : Hp} {a D : Addr} {xs ys zs : List V} (h : SqT K H a xs) (hD : H D = some (.lst ys)) : SqT K (upd H D (.lst zs)) a xs := by
  rcases h with (h | ⟨o, h⟩) | h
  · exact .inl (.inl (by rw [upd_ne (ne_of h hD (by intro z; cases z))]; exact h))
  · exact .inl (.inr ⟨o, by rw [upd_ne (ne_of h hD (by intro z; cases z))]; exact h⟩)
  · exact .inr h
theorem WOk.updL {K : PySem.W.Frag} {H : Hp} {D : Addr} {ps : List WP} {ys zs : List V} (h : WOk K H ps) (hD : H D = some (.lst ys)) : WOk K (upd H D (.lst zs)) ps := fun p hp => SqT.updL (h p hp) hD
theorem WOk.append {K : PySem.W.Frag} {H : Hp} {ps qs : List WP} (h : WOk K H ps) (h' : WOk K H qs) : WOk K H (ps ++ qs) := fun p hp => (List.mem_append.mp hp).elim (h p) (h' p)
theorem wp_get {ps : List WP} {i : Nat} {x : V} (h : (ps.map fun p => V.ref p.1)[i]? = some x) : ∃ p, ps[i]? = some p ∧ x = .ref p.1 := by
  rw [List.getElem?_map] at h
  cases e : ps[i]? with
  | none => rw [e] at h; cases h
  | some p =>
    rw [e] at h
    exact ⟨p, rfl, (Option.some.inj h).symm⟩
theorem shaped_pairs (ps : List PairAt) : SeqAt.shaped (.list (ps.map fun p => PySem.W.Datum.toD (((p.num, ⟨p.word⟩) : PairD)))) = true := by
  unfold SeqAt.shaped
  rw [Bool.and_eq_true, decide_eq_true_iff]
  constructor
  · show PyData.canLayAll0 _ = true
    have hw : ∀ ns : List Int, PyData.canLayAll0 (ns.map PyData.int) = true := by
      intro ns
      induction ns with
      | nil => rfl
      | cons n ns ih =>
        show (PyData.canLay0 (.int n) && PyData.canLayAll0 (ns.map PyData.int)) = true
        rw [ih]
        rfl
    induction ps with
    | nil => rfl
    | cons p ps ih =>
      show (PyData.canLay0 (.tuple [.int p.num, .tuple (p.word.map PyData.int)]) && PyData.canLayAll0 _) = true
      rw [ih, Bool.and_true]
      show (PyData.canLay0 (.int p.num) && (PyData.canLay0 (.tuple (p.word.map PyData.int)) && true)) = true
      rw [Bool.and_true]
      show (true && PyData.canLayAll0 (p.word.map PyData.int)) = true
      rw [hw]
      rfl
  · have h := PySem.W.depthAll_map (ps.map fun p => ((p.num, ⟨p.word⟩) : PairD))
    rw [List.map_map] at h
    have e : PySem.W.Datum.depth PairD = 2 := rfl
    rw [e] at h
    show PyData.depthAll _ + 1 ≤ 64
    exact Nat.le_trans (Nat.succ_le_succ h) (by decide)
def pairD (p : PairAt) : PyData := PySem.W.Datum.toD (((p.num, ⟨p.word⟩) : PairD))
theorem dpPairs' {K : PySem.W.Frag} {H : Hp} {ps : List PairAt} (h : ∀ p ∈ ps, p.ok K H) : DpAll K H (ps.map fun p => V.ref p.at_) (ps.map pairD) := dpPairs ps h
theorem shaped_pairs' (ps : List PairAt) : SeqAt.shaped (.list (ps.map pairD)) = true := shaped_pairs ps
theorem yes_if {σ : L2.St} {H : Hp} {A N : Hp → Prop} (h : A H) : tYes σ H fun b H3 => if b = true then A H3 else N H3 := by
  show (if true = true then A H else N H)
  rw [if_pos rfl]
  exact h
section
variable {P : Program} {w : World} {K : PySem.W.Frag} {mg : Str → Option Value} {base : Heap}
/-- what a comprehension over a list of words and range(n) makes -/
theorem ext_take {n : Nat} {L : List (List Nat)} {i : Nat} {u : List Nat} (h : L[i]? = some u) : ext n (L.take (i + 1)) = ext n (L.take i) ++ (List.range n).map fun p => u ++ [p] := by
  unfold ext
  rw [List.take_add_one, h, List.flatMap_append]
  simp
/-! ### best_word -/
abbrev s_best_word : Stmt := topS 50
abbrev n_best_word : List Str := ["table", "many", "words", "turn", "some", "word", "payer"]
abbrev p_best_word : List Str := ["table", "many"]
theorem sc_best_word : FnScope n_best_word p_best_word (defScope s_best_word) := ⟨rfl, rfl, rfl, by decide +kernel, rfl, by decide +kernel, by decide +kernel⟩
def spBest (K : PySem.W.Frag) : Sp := fun vs H Q _ => ∃ (v1 : V) (k : Nat) (f : Int) (cs : List Int), vs = [v1, .int k] ∧ k ≤ 2 ∧ TabAt K H v1 f cs ∧ OkTab f cs ∧ (fewest f cs []).isSome ∧
  (∀ H', Same H H' → Q .non H') ∧ (∀ H' p m q, Same H H' → SqT K H' p [.int m, .ref q] → (wordsF f cs k ≠ []) → (∀ u ∈ wordsF f cs k, ∀ z, fewest f cs u = some z → m ≤ z) → Q (.ref p) H')
theorem wordsF_some {f : Int} {cs : List Int} (h0 : (fewest f cs []).isSome) : ∀ {k : Nat} {u : List Nat}, u ∈ wordsF f cs k → (fewest f cs u).isSome
  | 0, u, h => by rw [List.mem_singleton.mp h]; exact h0
  | k + 1, u, h => (List.mem_filter.mp h).2
theorem kept_best_word (T : Env mg) (D : Own K mg "best_word" s_best_word p_best_word) (k_need_table : Kept P w K mg base 3 "need_table" p_need_table (spNeedTable K)) (k_is_in : Kept P w K mg base 1 "is_in" p_is_in spIsIn)
    (k_lacks : Kept P w K mg base 3 "lacks" p_lacks (spLacks K)) (k_fewest_in : Kept P w K mg base 4 "fewest_in" p_fewest_in (spFewest K)) : Kept P w K mg base 5 "best_word" p_best_word (spBest K) := by
  refine D.kept fun f fd F => F.ok sc_best_word (fun vs H Q E h => ?_) (fun cdv A outer s H vs Q E hr h => ?_)
  · obtain ⟨v1, k, f, cs, rfl, _⟩ := h
    rfl
  · obtain ⟨_, k, f, cs, rfl, hk, hTab, ok, h00, q1, q2⟩ := h
    obtain ⟨a, c, rfl, hT, hC⟩ := id hTab
    have n4 := ok.n4
    have h1 : atI [V.int f, V.ref c] 1 = some (.ref c) := atI_nat (j := 1) rfl
    refine ⟨_, (pss_cons (ps_expr (pe_own k_need_table (hr.mono (by decide)) (by rfl) (pa_cons (pv 0) pa_nil)))
 (pss_cons (ps_if (pt_not (pt_val (pe_own k_is_in (hr.mono (by decide)) (by rfl) (pa_cons (pv 1) (pa_cons pe_int (pa_cons (pe_const rfl T.c_MOST_SHORT) pa_nil)))))) (pss_one ps_never) pss_nil)
 (pss_cons (ps_set (i := 2) sc_best_word.nd rfl (.inl rfl) (pe_lst (pa_cons (pe_tup pa_nil) pa_nil)))
 (pss_cons (ps_for PassesOwn.never rfl (pi_range1 (by rfl) T.z_range (pa_cons (pv 1) pa_nil)) (pg_name (i := 3) sc_best_word.nd rfl (.inl rfl)) (pss_cons (ps_setLc2 (i := 2) (own := [("word", 5), ("payer", 6)]) (g := (gName 5)) (tt := tYes) (g1 := (gName 6)) (tt1 := tYes) (vs1 := [6]) rfl sc_best_word.nd rfl rfl (sw_true rfl rfl rfl (by decide +kernel)) (pi_list (pv 2)) (blkOk_by (own := [("word", 5), ("payer", 6)]) (N := n_best_word) (sc := defScope s_best_word) (by decide +kernel)) (by decide) (fun _ _ _ _ _ => (pg_name (i := 5) sc_best_word.nd rfl (.inl rfl))) (fun _ _ _ _ _ => pts_nil) (fun _ _ _ _ _ => (pi_range1 (by rfl) T.z_range (pa_cons (pe_callB (show CallR _ (.builtin "len") (rLen K) from callLen) (by rfl) T.z_len (by decide +kernel) (pa_cons (pe_ix (show IxR _ (rIxT K) from ix_tup) (pv 0) pe_int (fun _ _ => rfl)) pa_nil)) pa_nil))) (fun _ _ _ _ _ => (pg_name (i := 6) sc_best_word.nd rfl (.inl rfl))) (fun _ _ _ _ _ => pts_nil) (fun _ _ _ _ _ => (pe_op (show OpR _ (binaryOp .Add) (rCatA K) from op_catA) (pv 5) (pe_tup (pa_cons (pv 6) pa_nil)))))
 (pss_one (ps_setLc (i := 2) (own := [("word", 5)]) (g := (gName 5)) rfl sc_best_word.nd rfl rfl (sw_true rfl rfl rfl (by decide +kernel)) (pi_list (pv 2)) (blkOk_by (own := [("word", 5)]) (N := n_best_word) (sc := defScope s_best_word) (by decide +kernel)) (fun _ _ _ _ _ => (pg_name (i := 5) sc_best_word.nd rfl (.inl rfl))) (fun _ _ _ _ _ => pts_one (pt_cmpR op_notN (pe_own k_lacks (hr.mono (by decide)) (by rfl) (pa_cons (pv 0) (pa_cons (pv 5) pa_nil))) pe_non (nomark _))) (fun _ _ _ _ _ => (pv 5))))))
 (pss_cons (ps_setLc (i := 4) (own := [("word", 5)]) (g := (gName 5)) (tt := tYes) rfl sc_best_word.nd rfl rfl (sw_true rfl rfl rfl (by decide +kernel)) (pi_list (pv 2)) (blkOk_by (own := [("word", 5)]) (N := n_best_word) (sc := defScope s_best_word) (by decide +kernel)) (fun _ _ _ _ _ => (pg_name (i := 5) sc_best_word.nd rfl (.inl rfl))) (fun _ _ _ _ _ => pts_nil) (fun _ _ _ _ _ => (pe_tup (pa_cons (pe_own k_fewest_in (hr.mono (by decide)) (by rfl) (pa_cons (pv 0) (pa_cons (pv 5) pa_nil))) (pa_cons (pv 5) pa_nil)))))
 (pss_one (ps_ret (pe_ifExp (pt_cmpR (op_neD hr.units) (pv 4) (pe_lst pa_nil) (nomark _)) (pe_callB (cr_minP rfl (room3 hr)) (by rfl) T.z_min (by decide +kernel) (pa_cons (pv 4) pa_nil)) pe_non)))))))), ?_⟩
    refine ⟨_, rfl, _, f, cs, rfl, hTab, ok, fun H1 s1 => ?_⟩
    refine ⟨_, rfl, k, 0, 6, rfl, true, by rw [decide_eq_true (show (0 : Int) ≤ k ∧ (k : Int) ≤ 6 by omega)], iteF ?_⟩
    refine ⟨Nat.zero_le _, fun e0 ne0 => ⟨small_size (show 1 ≤ 1000 by decide), fun w0 nw0 => ?_⟩⟩
    have se := same_upd (o := .tup []) ne0
    have sw := same_upd (o := .lst [V.ref e0]) nw0
    refine ⟨_, rfl, k, rfl, by omega, by omega, for_range (lo := 0) (fun i σ H' => Same H H' ∧ ∃ wl y3, WList K H' wl (wordsF f cs i) ∧ σ = [some (.ref a), some (.int k), some (.ref wl), y3, none, none, none])
      ⟨(s1.trans se).trans sw, w0, none, ⟨[(e0, [])], upd_same, rfl, fun p hp => ?_⟩, rfl⟩ ?_ ?_⟩
    · rw [List.mem_singleton.mp hp]
      exact .of (sw _ _ upd_same)
    · rintro i σ H2 hi ⟨s2, wl, y3, ⟨ps, hwl, hpL, hps⟩, rfl⟩
      have hi2 : i < 2 := by omega
      have lw := wordsF_len f cs n4 i (by omega)
      have lw4 : (wordsF f cs i).length ≤ 4 := Nat.le_trans lw (by
        match i, hi2 with
        | 0, _ => decide
        | 1, _ => decide)
      have lps : ps.length = (wordsF f cs i).length := by rw [← hpL, List.length_map]
      refine ⟨_, rfl, wl, rfl, ⟨_, .of hwl⟩, fun D1 nD => ⟨fun j m H' => m = ps.length - j ∧ j ≤ ps.length ∧ Same H2 H' ∧ ∃ qs : List WP, H' D1 = some (.lst (qs.map fun p => V.ref p.1)) ∧ qs.map (·.2) = ext cs.length ((wordsF f cs i).take j) ∧ WOk K H' qs,
        ⟨ps.length, rfl, Nat.zero_le _, same_upd nD, [], upd_same, rfl, fun p hp => by simp at hp⟩, fun j m H' hW => ?_⟩⟩
      obtain ⟨rfl, hj, s3, qs, hD, hqL, hqs⟩ := hW
      by_cases hlt : j < ps.length
      · refine .inr ⟨⟨_, _, .of (s3 _ _ hwl), by rw [List.getElem?_map, List.getElem?_eq_getElem hlt]; rfl⟩, fun H'' => Same H2 H'' ∧ ∃ qs : List WP, H'' D1 = some (.lst (qs.map fun p => V.ref p.1)) ∧ qs.map (·.2) = ext cs.length ((wordsF f cs i).take (j + 1)) ∧ WOk K H'' qs,
          fun H'' hN => ⟨ps.length - (j + 1), by omega, rfl, hlt, hN⟩, ?_⟩
        rintro x H'' ⟨rfl, fx⟩
        have ex := fx _ (.of (s3 _ _ hwl))
        obtain ⟨p, ep, rfl⟩ := wp_get ex
        have hp2 : (wordsF f cs i)[j]? = some p.2 := by rw [← hpL, List.getElem?_map, ep]; rfl
        have hpw : SqT K H2 p.1 (wvs p.2) := hps p (List.mem_of_getElem? ep)
        refine ⟨rfl, yes_if ?_⟩
        refine ⟨_, rfl, a, _, 1, .ref c, rfl, rfl, sameT (s2.trans s3) hT, h1, c, _, rfl, .inr (sameT (s2.trans s3) hC), _, rfl, by rw [List.length_map]; omega, by rw [List.length_map]; omega, ?_⟩
        have elen : ((((cs.map V.int).length : Nat) : Int).toNat) = cs.length := by rw [List.length_map, Int.toNat_natCast]
        rw [elen]
        refine ⟨fun j2 k2 H' => k2 = cs.length - j2 ∧ j2 ≤ cs.length ∧ Same H2 H' ∧ ∃ qs : List WP, H' D1 = some (.lst (qs.map fun p => V.ref p.1)) ∧ qs.map (·.2) = ext cs.length ((wordsF f cs i).take j) ++ (List.range j2).map (fun z => p.2 ++ [z]) ∧ WOk K H' qs,
          ⟨cs.length, rfl, Nat.zero_le _, s3, qs, hD, by rw [hqL]; simp, hqs⟩, fun j2 k2 H' hW => ?_⟩
        obtain ⟨rfl, hj2, s4, qs2, hD2, hqL2, hqs2⟩ := hW
        by_cases hlt2 : j2 < cs.length
        · refine .inr ⟨hlt2, fun H'' => Same H2 H'' ∧ ∃ qs : List WP, H'' D1 = some (.lst (qs.map fun p => V.ref p.1)) ∧ qs.map (·.2) = ext cs.length ((wordsF f cs i).take j) ++ (List.range (j2 + 1)).map (fun z => p.2 ++ [z]) ∧ WOk K H'' qs,
            fun H'' hN => ⟨cs.length - (j2 + 1), by omega, rfl, hlt2, hN⟩, ?_⟩
          rintro x H'' ⟨rfl, rfl⟩
          refine ⟨rfl, yes_if ?_⟩
          have lq2 : qs2.length < sizeLine := by
            have e : qs2.length = (qs2.map (·.2)).length := by rw [List.length_map]
            rw [e, hqL2, List.length_append, ext_len, List.length_take, List.length_map, List.length_range]
            have m1 : min j (wordsF f cs i).length * cs.length ≤ 4 * 4 := Nat.mul_le_mul (by omega) n4
            exact small1000 (by omega)
          refine ⟨_, rfl, _, rfl, small_size (show 1 ≤ 1000 by decide), fun t nt => ?_⟩
          have st := same_upd (o := .tup [V.int (0 + (j2 : Int))]) nt
          have hpw4 : SqT K (upd H'' t (.tup [V.int (0 + (j2 : Int))])) p.1 (wvs p.2) := sameT (s4.trans st) hpw
          have ez : V.int (0 + (j2 : Int)) = V.int (j2 : Int) := by rw [Int.zero_add]
          have hD3 := st _ _ hD2
          have done : ∀ (t' : Addr) (H5 : Hp), Same (upd H'' t (.tup [V.int (0 + (j2 : Int))])) H5 → SqT K H5 t' (wvs (p.2 ++ [j2])) → ∃ acc, H5 D1 = some (.lst acc) ∧ acc.length < sizeLine ∧
              (Same H2 (upd H5 D1 (.lst (acc ++ [.ref t']))) ∧ ∃ qs : List WP, (upd H5 D1 (.lst (acc ++ [.ref t']))) D1 = some (.lst (qs.map fun p => V.ref p.1)) ∧ qs.map (·.2) = ext cs.length ((wordsF f cs i).take j) ++ (List.range (j2 + 1)).map (fun z => p.2 ++ [z]) ∧ WOk K (upd H5 D1 (.lst (acc ++ [.ref t']))) qs) := by
            intro t' H5 s5 ht'
            have hD5 := s5 _ _ hD3
            refine ⟨_, hD5, by rw [List.length_map]; exact lq2, same_upd2 ((s4.trans st).trans s5) nD, qs2 ++ [(t', p.2 ++ [j2])], ?_, ?_, ?_⟩
            · rw [upd_same, List.map_append]
              rfl
            · rw [List.map_append, hqL2, List.range_succ, List.map_append, List.append_assoc]
              rfl
            · refine (WOk.updL (hqs2.same (st.trans s5)) hD5).append fun p5 hp5 => ?_
              rw [List.mem_singleton.mp hp5]
              exact SqT.updL ht' hD5
          refine ⟨p.1, t, _, _, rfl, rfl, hpw4, .of upd_same, small_size (by unfold wvs; rw [List.length_map, wi_len, List.length_singleton]; have := (allW_ok (wordsF_sub (List.mem_of_getElem? hp2))).2; omega), fun e => ?_, (fun _ e => absurd e (List.cons_ne_nil _ _)), fun _ _ t' nt' => ?_⟩
          · refine done t _ (Same.refl _) ?_
            rw [wvs_snoc, e, List.nil_append, ← ez]
            exact .of upd_same
          · refine done t' _ (same_upd nt') ?_
            rw [wvs_snoc, ← ez]
            exact .of upd_same
        · have e2 : j2 = cs.length := by omega
          subst e2
          refine .inl ⟨Nat.le_refl _, s4, qs2, hD2, ?_, hqs2⟩
          rw [hqL2, ext_take hp2]
      · have ej : j = ps.length := by omega
        subst ej
        refine .inl ⟨⟨_, .of (s3 _ _ hwl), by rw [List.length_map]; exact Nat.le_refl _⟩, ?_⟩
        rw [lps, List.take_length] at hqL
        have s23 := s2.trans s3
        have nD0 : H D1 = none := s2.free nD
        have lq : qs.length ≤ 16 := by
          have e : qs.length = (qs.map (·.2)).length := by rw [List.length_map]
          rw [e, hqL, ext_len]
          have m1 : (wordsF f cs i).length * cs.length ≤ 4 * 4 := Nat.mul_le_mul lw4 n4
          omega
        refine ⟨_, rfl, D1, rfl, ⟨_, .of hD⟩, fun D2 nD2 => lc_all nD2 (walk_list (xs := qs.map fun p => V.ref p.1)) (qs.map fun p => if (fewest f cs p.2).isSome then some (V.ref p.1) else none) (by rw [List.length_map, List.length_map]) (by rw [List.length_map]; omega) (fun H4 s4 => .of (s4 _ _ hD)) ?_ ?_⟩
        · rintro j3 x H4 H5 C N hj3 s4 ⟨rfl, ex⟩ g1 g2
          obtain ⟨p, ep, rfl⟩ := wp_get ex
          have hpm := List.mem_of_getElem? ep
          have hext : p.2 ∈ ext cs.length (wordsF f cs i) := by rw [← hqL]; exact List.mem_map.mpr ⟨p, hpm, rfl⟩
          obtain ⟨u0, hu0, p0, hp0, eu⟩ := mem_ext.mp hext
          obtain ⟨w1, w2⟩ := allW_ok (wordsF_sub hu0)
          have okw : OkWord cs.length p.2 := by
            rw [eu]
            refine ⟨fun z hz => ?_, by rw [List.length_append, w2, List.length_singleton]; omega⟩
            rcases List.mem_append.mp hz with z1 | z1
            · exact w1 z z1
            · rw [List.mem_singleton.mp z1]
              exact hp0
          refine ⟨rfl, _, rfl, _, rfl, _, _, f, cs, p.2, rfl, ⟨a, c, rfl, sameT (s23.trans s4) hT, sameT (s23.trans s4) hC⟩, ok, ⟨p.1, rfl, sameT s4 (hqs p hpm)⟩, okw, fun e H6 s6 => ?_, fun e H6 r s6 hr6 => ?_⟩
          · refine ⟨rfl, false, rfl, iteF (g2 _ s6 ?_)⟩
            rw [List.getElem?_map, ep]
            show some (if (fewest f cs p.2).isSome = true then some (V.ref p.1) else none) = some none
            rw [fewest_none e]
            rfl
          · refine ⟨rfl, true, rfl, iteT ⟨_, rfl, g1 _ _ s6 ?_⟩⟩
            rw [List.getElem?_map, ep]
            show some (if (fewest f cs p.2).isSome = true then some (V.ref p.1) else none) = some (some (V.ref p.1))
            rw [fewest_some e]
            rfl
        · intro H4 s4 eD2
          refine ⟨s23.trans s4, D2, some (.int (0 + i)), ⟨qs.filter fun p => (fewest f cs p.2).isSome, ?_, ?_, fun p hp => sameT s4 (hqs p (List.mem_filter.mp hp).1)⟩, rfl⟩
          · rw [eD2]
            congr 2
            clear eD2 hqL hqs hD lq hj lps hps hpL hwl
            induction qs with
            | nil => rfl
            | cons p qs ih =>
              rw [List.map_cons, List.filter_cons]
              by_cases cc : (fewest f cs p.2).isSome = true
              · rw [if_pos cc, if_pos cc, List.filterMap_cons]
                show V.ref p.1 :: _ = V.ref p.1 :: _
                rw [ih]
              · rw [if_neg cc, if_neg cc, List.filterMap_cons]
                exact ih
          · show _ = (ext cs.length (wordsF f cs i)).filter fun u => (fewest f cs u).isSome
            rw [← hqL]
            clear eD2 hqL hqs hD lq hj lps hps hpL hwl
            induction qs with
            | nil => rfl
            | cons p qs ih =>
              rw [List.filter_cons, List.map_cons, List.filter_cons]
              by_cases cc : (fewest f cs p.2).isSome = true
              · rw [if_pos cc, if_pos cc, List.map_cons, ih]
              · rw [if_neg cc, if_neg cc, ih]
    · rintro σ H2 ⟨s2, wl, y3, ⟨ps, hwl, hpL, hps⟩, rfl⟩
      rw [Int.toNat_natCast] at hpL
      have lw := wordsF_len f cs n4 k hk
      have lw2 := pow4 hk
      have lps : ps.length = (wordsF f cs k).length := by rw [← hpL, List.length_map]
      refine ⟨_, rfl, wl, rfl, ⟨_, .of hwl⟩, fun D1 nD => lc_it (walk_list (xs := ps.map fun p => V.ref p.1)) (fun i H' => Same H2 H' ∧ ∃ pa : List PairAt, H' D1 = some (.lst (pa.map fun p => V.ref p.at_)) ∧ pa.length = i ∧ (∀ p ∈ pa, p.ok K H') ∧ pa.map (fun p => some p.num) = (ps.take i).map fun p => fewest f cs p.2)
        ⟨same_upd nD, [], upd_same, rfl, fun p hp => by simp at hp, rfl⟩ (fun i H' _ p => .of (p.1 _ _ hwl)) ?_ ?_⟩
      · rintro i x H3 H4 hi ⟨s3, pa, hD, hl, hpa, hnum⟩ ⟨rfl, ex⟩
        obtain ⟨p, ep, rfl⟩ := wp_get ex
        have hpm := List.mem_of_getElem? ep
        have hin : p.2 ∈ wordsF f cs k := by rw [← hpL]; exact List.mem_map.mpr ⟨p, hpm, rfl⟩
        obtain ⟨w1, w2⟩ := allW_ok (wordsF_sub hin)
        have okw : OkWord cs.length p.2 := ⟨w1, by omega⟩
        have s23 := s2.trans s3
        refine ⟨rfl, yes_if ?_⟩
        refine ⟨_, rfl, _, rfl, _, _, f, cs, p.2, rfl, ⟨a, c, rfl, sameT s23 hT, sameT s23 hC⟩, ok, ⟨p.1, rfl, sameT s3 (hps p hpm)⟩, okw, fun H5 s5 => ?_⟩
        obtain ⟨z, hz⟩ := Option.isSome_iff_exists.mp (wordsF_some h00 hin)
        rw [hz]
        refine ⟨_, rfl, small_size (show 2 ≤ 1000 by decide), fun t nt => ?_⟩
        have st := same_upd (o := .tup [V.int z, V.ref p.1]) nt
        have hD5 := st _ _ (s5 _ _ hD)
        refine ⟨_, hD5, small1000 (by rw [List.length_map, hl]; rw [List.length_map] at hi; omega), same_upd2 ((s3.trans s5).trans st) nD, pa ++ [⟨t, p.1, z, wi p.2⟩], ?_, by rw [List.length_append, hl]; rfl, fun p5 hp5 => ?_, ?_⟩
        · rw [upd_same, List.map_append]
          rfl
        · rcases List.mem_append.mp hp5 with z5 | z5
          · have := hpa p5 z5
            exact ⟨SqT.updL (sameT (s5.trans st) this.1) hD5, SqT.updL (sameT (s5.trans st) this.2) hD5⟩
          · rw [List.mem_singleton.mp z5]
            exact ⟨SqT.updL (.of upd_same) hD5, SqT.updL (sameT ((s3.trans s5).trans st) (hps p hpm)) hD5⟩
        · rw [List.map_append, hnum, List.take_add_one, ep, List.map_append]
          show _ ++ [some z] = _ ++ [fewest f cs p.2]
          rw [hz]
      · rintro H3 ⟨s3, pa, hD, hl, hpa, hnum⟩
        have s23 := s2.trans s3
        rw [List.length_map] at hl
        rw [List.length_map, List.take_length] at hnum
        refine ⟨_, rfl, Nat.zero_le _, fun o no => ?_⟩
        have so := same_upd (o := .lst []) no
        refine ⟨.list (pa.map pairD), .list [], .lst (.of (so _ _ hD)) (dpPairs' fun p hp => ⟨sameT so (hpa p hp).1, sameT so (hpa p hp).2⟩), .lst (.of upd_same) .nil, shaped_pairs' pa, rfl, _, rfl, ?_⟩
        cases pa with
        | nil => exact iteF (q1 _ (s23.trans so))
        | cons p0 pa =>
          refine iteT ⟨_, rfl, D1, p0 :: pa, rfl, .of (so _ _ hD), fun p hp => ⟨sameT so (hpa p hp).1, sameT so (hpa p hp).2⟩, by simp, fun p hp hmin => ?_⟩
          refine q2 _ p.at_ p.num p.wat (s23.trans so) (sameT so (hpa p hp).1) ?_ ?_
          · intro e
            rw [e] at lps
            rw [lps] at hl
            simp at hl
          · intro u hu z hz
            rw [← hpL] at hu
            obtain ⟨pp, hpp, rfl⟩ := List.mem_map.mp hu
            have hmem : some z ∈ (p0 :: pa).map fun p => some p.num := by
              rw [hnum]
              exact List.mem_map.mpr ⟨pp, hpp, hz⟩
            obtain ⟨p7, hp7, e7⟩ := List.mem_map.mp hmem
            have := hmin p7 hp7
            have e8 := Option.some.inj e7
            omega
end
end Dp
set_option maxHeartbeats 2000000
namespace Dp
open PySem PySem.Spec PyProof.Rows L2
/-! ### the row of draws -/
/-- all that was tracked but r is as it was -/
def KeepBut (r : Addr) (H H' : Hp) : Prop := ∀ b o, b ≠ r → H b = some o → H' b = some o
theorem KeepBut.refl (r : Addr) (H : Hp) : KeepBut r H H := fun _ _ _ h => h
theorem KeepBut.trans {r : Addr} {H H1 H2 : Hp} (a : KeepBut r H H1) (b : KeepBut r H1 H2) : KeepBut r H H2 := fun c o n h => b c o n (a c o n h)
theorem KeepBut.of {r : Addr} {H H1 : Hp} (a : Same H H1) : KeepBut r H H1 := fun c o _ h => a c o h
theorem KeepBut.seq {r : Addr} {K : PySem.W.Frag} {H H' : Hp} {a : Addr} {xs : List V} (e : KeepBut r H H') (ne : a ≠ r) (h : SqL K H a xs) : SqL K H' a xs := by
  rcases h with (h | ⟨o, h⟩) | h
  · exact .inl (.inl (e _ _ ne h))
  · exact .inl (.inr ⟨o, e _ _ ne h⟩)
  · exact .inr h
theorem keep_upd (r : Addr) (H : Hp) (o : HO) : KeepBut r H (upd H r o) := fun b u n h => by
  rw [upd_ne n]
  exact h
/-- a list that stands ahead of r's making stays -/
theorem seq_new {r : Addr} {K : PySem.W.Frag} {H H' : Hp} {a : Addr} {xs : List V} {o : HO} (nr : H r = none) (h : SqL K H a xs) (e : KeepBut r (upd H r o) H') : SqL K H' a xs := by
  rcases h with (h | ⟨o, h⟩) | h
  · have n := ne_of_none h nr
    exact .inl (.inl (e _ _ n (by rw [upd_ne n]; exact h)))
  · have n := ne_of_none h nr
    exact .inl (.inr ⟨o, e _ _ n (by rw [upd_ne n]; exact h)⟩)
  · exact .inr h
/-- a tuple is as it was, r being a list -/
theorem KeepBut.tup {r : Addr} {K : PySem.W.Frag} {H H' : Hp} {a : Addr} {xs ys : List V} (e : KeepBut r H H') (hr : H r = some (.lst ys)) (h : SqT K H a xs) : SqT K H' a xs := by
  rcases h with (h | ⟨o, h⟩) | h
  · exact .inl (.inl (e _ _ (ne_of h hr (by intro z; cases z)) h))
  · exact .inl (.inr ⟨o, e _ _ (ne_of h hr (by intro z; cases z)) h⟩)
  · exact .inr h
def RowNum (H : Hp) (r sc : Addr) : Prop := ∃ k s d : Int, H r = some (.lst [.ref sc, .int k, .int s, .int d]) ∧ 0 ≤ k ∧ 0 ≤ s ∧ s < 2147483647 ∧ 0 ≤ d
def RowAt (K : PySem.W.Frag) (H : Hp) (r sc : Addr) (ns : List Int) : Prop := RowNum H r sc ∧ ∀ H', KeepBut r H H' → SqL K H' sc (ns.map V.int)
theorem RowNum.same {H H' : Hp} {r sc : Addr} (h : RowNum H r sc) (e : Same H H') : RowNum H' r sc := by
  obtain ⟨k, s, d, h1, h2⟩ := h
  exact ⟨k, s, d, e _ _ h1, h2⟩
theorem RowNum.some {H : Hp} {r sc : Addr} (h : RowNum H r sc) : ∃ ys, H r = some (.lst ys) := by
  obtain ⟨k, s, d, h1, _⟩ := h
  exact ⟨_, h1⟩
theorem RowNum.upd {H : Hp} {r sc D : Addr} {o : HO} (h : RowNum H r sc) (ne : D ≠ r) : RowNum (upd H D o) r sc := by
  obtain ⟨k, s, d, h1, h2⟩ := h
  exact ⟨k, s, d, by rw [upd_ne ne.symm]; exact h1, h2⟩
theorem RowAt.next {K : PySem.W.Frag} {H H' : Hp} {r sc : Addr} {ns : List Int} (h : RowAt K H r sc ns) (kb : KeepBut r H H') (hn : RowNum H' r sc) : RowAt K H' r sc ns := ⟨hn, fun H'' k => h.2 H'' (kb.trans k)⟩
theorem RowAt.same {K : PySem.W.Frag} {H H' : Hp} {r sc : Addr} {ns : List Int} (h : RowAt K H r sc ns) (e : Same H H') : RowAt K H' r sc ns := h.next (.of e) (h.1.same e)
section
variable {P : Program} {w : World} {K : PySem.W.Frag} {mg : Str → Option Value} {base : Heap}
abbrev s__law_taken : Stmt := topS 59
abbrev n__law_taken : List Str := ["_law_row", "_law_many", "_law_found", "_law_cell"]
abbrev p__law_taken : List Str := ["_law_row", "_law_many"]
theorem sc__law_taken : FnScope n__law_taken p__law_taken (defScope s__law_taken) := ⟨rfl, rfl, rfl, by decide +kernel, rfl, by decide +kernel, by decide +kernel⟩
def spTaken (K : PySem.W.Frag) : Sp := fun vs H Q _ => ∃ (r : Addr) (m : Int) (sc : Addr) (ns : List Int), vs = [.ref r, .int m] ∧ RowAt K H r sc ns ∧ 1 ≤ m ∧ m ≤ 1000 ∧ ∀ H' (z : Nat), KeepBut r H H' → RowNum H' r sc → (z : Int) < m → Q (.int z) H'
theorem kept__law_taken (T : Env mg) (D : Own K mg "_law_taken" s__law_taken p__law_taken) : Kept P w K mg base 1 "_law_taken" p__law_taken (spTaken K) := by
  refine D.kept fun f fd F => F.ok sc__law_taken (fun vs H Q E h => ?_) (fun cdv A outer s H vs Q E hr h => ?_)
  · obtain ⟨r, m, sc, ns, rfl, _⟩ := h
    rfl
  · obtain ⟨r, m, sc, ns, rfl, ⟨⟨k, sd, d, hR, k0, s0, s1, d0⟩, hS⟩, m1, m2, q⟩ := h
    have done : ∀ (H' : Hp) (z : Int), KeepBut r H H' → RowNum H' r sc → 0 ≤ z → z < m → Q (.int z) H' := fun H' z h1 h2 h3 h4 => by
      have := q H' z.toNat h1 h2 (by omega)
      rw [Int.toNat_of_nonneg h3] at this
      exact this
    have emod : ∀ z : Int, 0 ≤ z % m ∧ z % m < m := fun z => ⟨Int.emod_nonneg _ (by omega), Int.emod_lt_of_pos _ (by omega)⟩
    have emodP : ∀ z : Int, 0 ≤ z % 2147483647 ∧ z % 2147483647 < 2147483647 := fun z => ⟨Int.emod_nonneg _ (by omega), Int.emod_lt_of_pos _ (by omega)⟩
    refine ⟨_, (pss_cons (ps_if (pt_cmpR op_gt (pe_ix ix_list (pv 0) pe_int (fun _ _ => rfl)) pe_int (nomark _)) (pss_cons (ps_set (i := 2) sc__law_taken.nd rfl (.inl rfl) (pe_op op_mod (pe_callTy call_int1 (by rfl) T.z_int (by decide +kernel) (pa_cons (pe_ix ix_list (pv 0) pe_int (fun _ _ => rfl)) pa_nil)) (pv 1)))
 (pss_cons (ps_asg (pe_op op_fdiv (pe_ix ix_list (pv 0) pe_int (fun _ _ => rfl)) (pv 1)) (pg_sub (pv 0) pe_int set_list))
 (pss_one (ps_ret (pv 2))))) pss_nil)
 (pss_cons (ps_asg (pe_op op_add (pe_ix ix_list (pv 0) pe_int (fun _ _ => rfl)) pe_int) (pg_sub (pv 0) pe_int set_list))
 (pss_cons (ps_if (pt_cmpR op_gt (pe_ix ix_list (pv 0) pe_int (fun _ _ => rfl)) (pe_callB call_len_seq (by rfl) T.z_len (by decide +kernel) (pa_cons (pe_ix ix_list (pv 0) pe_int (fun _ _ => rfl)) pa_nil)) (nomark _)) (pss_cons (ps_asg (pe_op op_mod (pe_callTy call_int1 (by rfl) T.z_int (by decide +kernel) (pa_cons (pe_op op_add (pe_op op_mul (pe_ix ix_list (pv 0) pe_int (fun _ _ => rfl)) pe_int) pe_int) pa_nil)) pe_int) (pg_sub (pv 0) pe_int set_list))
 (pss_one (ps_ret (pe_op op_mod (pe_callTy call_int1 (by rfl) T.z_int (by decide +kernel) (pa_cons (pe_op op_fdiv (pe_ix ix_list (pv 0) pe_int (fun _ _ => rfl)) pe_int) pa_nil)) (pv 1))))) pss_nil)
 (pss_cons (ps_set (i := 3) sc__law_taken.nd rfl (.inl rfl) (pe_ix ix_list (pe_ix ix_list (pv 0) pe_int (fun _ _ => rfl)) (pe_op op_sub (pe_ix ix_list (pv 0) pe_int (fun _ _ => rfl)) pe_int) (fun _ _ => rfl)))
 (pss_cons (ps_asg (pe_op op_mod (pe_callTy call_int1 (by rfl) T.z_int (by decide +kernel) (pa_cons (pe_op op_add (pe_op op_add (pe_op op_mul (pe_ix ix_list (pv 0) pe_int (fun _ _ => rfl)) pe_int) (pv 3)) pe_int) pa_nil)) pe_int) (pg_sub (pv 0) pe_int set_list))
 (pss_cons (ps_if (pt_cmpR op_ge (pv 3) (pe_op op_pow pe_int pe_int) (nomark _)) (pss_one (ps_asg (pe_op op_fdiv (pv 3) (pv 1)) (pg_sub (pv 0) pe_int set_list))) pss_nil)
 (pss_one (ps_ret (pe_op op_mod (pe_callTy call_int1 (by rfl) T.z_int (by decide +kernel) (pa_cons (pv 3) pa_nil)) (pv 1)))))))))), ?_⟩
    refine ⟨_, rfl, r, _, 3, _, rfl, rfl, .of hR, atI_nat (j := 3) rfl, _, _, rfl, rfl, _, rfl, ite2 (fun c => ?_) (fun c => ?_)⟩
    ·
      refine ⟨_, rfl, r, _, 3, _, rfl, rfl, .of hR, atI_nat (j := 3) rfl, .inl ⟨_, rfl, _, rfl, _, _, rfl, rfl, by show 0 < m; omega, ?_⟩⟩
      refine ⟨_, rfl, r, _, 3, _, rfl, rfl, .of hR, atI_nat (j := 3) rfl, _, rfl, _, _, rfl, rfl, ⟨by show 0 < m; omega, by show m < 1073741824; omega⟩, ?_⟩
      refine ⟨_, rfl, r, _, 3, 3, rfl, rfl, hR, by rfl, ?_⟩
      refine ⟨_, rfl, done _ _ (keep_upd _ _ _) ⟨k, sd, _, upd_same, k0, s0, s1, Int.ediv_nonneg d0 (by omega)⟩ (emod d).1 (emod d).2⟩
    ·
      refine ⟨_, rfl, r, _, 1, _, rfl, rfl, .of hR, atI_nat (j := 1) rfl, _, _, rfl, rfl, ?_⟩
      refine ⟨_, rfl, r, _, 1, 1, rfl, rfl, hR, by rfl, ?_⟩
      have u1 : upd H r (.lst [.ref sc, .int (k + 1), .int sd, .int d]) r = some (.lst [.ref sc, .int (k + 1), .int sd, .int d]) := upd_same
      have hS1 : SqL K (upd H r (.lst [.ref sc, .int (k + 1), .int sd, .int d])) sc (ns.map V.int) := hS _ (keep_upd _ _ _)
      have kb := keep_upd r H (.lst [.ref sc, .int (k + 1), .int sd, .int d])
      refine ⟨_, rfl, r, _, 1, _, rfl, rfl, .of u1, atI_nat (j := 1) rfl, _, rfl, r, _, 0, _, rfl, rfl, .of u1, atI_nat (j := 0) rfl, sc, _, rfl, .inl hS1, _, _, rfl, rfl, _, rfl, ite2 (fun c2 => ?_) (fun c2 => ?_)⟩
      ·
        refine ⟨_, rfl, r, _, 2, _, rfl, rfl, .of u1, atI_nat (j := 2) rfl, _, _, rfl, rfl, .inr ⟨by decide, by decide⟩, _, _, rfl, rfl, .inl ⟨_, rfl, _, _, rfl, rfl, by show (0 : Int) < 2147483647; decide, ?_⟩⟩
        refine ⟨_, rfl, r, _, 2, 2, rfl, rfl, u1, by rfl, ?_⟩
        have kb2 := kb.trans (keep_upd r _ (.lst [.ref sc, .int (k + 1), .int ((sd * 48271 + 11) % 2147483647), .int d]))
        refine ⟨_, rfl, r, _, 2, _, rfl, rfl, .of upd_same, atI_nat (j := 2) rfl, _, _, rfl, rfl, ⟨by show (0 : Int) < 7; decide, by show (7 : Int) < 1073741824; decide⟩, .inl ⟨_, rfl, _, rfl, _, _, rfl, rfl, by show 0 < m; omega, ?_⟩⟩
        exact done _ _ kb2 ⟨k + 1, _, d, upd_same, by omega, (emodP _).1, (emodP _).2, d0⟩ (emod _).1 (emod _).2
      ·
        have c3 : ¬ (k + 1 > ((ns.map V.int).length : Int)) := fun z => c2 (decide_eq_true z)
        rw [List.length_map] at c3
        have hlt : k.toNat < ns.length := by omega
        have eat : atI (ns.map V.int) (k + 1 - 1) = some (.int ns[k.toNat]) := by
          have e : k + 1 - 1 = ((k.toNat : Nat) : Int) := by omega
          rw [e]
          exact atI_nat (getI (List.getElem?_eq_getElem hlt))
        refine ⟨_, rfl, r, _, 0, _, rfl, rfl, .of u1, atI_nat (j := 0) rfl, _, rfl, r, _, 1, _, rfl, rfl, .of u1, atI_nat (j := 1) rfl, _, _, rfl, rfl, sc, _, _, _, rfl, rfl, hS1, eat, ?_⟩
        refine ⟨_, rfl, r, _, 2, _, rfl, rfl, .of u1, atI_nat (j := 2) rfl, _, _, rfl, rfl, .inr ⟨by decide, by decide⟩, _, rfl, _, _, rfl, rfl, _, _, rfl, rfl, .inl ⟨_, rfl, _, _, rfl, rfl, by show (0 : Int) < 2147483647; decide, ?_⟩⟩
        refine ⟨_, rfl, r, _, 2, 2, rfl, rfl, u1, by rfl, ?_⟩
        have u2 : upd (upd H r (.lst [.ref sc, .int (k + 1), .int sd, .int d])) r (.lst [.ref sc, .int (k + 1), .int ((sd * 48271 + ns[k.toNat] + 11) % 2147483647), .int d]) r = some (.lst [.ref sc, .int (k + 1), .int ((sd * 48271 + ns[k.toNat] + 11) % 2147483647), .int d]) := upd_same
        have kb2 := kb.trans (keep_upd r _ (.lst [.ref sc, .int (k + 1), .int ((sd * 48271 + ns[k.toNat] + 11) % 2147483647), .int d]))
        refine ⟨_, rfl, 10, 18, rfl, rfl, ⟨by decide, by decide, by decide⟩, _, _, rfl, rfl, _, rfl, ite2 (fun c4 => ?_) (fun c4 => ?_)⟩
        · have c5 : ns[k.toNat] ≥ 10 ^ (18 : Int).toNat := of_decide_eq_true c4
          have c6 : 0 ≤ ns[k.toNat] := Int.le_trans (by decide) c5
          refine ⟨_, rfl, _, rfl, _, _, rfl, rfl, ⟨by show 0 < m; omega, by show m < 1073741824; omega⟩, ?_⟩
          refine ⟨_, rfl, r, _, 3, 3, rfl, rfl, u2, by rfl, ?_⟩
          refine ⟨_, rfl, .inl ⟨_, rfl, _, rfl, _, _, rfl, rfl, by show 0 < m; omega, ?_⟩⟩
          exact done _ _ (kb2.trans (keep_upd _ _ _)) ⟨k + 1, _, _, upd_same, by omega, (emodP _).1, (emodP _).2, Int.ediv_nonneg c6 (by omega)⟩ (emod _).1 (emod _).2
        · refine ⟨_, rfl, .inl ⟨_, rfl, _, rfl, _, _, rfl, rfl, by show 0 < m; omega, ?_⟩⟩
          exact done _ _ kb2 ⟨k + 1, _, d, u2, by omega, (emodP _).1, (emodP _).2, d0⟩ (emod _).1 (emod _).2
abbrev s__law_pick : Stmt := topS 60
abbrev n__law_pick : List Str := ["_law_row", "_law_things"]
abbrev p__law_pick : List Str := ["_law_row", "_law_things"]
theorem sc__law_pick : FnScope n__law_pick p__law_pick (defScope s__law_pick) := ⟨rfl, rfl, rfl, by decide +kernel, rfl, by decide +kernel, by decide +kernel⟩
def spPick (K : PySem.W.Frag) : Sp := fun vs H Q _ => ∃ (r t : Addr) (ts : List Int) (sc : Addr) (ns : List Int), vs = [.ref r, .ref t] ∧ RowAt K H r sc ns ∧ t ≠ r ∧ H t = some (.lst (ts.map V.int)) ∧ ts ≠ [] ∧ ts.length ≤ 1000 ∧ ∀ H' z, KeepBut r H H' → RowNum H' r sc → z ∈ ts → Q (.int z) H'
theorem kept__law_pick (T : Env mg) (D : Own K mg "_law_pick" s__law_pick p__law_pick) (k__law_taken : Kept P w K mg base 1 "_law_taken" p__law_taken (spTaken K)) : Kept P w K mg base 2 "_law_pick" p__law_pick (spPick K) := by
  refine D.kept fun f fd F => F.ok sc__law_pick (fun vs H Q E h => ?_) (fun cdv A outer s H vs Q E hr h => ?_)
  · obtain ⟨r, t, ts, sc, ns, rfl, _⟩ := h
    rfl
  · obtain ⟨r, t, ts, sc, ns, rfl, hR, ne, hT, hne, hl, q⟩ := h
    refine ⟨_, (pss_one (ps_ret (pe_ix ix_list (pv 1) (pe_own k__law_taken (hr.mono (by decide)) (by rfl) (pa_cons (pv 0) (pa_cons (pe_callB call_len_seq (by rfl) T.z_len (by decide +kernel) (pa_cons (pv 1) pa_nil)) pa_nil))) (fun _ _ => rfl)))), ?_⟩
    have lp : 0 < ts.length := List.length_pos_iff.mpr hne
    refine ⟨_, rfl, _, rfl, _, rfl, t, _, rfl, .inl (.of hT), r, _, sc, ns, rfl, hR, by rw [List.length_map]; omega, by rw [List.length_map]; omega, fun H1 z kb hR1 hz => ?_⟩
    rw [List.length_map] at hz
    have hz' : z < ts.length := by omega
    exact ⟨t, _, _, _, rfl, rfl, .of (kb _ _ ne hT), atI_nat (getI (List.getElem?_eq_getElem hz')), q H1 _ kb hR1 (List.getElem_mem hz')⟩
/-! ### _law_word -/
abbrev s__law_word : Stmt := topS 62
abbrev n__law_word : List Str := ["_law_row", "_law_players", "_law_most", "_law_turn"]
abbrev p__law_word : List Str := ["_law_row", "_law_players", "_law_most"]
theorem sc__law_word : FnScope n__law_word p__law_word (defScope s__law_word) := ⟨rfl, rfl, rfl, by decide +kernel, rfl, by decide +kernel, by decide +kernel⟩
def spLawWord (K : PySem.W.Frag) : Sp := fun vs H Q _ => ∃ (r : Addr) (n m : Nat) (sc : Addr) (ns : List Int), vs = [.ref r, .int n, .int m] ∧ RowAt K H r sc ns ∧ (1 ≤ n ∧ n ≤ 4) ∧ m ≤ 4 ∧ ∀ H' p u, KeepBut r H H' → RowNum H' r sc → OkWord n u → SqT K H' p ((wi u).map V.int) → Q (.ref p) H'
theorem kept__law_word (T : Env mg) (D : Own K mg "_law_word" s__law_word p__law_word) (k__law_taken : Kept P w K mg base 1 "_law_taken" p__law_taken (spTaken K)) : Kept P w K mg base 2 "_law_word" p__law_word (spLawWord K) := by
  refine D.kept fun f fd F => F.ok sc__law_word (fun vs H Q E h => ?_) (fun cdv A outer s H vs Q E hr h => ?_)
  · obtain ⟨r, n, m, sc, ns, rfl, _⟩ := h
    rfl
  · obtain ⟨r, n, m, sc, ns, rfl, hR, hn, hm, q⟩ := h
    refine ⟨_, (pss_one (ps_ret (pe_callTy call_tuple_of (by rfl) T.z_tuple (by decide +kernel) (pa_cons (pe_lc (own := [("_law_turn", 3)]) (g := (gName 3)) (tt := tYes) rfl sc__law_word.nd (pi_range1 (by rfl) T.z_range (pa_cons (pe_own k__law_taken (hr.mono (by decide)) (by rfl) (pa_cons (pv 0) (pa_cons (pe_op op_add (pv 2) pe_int) pa_nil))) pa_nil)) (blkOk_by (own := [("_law_turn", 3)]) (N := n__law_word) (sc := defScope s__law_word) (by decide +kernel)) (fun _ _ _ _ _ => (pg_name (i := 3) sc__law_word.nd rfl (.inl rfl))) (fun _ _ _ _ _ => pts_nil) (fun _ _ _ _ _ => (pe_own k__law_taken (hr.mono (by decide)) (by rfl) (pa_cons (pv 0) (pa_cons (pv 1) pa_nil))))) pa_nil)))), ?_⟩
    refine ⟨_, rfl, _, rfl, _, _, rfl, rfl, r, _, sc, ns, rfl, hR, by omega, by omega, fun H1 z kb hR1 hz => ?_⟩
    have hR1' := hR.next kb hR1
    obtain ⟨ys, hRr⟩ := hR1.some
    refine ⟨_, rfl, by omega, by omega, fun D1 nD => ?_⟩
    have nr : D1 ≠ r := fun e => by rw [e, hRr] at nD; cases nD
    refine lc_range (lo := 0) (fun i H' => KeepBut r H1 H' ∧ RowNum H' r sc ∧ ∃ u : List Nat, H' D1 = some (.lst ((wi u).map V.int)) ∧ u.length = i ∧ ∀ p ∈ u, p < n)
      ⟨.of (same_upd nD), hR1.same (same_upd nD), [], upd_same, rfl, fun p hp => by simp at hp⟩ ?_ ?_
    · rintro i H2 hi ⟨kb2, hR2, u, hD, hl, hu⟩
      rw [Int.toNat_natCast] at hi
      refine ⟨rfl, yes_if ?_⟩
      refine ⟨_, rfl, _, rfl, r, _, sc, ns, rfl, hR1'.next kb2 hR2, by omega, by omega, fun H3 y kb3 hR3 hy => ?_⟩
      have hD3 := kb3 _ _ nr hD
      refine ⟨_, hD3, small1000 (by rw [List.length_map, wi_len, hl]; omega), ?_, hR3.upd nr, u ++ [y], ?_, by rw [List.length_append, hl]; rfl, fun p hp => ?_⟩
      · intro b o nb e
        have nbD : b ≠ D1 := ne_of_none e nD
        rw [upd_ne nbD]
        exact kb3 _ _ nb (kb2 _ _ nb e)
      · rw [upd_same]
        show some (HO.lst (_ ++ [V.int (y : Int)])) = _
        unfold wi
        rw [List.map_append, List.map_append]
        rfl
      · rcases List.mem_append.mp hp with z1 | z1
        · exact hu p z1
        · rw [List.mem_singleton.mp z1]
          omega
    · rintro H2 ⟨kb2, hR2, u, hD, hl, hu⟩
      rw [Int.toNat_natCast] at hl
      refine ⟨D1, _, rfl, .inl ⟨.of hD, fun l hl2 => ?_⟩⟩
      exact q _ l u ((kb.trans kb2).trans (.of (same_upd hl2))) (hR2.same (same_upd hl2)) ⟨hu, by omega⟩ (.of upd_same)
end
end Dp
set_option maxHeartbeats 2000000
namespace Dp
open PySem PySem.Spec PyProof.Rows L2
section
variable {P : Program} {w : World} {K : PySem.W.Frag} {mg : Str → Option Value} {base : Heap}
/-! ### _law_all_words -/
abbrev s__law_all_words : Stmt := topS 63
abbrev n__law_all_words : List Str := ["_law_players", "_law_many", "_law_words", "_law_turn", "_law_more", "_law_word_here", "_law_payer"]
abbrev p__law_all_words : List Str := ["_law_players", "_law_many"]
theorem sc__law_all_words : FnScope n__law_all_words p__law_all_words (defScope s__law_all_words) := ⟨rfl, rfl, rfl, by decide +kernel, rfl, by decide +kernel, by decide +kernel⟩
def spAllWords (K : PySem.W.Frag) : Sp := fun vs H Q _ => ∃ n k : Nat, vs = [.int n, .int k] ∧ n ≤ 4 ∧ k ≤ 2 ∧ ∀ H' p, Same H H' → WList K H' p (allW n k) → Q (.ref p) H'
theorem kept__law_all_words (T : Env mg) (D : Own K mg "_law_all_words" s__law_all_words p__law_all_words) : Kept P w K mg base 1 "_law_all_words" p__law_all_words (spAllWords K) := by
  refine D.kept fun f fd F => F.ok sc__law_all_words (fun vs H Q E h => ?_) (fun cdv A outer s H vs Q E hr h => ?_)
  · obtain ⟨n, k, rfl, _⟩ := h
    rfl
  · obtain ⟨n, k, rfl, hn, hk, q⟩ := h
    refine ⟨_, (pss_cons (ps_set (i := 2) sc__law_all_words.nd rfl (.inl rfl) (pe_lst (pa_cons (pe_tup pa_nil) pa_nil)))
 (pss_cons (ps_for PassesOwn.never rfl (pi_range1 (by rfl) T.z_range (pa_cons (pv 1) pa_nil)) (pg_name (i := 3) sc__law_all_words.nd rfl (.inl rfl)) (pss_cons (ps_set (i := 4) sc__law_all_words.nd rfl (.inl rfl) (pe_lst pa_nil))
 (pss_cons (ps_for PassesOwn.never rfl (pi_list (pv 2)) (pg_name (i := 5) sc__law_all_words.nd rfl (.inr rfl)) (pss_one (ps_set (i := 4) sc__law_all_words.nd rfl (.inl rfl) (pe_op op_cat (pv 4) (pe_lc (own := [("_law_payer", 6)]) (g := (gName 6)) (tt := tYes) rfl sc__law_all_words.nd (pi_range1 (by rfl) T.z_range (pa_cons (pv 0) pa_nil)) (blkOk_by (own := [("_law_payer", 6)]) (N := n__law_all_words) (sc := defScope s__law_all_words) (by decide +kernel)) (fun _ _ _ _ _ => (pg_name (i := 6) sc__law_all_words.nd rfl (.inl rfl))) (fun _ _ _ _ _ => pts_nil) (fun _ _ _ _ _ => (pe_op (show OpR _ (binaryOp .Add) (rCatA K) from op_catA) (pv 5) (pe_tup (pa_cons (pv 6) pa_nil)))))))))
 (pss_one (ps_set (i := 2) sc__law_all_words.nd rfl (.inl rfl) (pv 4))))))
 (pss_one (ps_ret (pv 2))))), ?_⟩
    refine ⟨Nat.zero_le _, fun e0 ne0 => ⟨small_size (show 1 ≤ 1000 by decide), fun w0 nw0 => ?_⟩⟩
    have se := same_upd (o := .tup []) ne0
    have sw := same_upd (o := .lst [V.ref e0]) nw0
    refine ⟨_, rfl, k, rfl, by omega, by omega, for_range (lo := 0) (fun i σ H' => Same H H' ∧ ∃ wl y3 y4 y5, WList K H' wl (allW n i) ∧ σ = [some (.int n), some (.int k), some (.ref wl), y3, y4, y5, none])
      ⟨se.trans sw, w0, none, none, none, ⟨[(e0, [])], upd_same, rfl, fun p hp => ?_⟩, rfl⟩ ?_ ?_⟩
    · rw [List.mem_singleton.mp hp]
      exact .of (sw _ _ upd_same)
    · rintro i σ H2 hi ⟨s2, wl, y3, y4, y5, ⟨ps, hwl, hpL, hps⟩, rfl⟩
      have hi2 : i < 2 := by omega
      have lw := allW_len n hn i (by omega)
      have lw4 : (allW n i).length ≤ 4 := Nat.le_trans lw (by
        match i, hi2 with
        | 0, _ => decide
        | 1, _ => decide)
      have lps : ps.length = (allW n i).length := by rw [← hpL, List.length_map]
      refine ⟨Nat.zero_le _, fun m0 nm0 => ?_⟩
      have sm := same_upd (o := .lst []) nm0
      refine ⟨_, rfl, wl, rfl, ⟨_, .of (sm _ _ hwl)⟩, for_list (K := K) (a := wl) (xs := ps.map fun p => V.ref p.1) (fun j σ H' => Same H2 H' ∧ ∃ ml y5, WList K H' ml (ext n ((allW n i).take j)) ∧ σ = [some (.int n), some (.int k), some (.ref wl), some (.int (0 + (i : Int))), some (.ref ml), y5, none])
        ⟨sm, m0, y5, ⟨[], upd_same, rfl, fun p hp => by simp at hp⟩, rfl⟩ (fun j σ H' _ p => .of (p.1 _ _ hwl)) ?_ ?_⟩
      · rintro j x σ H3 ex ⟨s3, ml, y5', ⟨qs, hml, hqL, hqs⟩, rfl⟩
        obtain ⟨p, ep, rfl⟩ := wp_get ex
        have hp2 : (allW n i)[j]? = some p.2 := by rw [← hpL, List.getElem?_map, ep]; rfl
        have hpw : SqT K H2 p.1 (wvs p.2) := hps p (List.mem_of_getElem? ep)
        have pl := (allW_ok (List.mem_of_getElem? hp2)).2
        refine ⟨_, rfl, _, rfl, n, rfl, by omega, by omega, fun D1 nD => lc_range (lo := 0) (fun j2 H' => Same H3 H' ∧ ∃ rs : List WP, H' D1 = some (.lst (rs.map fun p => V.ref p.1)) ∧ rs.map (·.2) = (List.range j2).map (fun z => p.2 ++ [z]) ∧ WOk K H' rs)
          ⟨same_upd nD, [], upd_same, rfl, fun p hp => by simp at hp⟩ ?_ ?_⟩
        · rintro j2 H4 hj2 ⟨s4, rs, hD, hrL, hrs⟩
          rw [Int.toNat_natCast] at hj2
          have lrs : rs.length = j2 := by
            have e : rs.length = (rs.map (·.2)).length := by rw [List.length_map]
            rw [e, hrL, List.length_map, List.length_range]
          refine ⟨rfl, yes_if ?_⟩
          refine ⟨_, rfl, _, rfl, small_size (show 1 ≤ 1000 by decide), fun t nt => ?_⟩
          have st := same_upd (o := .tup [V.int (0 + (j2 : Int))]) nt
          have hpw4 : SqT K (upd H4 t (.tup [V.int (0 + (j2 : Int))])) p.1 (wvs p.2) := sameT ((s3.trans s4).trans st) hpw
          have ez : V.int (0 + (j2 : Int)) = V.int (j2 : Int) := by rw [Int.zero_add]
          have hD3 := st _ _ hD
          have done : ∀ (t' : Addr) (H5 : Hp), Same (upd H4 t (.tup [V.int (0 + (j2 : Int))])) H5 → SqT K H5 t' (wvs (p.2 ++ [j2])) → ∃ acc, H5 D1 = some (.lst acc) ∧ acc.length < sizeLine ∧
              (Same H3 (upd H5 D1 (.lst (acc ++ [.ref t']))) ∧ ∃ rs : List WP, (upd H5 D1 (.lst (acc ++ [.ref t']))) D1 = some (.lst (rs.map fun p => V.ref p.1)) ∧ rs.map (·.2) = (List.range (j2 + 1)).map (fun z => p.2 ++ [z]) ∧ WOk K (upd H5 D1 (.lst (acc ++ [.ref t']))) rs) := by
            intro t' H5 s5 ht'
            have hD5 := s5 _ _ hD3
            refine ⟨_, hD5, by rw [List.length_map, lrs]; exact small1000 (by omega), same_upd2 ((s4.trans st).trans s5) nD, rs ++ [(t', p.2 ++ [j2])], ?_, ?_, ?_⟩
            · rw [upd_same, List.map_append]
              rfl
            · rw [List.map_append, hrL, List.range_succ, List.map_append]
              rfl
            · refine (WOk.updL (hrs.same (st.trans s5)) hD5).append fun p5 hp5 => ?_
              rw [List.mem_singleton.mp hp5]
              exact SqT.updL ht' hD5
          refine ⟨p.1, t, _, _, rfl, rfl, hpw4, .of upd_same, small_size (by unfold wvs; rw [List.length_map, wi_len, List.length_singleton]; omega), fun e => ?_, (fun _ e => absurd e (List.cons_ne_nil _ _)), fun _ _ t' nt' => ?_⟩
          · refine done t _ (Same.refl _) ?_
            rw [wvs_snoc, e, List.nil_append, ← ez]
            exact .of upd_same
          · refine done t' _ (same_upd nt') ?_
            rw [wvs_snoc, ← ez]
            exact .of upd_same
        · rintro H4 ⟨s4, rs, hD, hrL, hrs⟩
          rw [Int.toNat_natCast] at hrL
          have lqs : qs.length ≤ 16 := by
            have e : qs.length = (qs.map (·.2)).length := by rw [List.length_map]
            rw [e, hqL, ext_len, List.length_take]
            have m1 : min j (allW n i).length * n ≤ 4 * 4 := Nat.mul_le_mul (by omega) hn
            omega
          have lrs : rs.length = n := by
            have e : rs.length = (rs.map (·.2)).length := by rw [List.length_map]
            rw [e, hrL, List.length_map, List.length_range]
          refine ⟨ml, D1, _, _, rfl, rfl, s4 _ _ hml, hD, by rw [List.length_map, List.length_map]; exact small_size (by omega), fun o no => ?_⟩
          have so := same_upd (o := .lst ((qs.map fun p => V.ref p.1) ++ (rs.map fun p => V.ref p.1))) no
          refine ⟨(s3.trans s4).trans so, o, some (.ref p.1), ⟨qs ++ rs, by rw [upd_same, List.map_append], ?_, ((hqs.same s4).same so).append (hrs.same so)⟩, rfl⟩
          rw [List.map_append, hqL, hrL, ext_take hp2]
      · rintro σ H3 ⟨s3, ml, y5', ⟨qs, hml, hqL, hqs⟩, rfl⟩
        rw [List.length_map, lps, List.take_length] at hqL
        exact ⟨_, rfl, s2.trans s3, ml, _, _, _, ⟨qs, hml, hqL, hqs⟩, rfl⟩
    · rintro σ H2 ⟨s2, wl, y3, y4, y5, hW, rfl⟩
      rw [Int.toNat_natCast] at hW
      exact ⟨_, rfl, q H2 wl s2 hW⟩
/-! ### _law_table -/
theorem shaped_ints (ns : List Int) : SeqAt.shaped (.list (ns.map PyData.int)) = true := by
  unfold SeqAt.shaped
  rw [Bool.and_eq_true, decide_eq_true_iff]
  constructor
  · show PyData.canLayAll0 _ = true
    induction ns with
    | nil => rfl
    | cons n ns ih =>
      show (PyData.canLay0 (.int n) && PyData.canLayAll0 (ns.map PyData.int)) = true
      rw [ih]
      rfl
  · have h := PySem.W.depthAll_map ns
    have e : PySem.W.Datum.depth Int = 0 := rfl
    rw [e] at h
    show PyData.depthAll _ + 1 ≤ 64
    exact Nat.le_trans (Nat.succ_le_succ h) (by decide)
theorem filt_ints (c : Int → Bool) : ∀ ns : List Int, (ns.map fun x => if c x = true then some (V.int x) else none).filterMap id = (ns.filter c).map V.int
  | [] => rfl
  | x :: ns => by
    rw [List.map_cons, List.filterMap_cons, List.filter_cons]
    by_cases h : c x = true
    · rw [if_pos h, if_pos h]
      show V.int x :: _ = V.int x :: _
      rw [filt_ints c ns]
    · rw [if_neg h, if_neg h]
      exact filt_ints c ns
theorem filt_oth (g : Nat → Int) (k : Nat) : ∀ js : List Nat, (js.map fun j => if (j != k) = true then some (V.int (g j)) else none).filterMap id = ((js.filter fun j => j != k).map g).map V.int
  | [] => rfl
  | j :: js => by
    rw [List.map_cons, List.filterMap_cons, List.filter_cons]
    by_cases h : (j != k) = true
    · rw [if_pos h, if_pos h]
      show V.int (g j) :: _ = V.int (g j) :: _
      rw [filt_oth g k js]
    · rw [if_neg h, if_neg h]
      exact filt_oth g k js
end
end Dp
set_option maxHeartbeats 4000000
namespace Dp
open PySem PySem.Spec PyProof.Rows L2
section
variable {P : Program} {w : World} {K : PySem.W.Frag} {mg : Str → Option Value} {base : Heap}
abbrev tσ (r : Addr) (t f n : Int) (y5 y6 y7 y8 y9 y10 y11 y12 y13 : Option V) : L2.St := [some (.ref r), some (.int 4), some (.int t), some (.int f), some (.int n), y5, y6, y7, y8, y9, y10, y11, y12, y13, none, none]
/-- coins on the heap: a new list -/
structure CoinsAt (H0 H : Hp) (p : Addr) (l : List Int) : Prop where
  new : H0 p = none
  at_ : H p = some (.lst (l.map V.int))
abbrev s__law_table : Stmt := topS 61
abbrev n__law_table : List Str := ["_law_row", "_law_most", "_law_top", "_law_factor", "_law_players", "_law_way", "_law_size", "_law_coins", "_law_turn", "_law_many", "_law_payer", "_law_total", "_law_others", "_law_sums", "_law_one", "_law_k"]
abbrev p__law_table : List Str := ["_law_row", "_law_most", "_law_top"]
theorem sc__law_table : FnScope n__law_table p__law_table (defScope s__law_table) := ⟨rfl, rfl, rfl, by decide +kernel, rfl, by decide +kernel, by decide +kernel⟩
def spTable (K : PySem.W.Frag) : Sp := fun vs H Q _ => ∃ (r : Addr) (t : Int) (sc : Addr) (ns : List Int), vs = [.ref r, .int 4, .int t] ∧ RowAt K H r sc ns ∧ (1 ≤ t ∧ t ≤ 12) ∧
  ∀ H' v f cs, KeepBut r H H' → RowNum H' r sc → TabAt K H' v f cs → OkTab f cs → cs.sum ≤ 1000000 → Q v H'
theorem sum_small {l : List Int} (hl : l.length ≤ 4) (h : ∀ x ∈ l, x ≤ 250000) : l.sum ≤ 1000000 := by
  have h1 := sum_le_mul h
  omega
theorem keepNew {r : Addr} {H H1 : Hp} {p : Addr} {o : HO} (k : KeepBut r H H1) (n : H p = none) : KeepBut r H (upd H1 p o) := fun b u nb e => by
  rw [upd_ne (ne_of_none e n)]
  exact k _ _ nb e
theorem free_of {r : Addr} {H H1 : Hp} {p : Addr} (k : KeepBut r H H1) (nr : p ≠ r) (n : H1 p = none) : H p = none := by
  cases e : H p with
  | none => rfl
  | some o =>
    rw [k _ _ nr e] at n
    cases n
theorem kept__law_table (T : Env mg) (D : Own K mg "_law_table" s__law_table p__law_table) (k__law_taken : Kept P w K mg base 1 "_law_taken" p__law_taken (spTaken K)) (k__law_pick : Kept P w K mg base 2 "_law_pick" p__law_pick (spPick K)) :
    Kept P w K mg base 3 "_law_table" p__law_table (spTable K) := by
  refine D.kept fun f fd F => F.ok sc__law_table (fun vs H Q E h => ?_) (fun cdv A outer s H vs Q E hr h => ?_)
  · obtain ⟨r, t, sc, ns, rfl, _⟩ := h
    rfl
  · obtain ⟨r, t, sc, ns, rfl, hR, ht, q⟩ := h
    obtain ⟨ysr, hRr⟩ := hR.1.some
    have nr_of : ∀ {H1 : Hp} {p : Addr}, RowNum H1 r sc → H1 p = none → p ≠ r := fun {H1 p} h1 h2 e => by
      obtain ⟨ys, h3⟩ := h1.some
      rw [e, h3] at h2
      cases h2
    refine ⟨_, (pss_cons (ps_asg (pe_tup (pa_cons (pe_own k__law_pick (hr.mono (by decide)) (by rfl) (pa_cons (pv 0) (pa_cons (pe_lst (pa_cons pe_int (pa_cons pe_int (pa_cons pe_int (pa_cons pe_int (pa_cons pe_int (pa_cons pe_int (pa_cons pe_int pa_nil)))))))) pa_nil))) (pa_cons (pe_op op_add pe_int (pe_own k__law_taken (hr.mono (by decide)) (by rfl) (pa_cons (pv 0) (pa_cons (pv 1) pa_nil)))) pa_nil))) (pg_tup rfl (pgs_cons (pg_name (i := 3) sc__law_table.nd rfl (.inr rfl)) (pgs_cons (pg_name (i := 4) sc__law_table.nd rfl (.inl rfl)) pgs_nil))))
 (pss_cons (ps_set (i := 5) sc__law_table.nd rfl (.inl rfl) (pe_own k__law_taken (hr.mono (by decide)) (by rfl) (pa_cons (pv 0) (pa_cons pe_int pa_nil))))
 (pss_cons (ps_if (pt_cmpR op_lt (pv 5) pe_int (nomark _)) (pss_cons (ps_par (i := 6) (j := 7) (by rfl) sc__law_table.nd rfl rfl (by decide) rfl rfl (pa_cons (pe_op op_add pe_int (pe_own k__law_taken (hr.mono (by decide)) (by rfl) (pa_cons (pv 0) (pa_cons pe_int pa_nil)))) (pa_cons (pe_op op_rep (pe_lst (pa_cons pe_int pa_nil)) (pv 4)) pa_nil)) (by rfl))
 (pss_cons (ps_for PassesOwn.never rfl (pi_range1 (by rfl) T.z_range (pa_cons (pv 6) pa_nil)) (pg_name (i := 8) sc__law_table.nd rfl (.inl rfl)) (pss_cons (ps_setLc (i := 7) (own := [("_law_one", 14)]) (g := (gName 14)) (tt := tYes) rfl sc__law_table.nd rfl rfl (sw_true rfl rfl rfl (by decide +kernel)) (pi_list (pv 7)) (blkOk_by (own := [("_law_one", 14)]) (N := n__law_table) (sc := defScope s__law_table) (by decide +kernel)) (fun _ _ _ _ _ => (pg_name (i := 14) sc__law_table.nd rfl (.inl rfl))) (fun _ _ _ _ _ => pts_nil) (fun _ _ _ _ _ => (pe_op op_mul (pv 3) (pv 14))))
 (pss_one (ps_augS (pv 7) (pe_own k__law_taken (hr.mono (by decide)) (by rfl) (pa_cons (pv 0) (pa_cons (pv 4) pa_nil))) get_list (pe_op op_sub (pv 3) pe_int) ip_add set_list))))
 (pss_cons (ps_set (i := 9) sc__law_table.nd rfl (.inr rfl) (pe_op op_add pe_int (pe_own k__law_taken (hr.mono (by decide)) (by rfl) (pa_cons (pv 0) (pa_cons pe_int pa_nil)))))
 (pss_one (ps_ret (pe_tup (pa_cons (pv 3) (pa_cons (pe_callTy call_tuple_of (by rfl) T.z_tuple (by decide +kernel) (pa_cons (pe_lc (own := [("_law_one", 14)]) (g := (gName 14)) (tt := tYes) rfl sc__law_table.nd (pi_list (pv 7)) (blkOk_by (own := [("_law_one", 14)]) (N := n__law_table) (sc := defScope s__law_table) (by decide +kernel)) (fun _ _ _ _ _ => (pg_name (i := 14) sc__law_table.nd rfl (.inl rfl))) (fun _ _ _ _ _ => pts_nil) (fun _ _ _ _ _ => (pe_op op_mul (pv 14) (pv 9)))) pa_nil)) pa_nil)))))))) pss_nil)
 (pss_cons (ps_if (pt_cmpR op_eq (pv 5) pe_int (nomark _)) (pss_cons (ps_set (i := 7) sc__law_table.nd rfl (.inl rfl) (pe_op op_rep (pe_lst (pa_cons pe_int pa_nil)) (pv 4)))
 (pss_cons (ps_asg (pe_op op_add pe_int (pe_own k__law_taken (hr.mono (by decide)) (by rfl) (pa_cons (pv 0) (pa_cons pe_int pa_nil)))) (pg_sub (pv 7) (pe_own k__law_taken (hr.mono (by decide)) (by rfl) (pa_cons (pv 0) (pa_cons (pv 4) pa_nil))) set_list))
 (pss_cons (ps_for PassesOwn.never rfl (pi_range1 (by rfl) T.z_range (pa_cons (pe_own k__law_taken (hr.mono (by decide)) (by rfl) (pa_cons (pv 0) (pa_cons pe_int pa_nil))) pa_nil)) (pg_name (i := 8) sc__law_table.nd rfl (.inl rfl)) (pss_cons (ps_set (i := 10) sc__law_table.nd rfl (.inr rfl) (pe_own k__law_taken (hr.mono (by decide)) (by rfl) (pa_cons (pv 0) (pa_cons (pv 4) pa_nil))))
 (pss_cons (ps_set (i := 11) sc__law_table.nd rfl (.inl rfl) (pe_callB (cr_sumK rfl) (by rfl) T.z_sum (by decide +kernel) (pa_cons (pv 7) pa_nil)))
 (pss_cons (ps_setLc (i := 12) (own := [("_law_k", 15), ("_law_one", 14)]) (g := (gTup K 2 (gCons (gName 15) (gCons (gName 14) gNil)))) rfl sc__law_table.nd rfl rfl (sw_true rfl rfl rfl (by decide +kernel)) (pi_enumM (by rfl) T.z_enumerate (pa_cons (pv 7) pa_nil)) (blkOk_by (own := [("_law_k", 15), ("_law_one", 14)]) (N := n__law_table) (sc := defScope s__law_table) (by decide +kernel)) (fun _ _ _ _ _ => (pg_tup rfl (pgs_cons (pg_name (i := 15) sc__law_table.nd rfl (.inl rfl)) (pgs_cons (pg_name (i := 14) sc__law_table.nd rfl (.inl rfl)) pgs_nil)))) (fun _ _ _ _ _ => pts_one (pt_cmpR op_ne (pv 15) (pv 10) (nomark _))) (fun _ _ _ _ _ => (pv 14)))
 (pss_one (ps_if (pt_cmpR (op_eqD hr.units) (pe_lc (own := [("_law_one", 14)]) (g := (gName 14)) rfl sc__law_table.nd (pi_list (pv 12)) (blkOk_by (own := [("_law_one", 14)]) (N := n__law_table) (sc := defScope s__law_table) (by decide +kernel)) (fun _ _ _ _ _ => (pg_name (i := 14) sc__law_table.nd rfl (.inl rfl))) (fun _ _ _ _ _ => pts_one (pt_cmpR op_ne (pe_op op_mod (pe_callTy call_int1 (by rfl) T.z_int (by decide +kernel) (pa_cons (pv 14) pa_nil)) (pv 3)) pe_int (nomark _))) (fun _ _ _ _ _ => (pv 14))) (pe_lst pa_nil) (nomark _)) (pss_cons (ps_set (i := 13) sc__law_table.nd rfl (.inl rfl) (pe_op op_add (pe_ix ix_list (pv 7) (pv 10) (fun _ _ => rfl)) (pe_op op_mul (pe_op op_sub (pv 3) pe_int) (pv 11))))
 (pss_cons (ps_setLc (i := 7) (own := [("_law_one", 14)]) (g := (gName 14)) (tt := tYes) rfl sc__law_table.nd rfl rfl (sw_true rfl rfl rfl (by decide +kernel)) (pi_list (pv 7)) (blkOk_by (own := [("_law_one", 14)]) (N := n__law_table) (sc := defScope s__law_table) (by decide +kernel)) (fun _ _ _ _ _ => (pg_name (i := 14) sc__law_table.nd rfl (.inl rfl))) (fun _ _ _ _ _ => pts_nil) (fun _ _ _ _ _ => (pe_op op_fdiv (pv 14) (pv 3))))
 (pss_one (ps_asg (pe_op op_fdiv (pv 13) (pv 3)) (pg_sub (pv 7) (pv 10) set_list))))) (pss_one (ps_setLc (i := 7) (own := [("_law_one", 14)]) (g := (gName 14)) (tt := tYes) rfl sc__law_table.nd rfl rfl (sw_true rfl rfl rfl (by decide +kernel)) (pi_list (pv 7)) (blkOk_by (own := [("_law_one", 14)]) (N := n__law_table) (sc := defScope s__law_table) (by decide +kernel)) (fun _ _ _ _ _ => (pg_name (i := 14) sc__law_table.nd rfl (.inl rfl))) (fun _ _ _ _ _ => pts_nil) (fun _ _ _ _ _ => (pe_op op_mul (pv 3) (pv 14)))))))))))
 (pss_one (ps_ret (pe_tup (pa_cons (pv 3) (pa_cons (pe_callTy call_tuple_of (by rfl) T.z_tuple (by decide +kernel) (pa_cons (pv 7) pa_nil)) pa_nil)))))))) pss_nil)
 (pss_cons (ps_setLc (i := 7) (own := [("_law_k", 15)]) (g := (gName 15)) (tt := tYes) rfl sc__law_table.nd rfl rfl (sw_true rfl rfl rfl (by decide +kernel)) (pi_range1 (by rfl) T.z_range (pa_cons (pv 4) pa_nil)) (blkOk_by (own := [("_law_k", 15)]) (N := n__law_table) (sc := defScope s__law_table) (by decide +kernel)) (fun _ _ _ _ _ => (pg_name (i := 15) sc__law_table.nd rfl (.inl rfl))) (fun _ _ _ _ _ => pts_nil) (fun _ _ _ _ _ => (pe_own k__law_taken (hr.mono (by decide)) (by rfl) (pa_cons (pv 0) (pa_cons (pv 2) pa_nil)))))
 (pss_one (ps_ret (pe_tup (pa_cons (pv 3) (pa_cons (pe_ifExp (pt_cmpR op_gt (pe_callB (cr_sumK rfl) (by rfl) T.z_sum (by decide +kernel) (pa_cons (pv 7) pa_nil)) pe_int (nomark _)) (pe_callTy call_tuple_of (by rfl) T.z_tuple (by decide +kernel) (pa_cons (pv 7) pa_nil)) (pe_op op_repA (pe_tup (pa_cons pe_int pa_nil)) (pv 4))) pa_nil)))))))))), ?_⟩
    refine ⟨_, rfl, small_size (show 7 ≤ 1000 by decide), fun t0 nt0 => ?_⟩
    have st0 := same_upd (o := .lst [V.int 2, V.int 2, V.int 2, V.int 3, V.int 3, V.int 4, V.int 9]) nt0
    refine ⟨r, t0, [2, 2, 2, 3, 3, 4, 9], sc, ns, rfl, hR.same st0, nr_of hR.1 nt0, upd_same, by simp, by decide, fun H1 f kb1 hR1 hf => ?_⟩
    have k1 : KeepBut r H H1 := (KeepBut.of st0).trans kb1
    have fac : Fac f := by
      simp only [List.mem_cons, List.mem_nil_iff, or_false] at hf
      constructor <;> omega
    have f2 := fac.1
    have f9 : f ≤ 9 := fac.2
    refine ⟨_, rfl, _, rfl, r, _, sc, ns, rfl, hR.next k1 hR1, by omega, by omega, fun H2 y kb2 hR2 hy => ?_⟩
    have k2 := k1.trans kb2
    refine ⟨_, _, rfl, rfl, small_size (show 2 ≤ 1000 by decide), fun t1 nt1 => ?_⟩
    refine ⟨t1, _, rfl, .of upd_same, rfl, _, _, rfl, _, _, rfl, rfl, ?_⟩
    have st1 := same_upd (o := .tup [V.int f, V.int (1 + (y : Int))]) nt1
    have hR2' := hR2.same st1
    have k2' := k2.trans (.of st1)
    have hn : (1 + (y : Int)).toNat = y + 1 := by omega
    refine ⟨_, rfl, r, _, sc, ns, rfl, hR.next k2' hR2', by omega, by omega, fun H3 wy kb3 hR3 hwy => ?_⟩
    have k3 := k2'.trans kb3
    refine ⟨_, rfl, _, _, rfl, rfl, _, rfl, ite2 (fun c => ?_) (fun c => ?_)⟩
    ·
      refine ⟨_, rfl, r, _, sc, ns, rfl, hR.next k3 hR3, by omega, by omega, fun H4 z kb4 hR4 hz => ⟨_, _, rfl, rfl, ?_⟩⟩
      have k4 := k3.trans kb4
      refine ⟨small_size (show 1 ≤ 1000 by decide), fun o no => ?_⟩
      have so := same_upd (o := .lst [V.int 0]) no
      refine ⟨_, rfl, o, _, _, rfl, rfl, upd_same, by omega, by omega, by rw [hn, List.length_singleton]; exact small_size (by omega), fun p0 hp0 => ?_⟩
      have sp0 := same_upd (o := .lst (List.replicate (1 + (y : Int)).toNat [V.int 0]).flatten) hp0
      have s04 := so.trans sp0
      have np0 : H p0 = none := free_of k4 (nr_of hR4 (so.free hp0)) (so.free hp0)
      refine ⟨_, _, rfl, ?_⟩
      refine ⟨_, rfl, _, rfl, by omega, by omega, for_range (lo := 0) (fun i σ H' => KeepBut r H H' ∧ RowNum H' r sc ∧ ∃ p l y8, CoinsAt H H' p l ∧ l.length = y + 1 ∧ (∀ x ∈ l, 0 ≤ x ∧ x + 1 ≤ 9 ^ i) ∧ (1 ≤ i → 0 < l.sum) ∧
          σ = tσ r t f (1 + (y : Int)) (some (.int (wy : Int))) (some (.int (1 + (z : Int)))) (some (.ref p)) y8 none none none none none)
        ⟨k4.trans (.of s04), hR4.same s04, p0, List.replicate (y + 1) 0, none, ⟨np0, ?_⟩, List.length_replicate .., fun x hx => ?_, fun h => by omega, rfl⟩ ?_ ?_⟩
      · rw [upd_same, hn, rep_flat, rep_ints]
      · rw [(List.mem_replicate.mp hx).2]
        exact ⟨Int.le_refl 0, by decide⟩
      · rintro i σ H5 hi ⟨k5, hR5, p, l, y8, ⟨np, hp⟩, hl, hb, hs, rfl⟩
        refine ⟨_, rfl, p, rfl, ⟨_, .of hp⟩, fun D1 nD => lc_map nD (walk_list (xs := l.map V.int)) ((l.map fun x => f * x).map V.int) (by simp) (by rw [List.length_map, hl]; omega) (fun H6 s6 => .of (s6 _ _ hp)) ?_ ?_ gName_mono⟩
        · rintro j x H6 H7 C hj s6 ⟨rfl, ex⟩ h1
          obtain ⟨x0, ez, rfl⟩ := map_getI ex
          refine ⟨rfl, _, rfl, _, rfl, f, x0, rfl, rfl, .inl ⟨by omega, by omega⟩, h1 _ _ (Same.refl _) ?_⟩
          rw [List.getElem?_map, List.getElem?_map, ez]
          rfl
        · intro H6 s6 eD
          have nrD := nr_of hR5 nD
          have nD0 : H D1 = none := free_of k5 nrD nD
          refine ⟨_, rfl, _, rfl, _, rfl, r, _, sc, ns, rfl, hR.next (k5.trans (.of s6)) (hR5.same s6), by omega, by omega, fun H7 kk kb7 hR7 hkk => ?_⟩
          have eD7 := kb7 _ _ nrD eD
          have hkk2 : kk < y + 1 := by omega
          have ek2 : (l.map fun x => f * x)[kk]? = some ((l.map fun x => f * x).getD kk 0) := by
            have hk3 : kk < (l.map fun x => f * x).length := by rw [List.length_map, hl]; exact hkk2
            rw [List.getD_eq_getElem?_getD, List.getElem?_eq_getElem hk3]
            rfl
          refine ⟨D1, _, kk, _, rfl, rfl, .of eD7, getI ek2, _, rfl, _, _, rfl, rfl, _, _, rfl, rfl, D1, _, kk, kk, rfl, rfl, eD7, ixN_nat (by rw [List.length_map, List.length_map, hl]; exact hkk2), ?_⟩
          refine ⟨keepNew ((k5.trans (.of s6)).trans kb7) nD0, hR7.upd nrD, D1, step f l kk, some (.int (0 + (i : Int))), ⟨nD0, ?_⟩, by rw [step_len, hl], ?_, fun _ => ?_, rfl⟩
          · rw [upd_same]
            unfold step
            rw [List.map_set]
          · rw [Int.pow_succ]
            exact step_bound fac hb kk
          · have nn := nonneg_sum fun x hx => (hb x hx).1
            have g0 : 0 ≤ f * l.sum := Int.mul_nonneg (by omega) nn
            rw [step_sum (by rw [hl]; exact hkk2)]
            omega
      · rintro σ H5 ⟨k5, hR5, p, l, y8, ⟨np, hp⟩, hl, hb, hs, rfl⟩
        refine ⟨_, rfl, r, _, sc, ns, rfl, hR.next k5 hR5, by omega, by omega, fun H6 m kb6 hR6 hm => ⟨_, _, rfl, rfl, ?_⟩⟩
        have nrp : p ≠ r := fun e => by rw [e, hRr] at np; cases np
        have hp6 := kb6 _ _ nrp hp
        refine ⟨_, rfl, _, rfl, p, rfl, ⟨_, .of hp6⟩, fun D1 nD => lc_map nD (walk_list (xs := l.map V.int)) ((l.map fun x => x * (1 + (m : Int))).map V.int) (by simp) (by rw [List.length_map, hl]; omega) (fun H7 s7 => .of (s7 _ _ hp6)) ?_ ?_ gName_mono⟩
        · rintro j x H7 H8 C hj s7 ⟨rfl, ex⟩ h1
          obtain ⟨x0, ez, rfl⟩ := map_getI ex
          refine ⟨rfl, _, rfl, _, rfl, x0, _, rfl, rfl, .inr ⟨by omega, by omega⟩, h1 _ _ (Same.refl _) ?_⟩
          rw [List.getElem?_map, List.getElem?_map, ez]
          rfl
        · intro H7 s7 eD
          refine ⟨D1, _, rfl, .inl ⟨.of eD, fun c1 nc1 => ?_⟩⟩
          have sc1 := same_upd (o := .tup ((l.map fun x => x * (1 + (m : Int))).map V.int)) nc1
          refine ⟨small_size (show 2 ≤ 1000 by decide), fun a1 na1 => ?_⟩
          have sa1 := same_upd (o := .tup [V.int f, V.ref c1]) na1
          have sall := (s7.trans sc1).trans sa1
          refine q _ _ f (l.map fun x => x * (1 + (m : Int))) ((k5.trans kb6).trans (.of sall)) (hR6.same sall) ⟨a1, c1, rfl, .of upd_same, .of (sa1 _ _ upd_same)⟩ ?_ ?_
          rotate_left
          · have p9 := pow9 (k := (1 + (z : Int)).toNat) (by omega)
            refine sum_small (by rw [List.length_map, hl]; omega) fun x hx => ?_
            obtain ⟨x0, hx0, rfl⟩ := List.mem_map.mp hx
            obtain ⟨b0, b1⟩ := hb x0 hx0
            have : x0 * (1 + (m : Int)) ≤ 59049 * 3 := Int.mul_le_mul (by omega) (by omega) (by omega) (by omega)
            omega
          have p9 := pow9 (k := (1 + (z : Int)).toNat) (by omega)
          have lsum : 0 < l.sum := hs (by omega)
          refine ⟨f2, f9, by rw [List.length_map, hl]; omega, by rw [List.length_map, hl]; omega, fun x hx => ?_, fun x hx => ?_, ?_⟩
          · obtain ⟨x0, hx0, rfl⟩ := List.mem_map.mp hx
            exact Int.mul_nonneg (hb x0 hx0).1 (by omega)
          · obtain ⟨x0, hx0, rfl⟩ := List.mem_map.mp hx
            obtain ⟨b0, b1⟩ := hb x0 hx0
            have : x0 * (1 + (m : Int)) ≤ 59049 * 3 := Int.mul_le_mul (by omega) (by omega) (by omega) (by omega)
            omega
          · have e : (l.map fun x => x * (1 + (m : Int))) = l.map fun x => (1 + (m : Int)) * x := map_congr2 fun x _ => Int.mul_comm _ _
            rw [e, sum_map_mul]
            have : 0 < (1 + (m : Int)) * l.sum := Int.mul_pos (by omega) lsum
            omega
    · refine ⟨_, rfl, rfl, _, rfl, ite2 (fun c2 => ?_) (fun c2 => ?_)⟩
      ·
        refine ⟨small_size (show 1 ≤ 1000 by decide), fun o no => ?_⟩
        have so := same_upd (o := .lst [V.int 0]) no
        refine ⟨_, rfl, o, _, _, rfl, rfl, upd_same, by omega, by omega, by rw [hn, List.length_singleton]; exact small_size (by omega), fun p0 hp0 => ?_⟩
        have sp0 := same_upd (o := .lst (List.replicate (1 + (y : Int)).toNat [V.int 0]).flatten) hp0
        have s04 := so.trans sp0
        have nrp0 : p0 ≠ r := nr_of hR3 (so.free hp0)
        have np0 : H p0 = none := free_of k3 nrp0 (so.free hp0)
        have ep0 : upd (upd H3 o (.lst [V.int 0])) p0 (.lst (List.replicate (1 + (y : Int)).toNat [V.int 0]).flatten) p0 = some (.lst ((List.replicate (y + 1) (0 : Int)).map V.int)) := by
          rw [upd_same, hn, rep_flat, rep_ints]
        have k3' := k3.trans (.of s04)
        have hR3' := hR3.same s04
        refine ⟨_, rfl, r, _, sc, ns, rfl, hR.next k3' hR3', by omega, by omega, fun H4 z kb4 hR4 hz => ⟨_, _, rfl, rfl, ?_⟩⟩
        have k4 := k3'.trans kb4
        refine ⟨_, rfl, _, rfl, _, rfl, r, _, sc, ns, rfl, hR.next k4 hR4, by omega, by omega, fun H5 k0 kb5 hR5 hk0 => ?_⟩
        have k5 := k4.trans kb5
        have ep5 := kb5 _ _ nrp0 (kb4 _ _ nrp0 ep0)
        have hk02 : k0 < y + 1 := by omega
        refine ⟨p0, _, k0, k0, rfl, rfl, ep5, ixN_nat (by rw [List.length_map, List.length_replicate]; exact hk02), ?_⟩
        have k5' : KeepBut r H (upd H5 p0 (.lst (((List.replicate (y + 1) (0 : Int)).map V.int).set k0 (.int (1 + (z : Int)))))) := keepNew k5 np0
        have hR5' : RowNum (upd H5 p0 (.lst (((List.replicate (y + 1) (0 : Int)).map V.int).set k0 (.int (1 + (z : Int)))))) r sc := hR5.upd nrp0
        refine ⟨_, rfl, r, _, sc, ns, rfl, hR.next k5' hR5', by omega, by omega, fun H6 tt kb6 hR6 htt => ?_⟩
        refine ⟨_, rfl, by omega, by omega, for_range (lo := 0) (fun i σ H' => KeepBut r H H' ∧ RowNum H' r sc ∧ ∃ p l y8 y10 y11 y12 y13, CoinsAt H H' p l ∧ l.length = y + 1 ∧ (∀ x ∈ l, 0 ≤ x ∧ x ≤ 9 ^ (i + 1)) ∧ 0 < l.sum ∧
            σ = tσ r t f (1 + (y : Int)) (some (.int (wy : Int))) none (some (.ref p)) y8 none y10 y11 y12 y13)
          ⟨k5'.trans kb6, hR6, p0, (List.replicate (y + 1) (0 : Int)).set k0 (1 + (z : Int)), none, none, none, none, none, ⟨np0, ?_⟩, by rw [List.length_set, List.length_replicate], fun x hx => ?_, ?_, rfl⟩ ?_ ?_⟩
        · refine kb6 _ _ nrp0 ?_
          rw [upd_same, List.map_set]
        · rcases mem_set_or hx with e | e
          · rw [(List.mem_replicate.mp e).2]
            exact ⟨Int.le_refl 0, by decide⟩
          · have : (9 : Int) ^ (0 + 1) = 9 := by decide
            omega
        · have hm : (1 + (z : Int)) ∈ (List.replicate (y + 1) (0 : Int)).set k0 (1 + (z : Int)) := List.mem_of_getElem? (List.getElem?_set_self (by rw [List.length_replicate]; exact hk02))
          have := sum_pos_of_mem (fun x hx => by
            rcases mem_set_or hx with e | e
            · rw [(List.mem_replicate.mp e).2]
              exact Int.le_refl 0
            · omega) hm
          omega
        · rintro i σ H7 hi ⟨k7, hR7, p, l, y8, y10, y11, y12, y13, ⟨np, hp⟩, hl, hb, hs, rfl⟩
          have nrp : p ≠ r := fun e => by rw [e, hRr] at np; cases np
          have hnn : ∀ x ∈ l, 0 ≤ x := fun x hx => (hb x hx).1
          refine ⟨_, rfl, _, rfl, r, _, sc, ns, rfl, hR.next k7 hR7, by omega, by omega, fun H8 k kb8 hR8 hk => ?_⟩
          have k8 := k7.trans kb8
          have hp8 := kb8 _ _ nrp hp
          have hk2 : k < l.length := by omega
          obtain ⟨cc, hcc⟩ : ∃ cc, l[k]? = some cc := ⟨_, List.getElem?_eq_getElem hk2⟩
          refine ⟨_, rfl, true, p, l, rfl, .of hp8, ?_⟩
          refine ⟨_, rfl, true, p, _, rfl, .of hp8, fun D1 nD => lc_all nD (walk_enumM (k := true) (xs := l.map V.int) rfl) ((List.range l.length).map fun j => if (j != k) = true then some (V.int (l.getD j 0)) else none) (by rw [List.length_map, List.length_map, List.length_range]) (by rw [List.length_map]; omega) (fun H9 s9 => .of (s9 _ _ hp8)) ?_ ?_⟩
          · rintro j x H9 H10 C N hj s9 ⟨t2, x1, x2, rfl, nt, rfl, e1, e2⟩ g1 g2
            have e1' := Option.some.inj e1
            subst e1'
            obtain ⟨z2, ez2, rfl⟩ := map_getI e2
            rw [List.length_map] at hj
            have st2 := same_upd (o := .tup [V.int (j : Nat), V.int z2]) nt
            refine ⟨t2, _, rfl, .of upd_same, rfl, _, _, rfl, _, _, rfl, rfl, rfl, ?_⟩
            have eget : ((List.range l.length).map fun j => if (j != k) = true then some (V.int (l.getD j 0)) else none)[j]? = some (if (j != k) = true then some (V.int z2) else none) := by
              rw [List.getElem?_map, List.getElem?_range hj]
              show some (if (j != k) = true then some (V.int (l.getD j 0)) else none) = _
              rw [List.getD_eq_getElem?_getD, ez2]
              rfl
            refine ⟨_, rfl, _, rfl, rfl, _, rfl, ite2 (fun e => ?_) (fun e => ?_)⟩
            · have jk : (j != k) = true := by
                rw [bne_iff_ne]
                intro q
                rw [q, decide_eq_true rfl] at e
                cases e
              rw [if_pos jk] at eget
              exact ⟨_, rfl, g1 _ _ st2 eget⟩
            · have jk : ¬ (j != k) = true := fun q => e (by
                rw [bne_iff_ne] at q
                rw [decide_eq_false (fun q2 => q (by have := V.int.inj q2; omega))]
                rfl)
              rw [if_neg jk] at eget
              exact g2 _ st2 eget
          · intro H9 s9 eD
            rw [filt_oth (fun j => l.getD j 0) k (List.range l.length)] at eD
            have eD' : H9 D1 = some (.lst ((oth l k).map V.int)) := eD
            have lo : (oth l k).length ≤ 4 := by
              unfold oth
              rw [List.length_map]
              have := List.length_filter_le (fun j => j != k) (List.range l.length)
              rw [List.length_range] at this
              omega
            have k9 := k8.trans (.of s9)
            have hR9 := hR8.same s9
            have hp9 := s9 _ _ hp8
            refine ⟨_, rfl, D1, rfl, ⟨_, .of eD'⟩, fun D2 nD2 => lc_all nD2 (walk_list (xs := (oth l k).map V.int)) ((oth l k).map fun x => if (decide (x % f ≠ 0)) = true then some (V.int x) else none) (by rw [List.length_map, List.length_map]) (by rw [List.length_map]; omega) (fun H10 s10 => .of (s10 _ _ eD')) ?_ ?_⟩
            · rintro j x H10 H11 C N hj s10 ⟨rfl, ex⟩ g1 g2
              obtain ⟨x0, ez, rfl⟩ := map_getI ex
              have eget : ((oth l k).map fun x => if (decide (x % f ≠ 0)) = true then some (V.int x) else none)[j]? = some (if (decide (x0 % f ≠ 0)) = true then some (V.int x0) else none) := by
                rw [List.getElem?_map, ez]
                rfl
              refine ⟨rfl, _, rfl, .inl ⟨x0, rfl, _, rfl, _, _, rfl, rfl, by show 0 < f; omega, rfl, _, rfl, ite2 (fun e => ?_) (fun e => ?_)⟩⟩
              · replace e : (!decide (V.int (x0 % f) = V.int 0)) = true := e
                have hx0 : x0 % f ≠ 0 := fun q => by
                  rw [q, decide_eq_true rfl] at e
                  cases e
                rw [if_pos (decide_eq_true hx0)] at eget
                exact ⟨_, rfl, g1 _ _ (Same.refl _) eget⟩
              · have hx0 : ¬ (decide (x0 % f ≠ 0)) = true := fun q => e (by
                  have q' := of_decide_eq_true q
                  show (!decide (V.int (x0 % f) = V.int 0)) = true
                  rw [decide_eq_false (fun q2 => q' (V.int.inj q2))]
                  rfl)
                rw [if_neg hx0] at eget
                exact g2 _ (Same.refl _) eget
            · intro H10 s10 eD2
              rw [filt_ints] at eD2
              refine ⟨Nat.zero_le _, fun o2 no2 => ?_⟩
              have so2 := same_upd (o := .lst []) no2
              have s910 := s10.trans so2
              have k10 := k9.trans (.of s910)
              have hR10 := hR9.same s910
              have hp10 := s910 _ _ hp9
              refine ⟨.list (((oth l k).filter fun x => decide (x % f ≠ 0)).map PyData.int), .list [], .lst (.of (so2 _ _ eD2)) (dpInts _), .lst (.of upd_same) .nil, shaped_ints _, rfl, _, rfl, ?_⟩
              cases hF : (oth l k).filter fun x => decide (x % f ≠ 0) with
              | nil =>
                have hd : ∀ x ∈ oth l k, x % f = 0 := fun x hx => by
                  rcases Decidable.em (x % f = 0) with q | q
                  · exact q
                  · have : x ∈ (oth l k).filter fun x => decide (x % f ≠ 0) := List.mem_filter.mpr ⟨hx, decide_eq_true q⟩
                    rw [hF] at this
                    cases this
                refine iteT ?_
                refine ⟨_, rfl, _, rfl, p, _, _, _, rfl, rfl, .of hp10, atI_nat (getI hcc), _, rfl, _, _, rfl, rfl, _, rfl, _, _, rfl, rfl, .inl ⟨by omega, by omega⟩, _, _, rfl, rfl, ?_⟩
                refine ⟨_, rfl, p, rfl, ⟨_, .of hp10⟩, fun D3 nD3 => lc_map nD3 (walk_list (xs := l.map V.int)) ((l.map fun x => x / f).map V.int) (by simp) (by rw [List.length_map, hl]; omega) (fun H6 s6 => .of (s6 _ _ hp10)) ?_ ?_ gName_mono⟩
                · rintro j x H11 H12 C hj s11 ⟨rfl, ex⟩ h1
                  obtain ⟨x0, ez, rfl⟩ := map_getI ex
                  refine ⟨rfl, _, rfl, _, rfl, x0, f, rfl, rfl, ⟨by show 0 < f; omega, by show f < 1073741824; omega⟩, h1 _ _ (Same.refl _) ?_⟩
                  rw [List.getElem?_map, List.getElem?_map, ez]
                  rfl
                · intro H11 s11 eD3
                  have nD30 : H D3 = none := free_of k10 (nr_of hR10 nD3) nD3
                  refine ⟨_, rfl, _, rfl, _, _, rfl, rfl, ⟨by show 0 < f; omega, by show f < 1073741824; omega⟩, ?_⟩
                  refine ⟨_, rfl, _, rfl, D3, _, k, k, rfl, rfl, eD3, ixN_nat (by rw [List.length_map, List.length_map]; exact hk2), ?_⟩
                  refine ⟨keepNew (k10.trans (.of s11)) nD30, (hR10.same s11).upd (nr_of hR10 nD3), D3, back f l k (cc + (f - 1) * l.sum), some (.int (0 + (i : Int))), _, _, _, _, ⟨nD30, ?_⟩, by unfold back; rw [List.length_set, List.length_map, hl], ?_, back_sum fac hnn hs hcc hd, rfl⟩
                  · rw [upd_same]
                    unfold back
                    rw [List.map_set]
                  · rw [Int.pow_succ]
                    exact back_bound fac (by omega) hb hcc
              | cons x0 F0 =>
                refine iteF ?_
                refine ⟨_, rfl, p, rfl, ⟨_, .of hp10⟩, fun D3 nD3 => lc_map nD3 (walk_list (xs := l.map V.int)) ((l.map fun x => f * x).map V.int) (by simp) (by rw [List.length_map, hl]; omega) (fun H6 s6 => .of (s6 _ _ hp10)) ?_ ?_ gName_mono⟩
                · rintro j x H11 H12 C hj s11 ⟨rfl, ex⟩ h1
                  obtain ⟨x0, ez, rfl⟩ := map_getI ex
                  refine ⟨rfl, _, rfl, _, rfl, f, x0, rfl, rfl, .inl ⟨by omega, by omega⟩, h1 _ _ (Same.refl _) ?_⟩
                  rw [List.getElem?_map, List.getElem?_map, ez]
                  rfl
                · intro H11 s11 eD3
                  have nD30 : H D3 = none := free_of k10 (nr_of hR10 nD3) nD3
                  refine ⟨k10.trans (.of s11), hR10.same s11, D3, l.map fun x => f * x, some (.int (0 + (i : Int))), _, _, _, _, ⟨nD30, eD3⟩, by rw [List.length_map, hl], ?_, ?_, rfl⟩
                  · rw [Int.pow_succ]
                    exact mul_bound fac hb
                  · rw [sum_map_mul]
                    exact Int.mul_pos (by omega) hs
        · rintro σ H7 ⟨k7, hR7, p, l, y8, y10, y11, y12, y13, ⟨np, hp⟩, hl, hb, hs, rfl⟩
          refine ⟨_, rfl, _, rfl, p, _, rfl, .inl ⟨.of hp, fun c1 nc1 => ?_⟩⟩
          have sc1 := same_upd (o := .tup (l.map V.int)) nc1
          refine ⟨small_size (show 2 ≤ 1000 by decide), fun a1 na1 => ?_⟩
          have sa1 := same_upd (o := .tup [V.int f, V.ref c1]) na1
          have sall := sc1.trans sa1
          have p9 := pow9 (k := (tt : Int).toNat + 1) (by omega)
          refine q _ _ f l (k7.trans (.of sall)) (hR7.same sall) ⟨a1, c1, rfl, .of upd_same, .of (sa1 _ _ upd_same)⟩ ⟨f2, f9, by omega, by omega, fun x hx => (hb x hx).1, fun x hx => by have := (hb x hx).2; omega, by omega⟩ (sum_small (by omega) fun x hx => by have := (hb x hx).2; omega)
      ·
        refine ⟨_, rfl, _, rfl, by omega, by omega, fun D1 nD => ?_⟩
        have nrD := nr_of hR3 nD
        have nD0 : H D1 = none := free_of k3 nrD nD
        refine lc_range (lo := 0) (fun i H' => KeepBut r H H' ∧ RowNum H' r sc ∧ ∃ l : List Int, H' D1 = some (.lst (l.map V.int)) ∧ l.length = i ∧ ∀ x ∈ l, 0 ≤ x ∧ x < 12)
          ⟨k3.trans (.of (same_upd nD)), hR3.same (same_upd nD), [], upd_same, rfl, fun p hp => by simp at hp⟩ ?_ ?_
        · rintro i H4 hi ⟨k4, hR4, l, hD, hl, hb⟩
          refine ⟨rfl, yes_if ?_⟩
          refine ⟨_, rfl, _, rfl, r, _, sc, ns, rfl, hR.next k4 hR4, by omega, by omega, fun H5 x kb5 hR5 hx => ?_⟩
          have hD5 := kb5 _ _ nrD hD
          refine ⟨_, hD5, small1000 (by rw [List.length_map, hl]; omega), keepNew (k4.trans kb5) nD0, hR5.upd nrD, l ++ [(x : Int)], ?_, by rw [List.length_append, hl]; rfl, fun p hp => ?_⟩
          · rw [upd_same, List.map_append]
            rfl
          · rcases List.mem_append.mp hp with z1 | z1
            · exact hb p z1
            · rw [List.mem_singleton.mp z1]
              omega
        · rintro H4 ⟨k4, hR4, l, hD, hl, hb⟩
          rw [hn] at hl
          have hnn : ∀ x ∈ l, 0 ≤ x := fun x hx => (hb x hx).1
          refine ⟨_, rfl, _, rfl, true, D1, l, rfl, .of hD, _, _, rfl, rfl, _, rfl, ite2 (fun e => ?_) (fun e => ?_)⟩
          · have hs : l.sum > 0 := of_decide_eq_true e
            refine ⟨_, rfl, D1, _, rfl, .inl ⟨.of hD, fun c1 nc1 => ?_⟩⟩
            have sc1 := same_upd (o := .tup (l.map V.int)) nc1
            refine ⟨small_size (show 2 ≤ 1000 by decide), fun a1 na1 => ?_⟩
            have sa1 := same_upd (o := .tup [V.int f, V.ref c1]) na1
            have sall := sc1.trans sa1
            exact q _ _ f l (k4.trans (.of sall)) (hR4.same sall) ⟨a1, c1, rfl, .of upd_same, .of (sa1 _ _ upd_same)⟩ ⟨f2, f9, by omega, by omega, hnn, fun x hx => by have := (hb x hx).2; omega, by omega⟩ (sum_small (by omega) fun x hx => by have := (hb x hx).2; omega)
          · refine ⟨small_size (show 1 ≤ 1000 by decide), fun o no => ?_⟩
            have so := same_upd (o := .tup [V.int 1]) no
            have ones : ∀ (v : Addr) (H5 : Hp), Same H4 H5 → SqT K H5 v ((List.replicate (y + 1) (1 : Int)).map V.int) → (2 : Nat) ≤ sizeLine ∧ ∀ p, H5 p = none → Q (.ref p) (upd H5 p (.tup [.int f, .ref v])) := fun v H5 s5 hv => by
              refine ⟨small_size (show 2 ≤ 1000 by decide), fun a1 na1 => ?_⟩
              have sa1 := same_upd (o := .tup [V.int f, V.ref v]) na1
              have sall := s5.trans sa1
              refine q _ _ f _ (k4.trans (.of sall)) (hR4.same sall) ⟨a1, v, rfl, .of upd_same, sameT sa1 hv⟩ ⟨f2, f9, by rw [List.length_replicate]; omega, by rw [List.length_replicate]; omega, fun x hx => by rw [(List.mem_replicate.mp hx).2]; decide, fun x hx => by rw [(List.mem_replicate.mp hx).2]; decide, ?_⟩ (sum_small (by rw [List.length_replicate]; omega) fun x hx => by rw [(List.mem_replicate.mp hx).2]; decide)
              rw [List.replicate_succ, List.sum_cons]
              have := nonneg_sum (l := List.replicate y (1 : Int)) fun x hx => by rw [(List.mem_replicate.mp hx).2]; decide
              omega
            refine ⟨_, rfl, o, _, _, rfl, rfl, .of upd_same, by simp, by omega, by omega, by simp, fun e1 => ?_, fun e2 p hp => ?_⟩
            · have y0 : y = 0 := by omega
              subst y0
              exact ones o _ so (.of upd_same)
            · refine ones p _ (so.trans (same_upd hp)) (.of ?_)
              rw [upd_same, hn, rep_flat, List.map_replicate]
end
end Dp
set_option maxHeartbeats 4000000
namespace Dp
open PySem PySem.Spec PyProof.Rows L2
section
variable {P : Program} {w : World} {K : PySem.W.Frag} {mg : Str → Option Value} {base : Heap}
theorem TabAt.keep {r : Addr} {H H' : Hp} {v : V} {f : Int} {cs : List Int} {ys : List V} (h : TabAt K H v f cs) (k : KeepBut r H H') (hr : H r = some (.lst ys)) : TabAt K H' v f cs := by
  obtain ⟨a, c, e, h1, h2⟩ := h
  exact ⟨a, c, e, k.tup hr h1, k.tup hr h2⟩
theorem optV_scal (x : Option Int) : scal (optV x) (.int 0) = true := by
  cases x <;> rfl
theorem optV_zero (x : Option Int) : decide (optV x = V.int 0) = decide (x = some 0) := by
  cases x with
  | none => rfl
  | some z =>
    refine decide_eq_decide.mpr ⟨fun e => ?_, fun e => ?_⟩
    · rw [V.int.inj e]
    · rw [Option.some.inj e]
      rfl
theorem optV_none (x : Option Int) : decide (optV x = V.non) = x.isNone := by
  cases x <;> rfl
theorem bl_eq {a b : Bool} (h : a = b) : V.bl (!decide (V.bl a = V.bl b)) = V.bl false := by
  rw [h, decide_eq_true rfl]
  rfl
theorem int_eq {a b : Int} (h : a = b) : V.bl (!decide (V.int a = V.int b)) = V.bl false := by
  rw [h, decide_eq_true rfl]
  rfl
theorem true_eq {a : Bool} (h : a = true) : V.bl (!decide (a = true)) = V.bl false := by
  rw [h]
  rfl
theorem lt_eq {a b : Int} (h : ¬ a < b) : V.bl (decide (a < b)) = V.bl false := by
  rw [decide_eq_false h]
theorem filt_opt {α : Type} (g : α → Option Int) : ∀ L : List α, (L.map fun u => (g u).map V.int).filterMap id = (L.filterMap g).map V.int
  | [] => rfl
  | u :: L => by
    rw [List.map_cons, List.filterMap_cons, List.filterMap_cons]
    cases h : g u with
    | none => exact filt_opt g L
    | some z =>
      show V.int z :: _ = V.int z :: _
      rw [filt_opt g L]
theorem getA {xs : List Int} {i : Nat} (h : i < xs.length) : atI (xs.map V.int) (0 + (i : Int)) = some (.int xs[i]) := at_of (by omega) (getI (List.getElem?_eq_getElem h))
abbrev s_law : Stmt := topS 64
abbrev n_law : List Str := ["_law_script", "_law_row", "_law_table_here", "_law_factor", "_law_coins", "_law_players", "_law_word_here", "_law_can", "_law_few", "_law_gift", "_law_more", "_law_there", "_law_base", "_law_many", "_law_best", "_law_k", "_law_one"]
abbrev p_law : List Str := ["_law_script"]
theorem sc_law : FnScope n_law p_law (defScope s_law) := ⟨rfl, rfl, rfl, by decide +kernel, rfl, by decide +kernel, by decide +kernel⟩
def spLaw (K : PySem.W.Frag) : Sp := fun vs H Q _ => ∃ (a : Addr) (ns : List Int), vs = [.ref a] ∧ SqL K H a (ns.map V.int) ∧ ∀ H', Q (.bl true) H'
abbrev lσ (a r ta c : Addr) (f : Int) (n : Nat) (y6 y7 y8 y9 y10 y11 y12 y13 y14 : Option V) : L2.St := [some (.ref a), some (.ref r), some (.ref ta), some (.int f), some (.ref c), some (.int n), y6, y7, y8, y9, y10, y11, y12, y13, y14, none, none]
theorem ok_law (T : Env mg)
    (k__law_table : Kept P w K mg base 3 "_law_table" p__law_table (spTable K)) (k__law_pick : Kept P w K mg base 2 "_law_pick" p__law_pick (spPick K)) (k__law_word : Kept P w K mg base 2 "_law_word" p__law_word (spLawWord K)) (k__law_taken : Kept P w K mg base 1 "_law_taken" p__law_taken (spTaken K))
    (k__law_all_words : Kept P w K mg base 1 "_law_all_words" p__law_all_words (spAllWords K)) (k_can_pay_word : Kept P w K mg base 4 "can_pay_word" p_can_pay_word (spCan K)) (k_fewest_shifted : Kept P w K mg base 5 "fewest_shifted" p_fewest_shifted (spFewest K))
    (k_least_gift : Kept P w K mg base 6 "least_gift" p_least_gift (spLeastGift K)) (k_table_count : Kept P w K mg base 5 "table_count" p_table_count (spCount K)) (k_gifts : Kept P w K mg base 6 "gifts" p_gifts (spGifts K)) (k_shows_gifts : Kept P w K mg base 6 "shows_gifts" p_shows_gifts (spShowsGifts K))
    (k_least_whole : Kept P w K mg base 5 "least_whole" p_least_whole (spWhole K)) (k_shifted : Kept P w K mg base 5 "shifted" p_shifted (spShifted K)) (k_shows_shift : Kept P w K mg base 5 "shows_shift" p_shows_shift (spShows K)) (k_best_word : Kept P w K mg base 5 "best_word" p_best_word (spBest K)) :
    ∀ f fd, Fun K "law" "law" s_law f fd → FnOk P w K mg base CX0 7 f fd p_law (spLaw K) := by
  intro f fd F
  refine F.ok sc_law (fun vs H Q E h => ?_) (fun cdv A outer s H vs Q E hr h => ?_)
  · obtain ⟨a, ns, rfl, _⟩ := h
    rfl
  · obtain ⟨a, ns, rfl, hS, q⟩ := h
    refine ⟨_, (pss_cons (ps_set (i := 1) sc_law.nd rfl (.inl rfl) (pe_lst (pa_cons (pv 0) (pa_cons pe_int (pa_cons pe_int (pa_cons pe_int pa_nil))))))
 (pss_cons (ps_set (i := 2) sc_law.nd rfl (.inr rfl) (pe_own k__law_table (hr.mono (by decide)) (by rfl) (pa_cons (pv 1) (pa_cons pe_int (pa_cons (pe_own k__law_pick (hr.mono (by decide)) (by rfl) (pa_cons (pv 1) (pa_cons (pe_lst (pa_cons pe_int (pa_cons pe_int pa_nil))) pa_nil))) pa_nil)))))
 (pss_cons (ps_asg (pv 2) (pg_tup rfl (pgs_cons (pg_name (i := 3) sc_law.nd rfl (.inl rfl)) (pgs_cons (pg_name (i := 4) sc_law.nd rfl (.inr rfl)) pgs_nil))))
 (pss_cons (ps_set (i := 5) sc_law.nd rfl (.inl rfl) (pe_callB call_len_seq (by rfl) T.z_len (by decide +kernel) (pa_cons (pv 4) pa_nil)))
 (C8.pss_cut (ps_set (i := 6) sc_law.nd rfl (.inl rfl) (pe_own k__law_word (hr.mono (by decide)) (by rfl) (pa_cons (pv 1) (pa_cons (pv 5) (pa_cons (pe_ifExp (pt_cmpR op_lt (pv 3) pe_int (nomark _)) pe_int pe_int) pa_nil)))))
 (pss_cons (ps_par3 (i := 7) (j := 8) (l := 9) (by rfl) sc_law.nd rfl rfl rfl (by decide) (by decide) (by decide) rfl rfl rfl (pa_cons (pe_own k_can_pay_word (hr.mono (by decide)) (by rfl) (pa_cons (pv 2) (pa_cons (pv 6) pa_nil))) (pa_cons (pe_own k_fewest_shifted (hr.mono (by decide)) (by rfl) (pa_cons (pv 2) (pa_cons (pv 6) pa_nil))) (pa_cons (pe_own k_least_gift (hr.mono (by decide)) (by rfl) (pa_cons (pv 2) (pa_cons (pv 6) pa_nil))) pa_nil))) (by rfl))
 (pss_cons (ps_if (PW.pt (pw_or (pt_cmpR op_ne (pe_cmpR op_eq (pv 8) pe_int (nomark _)) (pv 7) (nomark _)) (pw_or1 (pt_cmpR op_ne (pe_cmpR op_eq (pv 9) pe_int (nomark _)) (pv 7) (nomark _))))) (pss_one (ps_ret pe_bl)) pss_nil)
 (pss_cons (ps_if (pt_cmpR op_ne (pe_cmpR op_isN (pv 8) pe_non (nomark _)) (pe_cmpR op_eq (pe_own k_table_count (hr.mono (by decide)) (by rfl) (pa_cons (pv 3) (pa_cons (pv 5) (pa_cons (pe_callB (cr_sumK rfl) (by rfl) T.z_sum (by decide +kernel) (pa_cons (pv 4) pa_nil)) (pa_cons (pv 6) pa_nil))))) pe_int (nomark _)) (nomark _)) (pss_one (ps_ret pe_bl)) pss_nil)
 (pss_cons (ps_set (i := 10) sc_law.nd rfl (.inr rfl) (pe_own k_gifts (hr.mono (by decide)) (by rfl) (pa_cons (pv 2) (pa_cons (pv 6) pa_nil))))
 (pss_cons (ps_set (i := 11) sc_law.nd rfl (.inl rfl) (pe_callTy call_tuple_of (by rfl) T.z_tuple (by decide +kernel) (pa_cons (pe_lc (own := [("_law_k", 15)]) (g := (gName 15)) (tt := tYes) rfl sc_law.nd (pi_range1 (by rfl) T.z_range (pa_cons (pv 5) pa_nil)) (blkOk_by (own := [("_law_k", 15)]) (N := n_law) (sc := defScope s_law) (by decide +kernel)) (fun _ _ _ _ _ => (pg_name (i := 15) sc_law.nd rfl (.inl rfl))) (fun _ _ _ _ _ => pts_nil) (fun _ _ _ _ _ => (pe_op op_add (pe_ix (show IxR _ (rIxT K) from ix_tup) (pv 4) (pv 15) (fun _ _ => rfl)) (pe_ix (show IxR _ (rIxT K) from ix_tup) (pv 10) (pv 15) (fun _ _ => rfl))))) pa_nil)))
 (pss_cons (ps_if (PW.pt (pw_or (pt_cmpR op_ne (pe_callB (cr_sumK rfl) (by rfl) T.z_sum (by decide +kernel) (pa_cons (pv 10) pa_nil)) (pv 9) (nomark _)) (pw_or (pt_cmpR op_lt (pe_callB (cr_minK' rfl (hu_of hr)) (by rfl) T.z_min (by decide +kernel) (pa_cons (pv 10) pa_nil)) pe_int (nomark _)) (pw_or1 (pt_cmpR op_notBl (pe_own k_shows_gifts (hr.mono (by decide)) (by rfl) (pa_cons (pv 2) (pa_cons (pv 6) (pa_cons (pv 10) pa_nil)))) pe_bl (nomark _)))))) (pss_one (ps_ret pe_bl)) pss_nil)
 (pss_cons (ps_if (pt_cmpR op_lt (pe_callB (cr_sumK rfl) (by rfl) T.z_sum (by decide +kernel) (pa_cons (pv 11) pa_nil)) (pe_own k_least_whole (hr.mono (by decide)) (by rfl) (pa_cons (pv 3) (pa_cons (pv 5) (pa_cons (pv 6) pa_nil)))) (nomark _)) (pss_one (ps_ret pe_bl)) pss_nil)
 (C8.pss_cut (ps_if (PW.pt (pw_and (pt_cmpR op_le (pe_callB (cr_maxK' rfl (hu_of hr)) (by rfl) T.z_max (by decide +kernel) (pa_cons (pv 11) pa_nil)) pe_int (nomark _)) (pw_and1 (pt_cmpR op_notBl (pe_own k_can_pay_word (hr.mono (by decide)) (by rfl) (pa_cons (pe_tup (pa_cons (pv 3) (pa_cons (pv 11) pa_nil))) (pa_cons (pv 6) pa_nil))) pe_bl (nomark _))))) (pss_one (ps_ret pe_bl)) pss_nil)
 (C8.pss_cut (ps_if (pt_cmpR op_notN (pv 8) pe_non (nomark _)) (pss_cons (ps_set (i := 12) sc_law.nd rfl (.inr rfl) (pe_own k_shifted (hr.mono (by decide)) (by rfl) (pa_cons (pv 2) (pa_cons (pv 6) pa_nil))))
 (pss_cons (ps_if (PW.pt (pw_or (pt_cmpR op_ne (pe_callB (cr_sumK rfl) (by rfl) T.z_sum (by decide +kernel) (pa_cons (pv 12) pa_nil)) (pe_callB (cr_sumK rfl) (by rfl) T.z_sum (by decide +kernel) (pa_cons (pv 4) pa_nil)) (nomark _)) (pw_or1 (pt_cmpR op_notBl (pe_own k_can_pay_word (hr.mono (by decide)) (by rfl) (pa_cons (pe_tup (pa_cons (pv 3) (pa_cons (pv 12) pa_nil))) (pa_cons (pv 6) pa_nil))) pe_bl (nomark _))))) (pss_one (ps_ret pe_bl)) pss_nil)
 (pss_cons (ps_if (pt_cmpR op_notBl (pe_own k_shows_shift (hr.mono (by decide)) (by rfl) (pa_cons (pv 2) (pa_cons (pv 6) (pa_cons (pv 12) pa_nil)))) pe_bl (nomark _)) (pss_one (ps_ret pe_bl)) pss_nil)
 (pss_one (ps_if (pt_cmpR op_ne (pe_callB (cr_sumK rfl) (by rfl) T.z_sum (by decide +kernel) (pa_cons (pe_lc (own := [("_law_k", 15)]) (g := (gName 15)) (tt := tYes) rfl sc_law.nd (pi_range1 (by rfl) T.z_range (pa_cons (pv 5) pa_nil)) (blkOk_by (own := [("_law_k", 15)]) (N := n_law) (sc := defScope s_law) (by decide +kernel)) (fun _ _ _ _ _ => (pg_name (i := 15) sc_law.nd rfl (.inl rfl))) (fun _ _ _ _ _ => pts_nil) (fun _ _ _ _ _ => (pe_callB call_abs (by rfl) T.z_abs (by decide +kernel) (pa_cons (pe_op op_sub (pe_ix (show IxR _ (rIxT K) from ix_tup) (pv 12) (pv 15) (fun _ _ => rfl)) (pe_ix (show IxR _ (rIxT K) from ix_tup) (pv 4) (pv 15) (fun _ _ => rfl))) pa_nil)))) pa_nil)) (pe_op op_mul pe_int (pv 8)) (nomark _)) (pss_one (ps_ret pe_bl)) pss_nil))))) pss_nil)
 (pss_cons (ps_set (i := 13) sc_law.nd rfl (.inl rfl) (pe_own k__law_taken (hr.mono (by decide)) (by rfl) (pa_cons (pv 1) (pa_cons pe_int pa_nil))))
 (pss_cons (ps_set (i := 14) sc_law.nd rfl (.inl rfl) (pe_own k_best_word (hr.mono (by decide)) (by rfl) (pa_cons (pv 2) (pa_cons (pv 13) pa_nil))))
 (pss_one (ps_ret (pe_or (pe_cmpR op_isN (pv 14) pe_non (nomark _)) (pe_one (pe_cmpR op_le (pe_ix ix_tup (pv 14) pe_int (fun _ _ => rfl)) (pe_callB (cr_minK' rfl (hu_of hr)) (by rfl) T.z_min (by decide +kernel) (pa_cons (pe_lc (own := [("_law_one", 16)]) (g := (gName 16)) rfl sc_law.nd (pi_list (pe_lc (own := [("_law_word_here", 6)]) (g := (gName 6)) (tt := tYes) rfl sc_law.nd (pi_list (pe_own k__law_all_words (hr.mono (by decide)) (by rfl) (pa_cons (pv 5) (pa_cons (pv 13) pa_nil)))) (blkOk_by (own := [("_law_word_here", 6)]) (N := n_law) (sc := defScope s_law) (by decide +kernel)) (fun _ _ _ _ _ => (pg_name (i := 6) sc_law.nd rfl (.inl rfl))) (fun _ _ _ _ _ => pts_nil) (fun _ _ _ _ _ => (pe_own k_fewest_shifted (hr.mono (by decide)) (by rfl) (pa_cons (pv 2) (pa_cons (pv 6) pa_nil)))))) (blkOk_by (own := [("_law_one", 16)]) (N := n_law) (sc := defScope s_law) (by decide +kernel)) (fun _ _ _ _ _ => (pg_name (i := 16) sc_law.nd rfl (.inl rfl))) (fun _ _ _ _ _ => pts_one (pt_cmpR op_notN (pv 16) pe_non (nomark _))) (fun _ _ _ _ _ => (pv 16))) pa_nil)) (nomark _)))))))))))))))))))))), ?_⟩
    refine ⟨_, rfl, small_size (show 4 ≤ 1000 by decide), fun r nr => ?_⟩
    have hR : RowAt K (upd H r (.lst [V.ref a, V.int 0, V.int 9882, V.int 0])) r a ns := ⟨⟨0, 9882, 0, upd_same, by decide, by decide, by decide, by decide⟩, fun H' k => seq_new nr hS k⟩
    refine ⟨_, rfl, _, rfl, small_size (show 2 ≤ 1000 by decide), fun t0 nt0 => ?_⟩
    have st0 := same_upd (o := .lst [V.int 4, V.int 12]) nt0
    refine ⟨r, t0, [4, 12], a, ns, rfl, hR.same st0, fun e => (by rw [e, upd_same] at nt0; cases nt0), upd_same, by simp, by decide, fun H1 top kb1 hR1 htop => ?_⟩
    have k1 := (KeepBut.of st0).trans kb1
    have htop2 : 1 ≤ top ∧ top ≤ 12 := by
      simp only [List.mem_cons, List.mem_nil_iff, or_false] at htop
      omega
    refine ⟨r, top, a, ns, rfl, hR.next k1 hR1, htop2, fun H2 tv f cs kb2 hR2 hTab ok hsum => ?_⟩
    have k2 := k1.trans kb2
    obtain ⟨ta, c, rfl, hT, hC⟩ := id hTab
    have n4 := ok.n4
    have n1 := ok.n1
    have fac := ok.fac
    have snn := sum_nn ok.lo
    have sne := ok.ne
    refine ⟨_, rfl, ta, _, rfl, hT, rfl, _, _, rfl, _, _, rfl, rfl, ?_⟩
    refine ⟨_, rfl, c, _, rfl, .inr hC, ?_⟩
    rw [List.length_map]
    refine ⟨fun σ' H' => KeepBut r H2 H' ∧ RowNum H' r a ∧ ∃ wa u, OkWord cs.length u ∧ SqT K H' wa ((wi u).map V.int) ∧ σ' = lσ a r ta c f cs.length (some (.ref wa)) none none none none none none none none, ?_, ?_⟩
    · refine ⟨_, rfl, _, rfl, _, rfl, _, _, rfl, rfl, _, rfl, ite2 (fun e => ?_) (fun e => ?_)⟩
      · exact ⟨r, cs.length, 4, a, ns, rfl, hR.next k2 hR2, ⟨n1, n4⟩, by decide, fun H3 p u kb3 hR3 okw hw => ⟨kb3, hR3, p, u, okw, hw, rfl⟩⟩
      · exact ⟨r, cs.length, 2, a, ns, rfl, hR.next k2 hR2, ⟨n1, n4⟩, by decide, fun H3 p u kb3 hR3 okw hw => ⟨kb3, hR3, p, u, okw, hw, rfl⟩⟩
    rintro σ H3 ⟨kb3, hR3, wa, u, okw, hw, rfl⟩
    obtain ⟨ys2, hr2⟩ := hR2.some
    have k3 := k2.trans kb3
    have hT3 := kb3.tup hr2 hT
    have hC3 := kb3.tup hr2 hC
    have hTab3 : TabAt K H3 (.ref ta) f cs := ⟨ta, c, rfl, hT3, hC3⟩
    have hW3 : IntsT K H3 (.ref wa) (wi u) := ⟨wa, rfl, hw⟩
    refine ⟨_, rfl, _, rfl, _, _, f, cs, u, rfl, hTab3, ok, hW3, okw, fun H4 s4 => ?_⟩
    refine ⟨_, rfl, _, rfl, _, _, f, cs, u, rfl, hTab3.same s4, ok, hW3.same s4, okw, fun H5 s5 => ?_⟩
    have s35 := s4.trans s5
    refine ⟨_, rfl, _, rfl, _, _, f, cs, u, rfl, hTab3.same s35, ok, hW3.same s35, okw, fun H6 g s6 hg => ?_⟩
    have s36 := s35.trans s6
    refine ⟨_, _, _, rfl, ?_⟩
    have e1 : decide (optV (fewest f cs u) = V.int 0) = canB f cs u := by
      rw [optV_zero, Bool.eq_iff_iff, decide_eq_true_iff]
      exact few_zero fac cs u
    have e2 : decide (V.int g = V.int 0) = canB f cs u := by
      rw [Bool.eq_iff_iff, decide_eq_true_iff, ← gift_zero fac hg]
      exact ⟨fun e => V.int.inj e, fun e => by rw [e]⟩
    refine ⟨_, rfl, optV_scal _, _, rfl, rfl, false, bl_eq e1, iteF ?_⟩
    refine ⟨_, rfl, rfl, _, rfl, rfl, false, bl_eq e2, iteF ?_⟩
    refine ⟨_, rfl, rfl, _, rfl, _, rfl, _, rfl, false, c, cs, rfl, sameT s36 hC3, _, rfl, f, cs.length, cs.sum, _, u, rfl, fac, ⟨n1, n4⟩, ⟨by omega, hsum⟩, hW3.same s36, okw, fun H7 rr s7 r1 r2 => ?_⟩
    have s37 := s36.trans s7
    have e3 : decide (optV (fewest f cs u) = V.non) = decide (V.int rr = V.int 0) := by
      rw [optV_none]
      cases hf : fewest f cs u with
      | none =>
        have : ¬ sumLeast f cs.length cs.sum u ≤ cs.sum := fun z => by
          rw [fewest_some z] at hf
          cases hf
        rw [r1 (by omega)]
        rfl
      | some z =>
        have : sumLeast f cs.length cs.sum u ≤ cs.sum := few_iff.mp (by rw [hf]; rfl)
        have := r2 this
        rw [decide_eq_false (fun e => by have := V.int.inj e; omega)]
        rfl
    refine ⟨rfl, rfl, false, bl_eq e3, iteF ?_⟩
    refine ⟨_, rfl, _, rfl, _, _, f, cs, u, rfl, hTab3.same s37, ok, hW3.same s37, okw, fun H8 mp g' s8 hg' hmp => ?_⟩
    have eg := hg'.uniq hg
    subst eg
    have s38 := s37.trans s8
    obtain ⟨gl, gs, gn, gp⟩ := gifts_all n1 hg'
    refine ⟨_, rfl, _, rfl, by omega, by omega, fun D1 nD => lc_map nD (walk_range (lo := 0) (n := ((cs.length : Nat) : Int).toNat)) ((addL cs (giftsL f cs u g')).map V.int) (by unfold addL; rw [List.length_map, List.length_zipWith, gl]; omega) (by omega) (fun _ _ => trivial) ?_ ?_ gName_mono⟩
    · rintro i x H9 H10 C hi s9 ⟨rfl, rfl⟩ h1
      rw [Int.toNat_natCast] at hi
      have hi2 : i < (giftsL f cs u g').length := by omega
      have s39 := s38.trans s9
      refine ⟨rfl, _, rfl, _, rfl, c, _, _, _, rfl, rfl, sameT s39 hC3, getA hi, _, rfl, _, rfl, mp, _, _, _, rfl, rfl, sameT s9 hmp, getA hi2, _, _, rfl, rfl, h1 _ _ (Same.refl _) ?_⟩
      refine getI ?_
      unfold addL
      rw [List.getElem?_zipWith, List.getElem?_eq_getElem hi, List.getElem?_eq_getElem hi2]
    · intro H9 s9 eD
      refine ⟨D1, _, rfl, .inl ⟨.of eD, fun tp ntp => ?_⟩⟩
      have stp := same_upd (o := .tup ((addL cs (giftsL f cs u g')).map V.int)) ntp
      have s8t := s9.trans stp
      have s3t := s38.trans s8t
      generalize hH10 : upd H9 tp (.tup ((addL cs (giftsL f cs u g')).map V.int)) = H10 at *
      have htp : SqT K H10 tp ((addL cs (giftsL f cs u g')).map V.int) := by
        rw [← hH10]
        exact .of upd_same
      have hmp10 := sameT s8t hmp
      have al : (addL cs (giftsL f cs u g')).length = cs.length := by unfold addL; rw [List.length_zipWith, gl]; omega
      have as : (addL cs (giftsL f cs u g')).sum = cs.sum + g' := by rw [add_sum gl.symm, gs]
      have anz : addL cs (giftsL f cs u g') ≠ [] := fun e => by rw [e] at al; have : (0 : Nat) = cs.length := al; omega
      have gne : giftsL f cs u g' ≠ [] := fun e => by rw [e] at gl; have : (0 : Nat) = cs.length := gl; omega
      have acan : canB f (addL cs (giftsL f cs u g')) u = true := by
        rw [can_iff fac, al, as]
        exact gp
      have gnn := hg'.nn
      have lnn : ∀ x ∈ least f cs.length (cs.sum + g') u, 0 ≤ x := ceil_nonneg' fac (by omega)
      have ann : ∀ x ∈ addL cs (giftsL f cs u g'), 0 ≤ x := fun x hx => by
        obtain ⟨i, hi⟩ := List.mem_iff_getElem?.mp hx
        have hlt : i < (least f cs.length (cs.sum + g') u).length := by
          rw [least_len, ← al]
          exact (List.getElem?_eq_some_iff.mp hi).1
        have := gp i _ x (List.getElem?_eq_getElem hlt) hi
        have := lnn _ (List.getElem_mem hlt)
        omega
      refine ⟨_, rfl, false, mp, _, rfl, hmp10, _, rfl, rfl, false, int_eq gs, iteF ?_⟩
      refine ⟨_, rfl, false, mp, _, rfl, hmp10, gne, fun m hm _ => ⟨_, _, rfl, rfl, false, ?_, iteF ?_⟩⟩
      · have := gn m hm
        exact lt_eq (by omega)
      refine ⟨_, rfl, _, rfl, _, rfl, _, _, _, f, cs, u, _, rfl, hTab3.same s3t, ok, hW3.same s3t, okw, ⟨mp, rfl, hmp10⟩, gl, gn, by rw [gs]; exact hg', fun H11 s11 => ?_⟩
      refine ⟨_, _, rfl, rfl, false, true_eq acan, iteF ?_⟩
      have s3u := s3t.trans s11
      refine ⟨_, rfl, false, tp, _, rfl, sameT s11 htp, _, rfl, _, rfl, _, rfl, f, cs.length, _, u, rfl, fac, ⟨n1, n4⟩, hW3.same s3u, okw, fun H12 x s12 hx => ?_⟩
      have s3v := s3u.trans s12
      have hx2 : x ≤ cs.sum + g' := hx _ (by omega) (by
        have h1 := LeP.sum (by rw [least_len, al]) gp
        unfold sumLeast
        omega)
      refine ⟨_, _, rfl, rfl, false, lt_eq (by omega), iteF ?_⟩
      have htp12 := sameT (s11.trans s12) htp
      refine ⟨fun σ' H' => Same H12 H' ∧ σ' = lσ a r ta c f cs.length (some (.ref wa)) (some (.bl (canB f cs u))) (some (optV (fewest f cs u))) (some (.int g')) (some (.ref mp)) (some (.ref tp)) none none none, ?_, ?_⟩
      · refine ⟨_, rfl, false, tp, _, rfl, htp12, anz, fun m hm hle => ⟨_, _, rfl, rfl, _, rfl, ite2 (fun e => ?_) (fun e => ?_)⟩⟩
        · have hm2 : m ≤ 1000000 := of_decide_eq_true e
          refine ⟨_, rfl, _, rfl, small_size (show 2 ≤ 1000 by decide), fun t nt => ?_⟩
          have st := same_upd (o := .tup [V.int f, V.ref tp]) nt
          refine ⟨_, rfl, _, _, f, addL cs (giftsL f cs u g'), u, rfl, ⟨t, tp, rfl, .of upd_same, sameT st htp12⟩, ⟨ok.f2, ok.f9, by omega, by omega, ann, fun x hx => by have := hle x hx; omega, by omega⟩, hW3.same (s3v.trans st), by rw [al]; exact okw, fun H13 s13 => ?_⟩
          exact ⟨_, _, rfl, rfl, false, true_eq acan, iteF ⟨st.trans s13, rfl⟩⟩
        · exact iteF ⟨Same.refl _, rfl⟩
      rintro σ H13 ⟨s13, rfl⟩
      have s3w := s3v.trans s13
      refine ⟨fun σ' H' => Same H13 H' ∧ ∃ y12, σ' = lσ a r ta c f cs.length (some (.ref wa)) (some (.bl (canB f cs u))) (some (optV (fewest f cs u))) (some (.int g')) (some (.ref mp)) (some (.ref tp)) y12 none none, ?_, ?_⟩
      · have hC13 := sameT s3w hC3
        cases hf : fewest f cs u with
        | none => exact ⟨_, rfl, rfl, false, rfl, iteF ⟨Same.refl _, none, rfl⟩⟩
        | some z =>
          have hle : sumLeast f cs.length cs.sum u ≤ cs.sum := few_iff.mp (by rw [hf]; rfl)
          have hz : z = (lacksL (LT f cs u) cs).sum := by
            rw [fewest_some hle] at hf
            exact (Option.some.inj hf).symm
          have ll : (LT f cs u).length = cs.length := least_len ..
          have hup := up_sum ll
          have hln := lacks_nn (LT f cs u) cs
          have hle2 : (LT f cs u).sum ≤ cs.sum := hle
          obtain ⟨b1, b2, b3, b4⟩ := shift_all (left := z) ll (by omega) (by omega)
          have hmx := mx_sum ll
          generalize hbs : shiftF z (cs.zip (LT f cs u)) = bs at *
          have bl : bs.length = cs.length := by
            rw [← hbs, shiftF_len, List.length_zip, ll]
            omega
          have bsum : bs.sum = cs.sum := by omega
          have lnn2 : ∀ x ∈ LT f cs u, 0 ≤ x := ceil_nonneg' fac snn
          have bnn : ∀ x ∈ bs, 0 ≤ x := fun x hx => by
            obtain ⟨i, hi⟩ := List.mem_iff_getElem?.mp hx
            have hlt : i < (LT f cs u).length := by
              rw [ll, ← bl]
              exact (List.getElem?_eq_some_iff.mp hi).1
            have := b2 i _ x (List.getElem?_eq_getElem hlt) hi
            have := lnn2 _ (List.getElem_mem hlt)
            omega
          have bcan : canB f bs u = true := by
            rw [can_iff fac, bl, bsum]
            exact b2
          refine ⟨_, rfl, rfl, true, rfl, iteT ?_⟩
          refine ⟨_, rfl, _, rfl, _, _, f, cs, u, z, rfl, hTab3.same s3w, ok, hW3.same s3w, okw, hle, hz, fun H14 bp s14 hbp => ?_⟩
          rw [hbs] at hbp
          have t4 := s3w.trans s14
          refine ⟨_, rfl, false, bp, bs, rfl, hbp, _, rfl, false, c, cs, rfl, sameT t4 hC3, rfl, false, int_eq bsum, iteF ?_⟩
          refine ⟨_, rfl, _, rfl, small_size (show 2 ≤ 1000 by decide), fun t nt => ?_⟩
          have st := same_upd (o := .tup [V.int f, V.ref bp]) nt
          refine ⟨_, rfl, _, _, f, bs, u, rfl, ⟨t, bp, rfl, .of upd_same, sameT st hbp⟩, ⟨ok.f2, ok.f9, by omega, by omega, bnn, fun x hx => by have := sum_pos_of_mem bnn hx; omega, by omega⟩, hW3.same (t4.trans st), by rw [bl]; exact okw, fun H15 s15 => ?_⟩
          refine ⟨_, _, rfl, rfl, false, true_eq bcan, iteF ?_⟩
          have t14 := st.trans s15
          have t5 := t4.trans t14
          refine ⟨_, rfl, _, rfl, _, rfl, _, _, _, f, cs, u, bs, rfl, hTab3.same t5, ok, hW3.same t5, okw, ⟨bp, rfl, sameT t14 hbp⟩, bl, bnn, bsum, by rw [hf, b3, hz], fun H16 s16 => ?_⟩
          refine ⟨_, _, rfl, rfl, false, true_eq bcan, iteF ?_⟩
          have t15 := t14.trans s16
          have t6 := t4.trans t15
          refine ⟨_, rfl, _, rfl, by omega, by omega, fun D2 nD2 => lc_map nD2 (walk_range (lo := 0) (n := ((cs.length : Nat) : Int).toNat)) ((absL bs cs).map V.int) (by unfold absL; rw [List.length_map, List.length_zipWith, bl]; omega) (by omega) (fun _ _ => trivial) ?_ ?_ gName_mono⟩
          · rintro i x H17 H18 C hi s17 ⟨rfl, rfl⟩ h1
            rw [Int.toNat_natCast] at hi
            have hi2 : i < bs.length := by omega
            refine ⟨rfl, _, rfl, _, rfl, bp, _, _, _, rfl, rfl, sameT (t15.trans s17) hbp, getA hi2, _, rfl, _, rfl, c, _, _, _, rfl, rfl, sameT (t6.trans s17) hC3, getA hi, _, _, rfl, rfl, _, rfl, h1 _ _ (Same.refl _) ?_⟩
            refine getI ?_
            unfold absL
            rw [List.getElem?_zipWith, List.getElem?_eq_getElem hi, List.getElem?_eq_getElem hi2]
            rfl
          · intro H17 s17 eD2
            refine ⟨true, D2, _, rfl, .of eD2, _, rfl, 2, z, rfl, rfl, .inl ⟨by decide, by decide⟩, rfl, false, int_eq (by omega), iteF ?_⟩
            exact ⟨s14.trans (t15.trans s17), some (.ref bp), rfl⟩
      rintro σ H14 ⟨s14, y12, rfl⟩
      have s3x := s3w.trans s14
      have hR14 := hR3.same s3x
      obtain ⟨ys14, hr14⟩ := hR14.some
      refine ⟨_, rfl, r, 3, a, ns, rfl, hR.next (k3.trans (.of s3x)) hR14, by decide, by decide, fun H15 k kb15 hR15 hk => ?_⟩
      have hk2 : k ≤ 2 := by omega
      have hTab15 := (hTab3.same s3x).keep kb15 hr14
      refine ⟨_, rfl, _, rfl, _, k, f, cs, rfl, hk2, hTab15, ok, few_nil fac snn, fun H16 s16 => ?_, fun H16 p m qq s16 hp hne hmin => ?_⟩
      · exact ⟨_, rfl, rfl, true, rfl, iteT (q _)⟩
      · have hTab16 := hTab15.same s16
        refine ⟨_, rfl, rfl, false, rfl, iteF ?_⟩
        refine ⟨_, rfl, p, _, 0, .int m, rfl, rfl, hp, atI_nat (j := 0) rfl, ?_⟩
        refine ⟨_, rfl, _, rfl, cs.length, k, rfl, n4, hk2, fun H17 wl s17 hWL => ?_⟩
        obtain ⟨ps, hwl, hpL, hps⟩ := hWL
        have lw := allW_len cs.length n4 k hk2
        have lw2 := pow4 hk2
        have lps : ps.length = (allW cs.length k).length := by rw [← hpL, List.length_map]
        have hTab17 := hTab16.same s17
        refine ⟨wl, rfl, ⟨_, .of hwl⟩, fun D1 nD => lc_map nD (walk_list (xs := ps.map fun p => V.ref p.1)) ((allW cs.length k).map fun u => optV (fewest f cs u)) (by rw [List.length_map, List.length_map, lps]) (by rw [List.length_map]; omega) (fun H18 s18 => .of (s18 _ _ hwl)) ?_ ?_ gName_mono⟩
        · rintro i x H18 H19 C hi s18 ⟨rfl, ex⟩ h1
          obtain ⟨pp, ep, rfl⟩ := wp_get ex
          have hpm := List.mem_of_getElem? ep
          have hu2 : (allW cs.length k)[i]? = some pp.2 := by rw [← hpL, List.getElem?_map, ep]; rfl
          obtain ⟨w1, w2⟩ := allW_ok (List.mem_of_getElem? hu2)
          refine ⟨rfl, _, rfl, _, rfl, _, _, f, cs, pp.2, rfl, hTab17.same s18, ok, ⟨pp.1, rfl, sameT s18 (hps pp hpm)⟩, ⟨w1, by omega⟩, fun H20 s20 => h1 _ _ s20 ?_⟩
          rw [List.getElem?_map, hu2]
          rfl
        · intro H18 s18 eD
          refine ⟨D1, rfl, ⟨_, .of eD⟩, fun D2 nD2 => lc_all nD2 (walk_list (xs := (allW cs.length k).map fun u => optV (fewest f cs u))) ((allW cs.length k).map fun u => (fewest f cs u).map V.int) (by rw [List.length_map, List.length_map]) (by rw [List.length_map]; omega) (fun H19 s19 => .of (s19 _ _ eD)) ?_ ?_⟩
          · rintro i x H19 H20 C N hi s19 ⟨rfl, ex⟩ g1 g2
            rw [List.getElem?_map] at ex
            cases eu : (allW cs.length k)[i]? with
            | none => rw [eu] at ex; cases ex
            | some u2 =>
              rw [eu] at ex
              have ex2 : optV (fewest f cs u2) = x := Option.some.inj ex
              have eget : ((allW cs.length k).map fun u => (fewest f cs u).map V.int)[i]? = some ((fewest f cs u2).map V.int) := by
                rw [List.getElem?_map, eu]
                rfl
              cases hf2 : fewest f cs u2 with
              | none =>
                rw [hf2] at eget ex2
                have ex3 : V.non = x := ex2
                subst ex3
                exact ⟨rfl, _, rfl, rfl, false, rfl, iteF (g2 _ (Same.refl _) eget)⟩
              | some z2 =>
                rw [hf2] at eget ex2
                have ex3 : V.int z2 = x := ex2
                subst ex3
                exact ⟨rfl, _, rfl, rfl, true, rfl, iteT ⟨_, rfl, g1 _ _ (Same.refl _) eget⟩⟩
          · intro H19 s19 eD2
            rw [filt_opt] at eD2
            have inall : ∀ u2 z2, u2 ∈ allW cs.length k → fewest f cs u2 = some z2 → m ≤ z2 := fun u2 z2 h1 h2 => hmin u2 (wordsF_mem fac snn h1 (by rw [h2]; rfl)) z2 h2
            refine ⟨true, D2, _, rfl, .of eD2, ?_, fun mm hm _ => ⟨_, _, rfl, rfl, ?_⟩⟩
            · intro e
              obtain ⟨u2, hu2⟩ := List.exists_mem_of_ne_nil _ hne
              have hs2 := wordsF_some (few_nil fac snn) hu2
              obtain ⟨z2, hz2⟩ := Option.isSome_iff_exists.mp hs2
              have : z2 ∈ (allW cs.length k).filterMap (fewest f cs) := List.mem_filterMap.mpr ⟨u2, wordsF_sub hu2, hz2⟩
              rw [e] at this
              cases this
            · obtain ⟨u2, hu2, hz2⟩ := List.mem_filterMap.mp hm
              have h5 := inall u2 mm hu2 hz2
              show Q (.bl (decide (m ≤ mm))) H19
              rw [decide_eq_true h5]
              exact q _
end
end Dp
set_option maxHeartbeats 4000000
namespace Dp
open PySem PySem.Spec PyProof.Rows L2
structure Owns (K : PySem.W.Frag) (mg : Str → Option Value) : Prop where
  d_is_in : Own K mg "is_in" s_is_in p_is_in
  d_is_factor : Own K mg "is_factor" s_is_factor p_is_factor
  d_need_table : Own K mg "need_table" s_need_table p_need_table
  d_need_factor : Own K mg "need_factor" s_need_factor p_need_factor
  d_need_players : Own K mg "need_players" s_need_players p_need_players
  d_need_whole : Own K mg "need_whole" s_need_whole p_need_whole
  d_is_whole : Own K mg "is_whole" s_is_whole p_is_whole
  d_need_word : Own K mg "need_word" s_need_word p_need_word
  d_power : Own K mg "power" s_power p_power
  d_numbers_in : Own K mg "numbers_in" s_numbers_in p_numbers_in
  d_least_in : Own K mg "least_in" s_least_in p_least_in
  d_after_in : Own K mg "after_in" s_after_in p_after_in
  d_can_pay_word : Own K mg "can_pay_word" s_can_pay_word p_can_pay_word
  d_need_goal : Own K mg "need_goal" s_need_goal p_need_goal
  d_need_small : Own K mg "need_small" s_need_small p_need_small
  d_need_both : Own K mg "need_both" s_need_both p_need_both
  d_need_short : Own K mg "need_short" s_need_short p_need_short
  d_need_given : Own K mg "need_given" s_need_given p_need_given
  d_whole_in : Own K mg "whole_in" s_whole_in p_whole_in
  d_least_whole : Own K mg "least_whole" s_least_whole p_least_whole
  d_chosen : Own K mg "chosen" s_chosen p_chosen
  d_ways : Own K mg "ways" s_ways p_ways
  d_count_in : Own K mg "count_in" s_count_in p_count_in
  d_table_count : Own K mg "table_count" s_table_count p_table_count
  d_lacks : Own K mg "lacks" s_lacks p_lacks
  d_fewest_in : Own K mg "fewest_in" s_fewest_in p_fewest_in
  d_fewest_shifted : Own K mg "fewest_shifted" s_fewest_shifted p_fewest_shifted
  d_shifted : Own K mg "shifted" s_shifted p_shifted
  d_is_coins : Own K mg "is_coins" s_is_coins p_is_coins
  d_shows_shift : Own K mg "shows_shift" s_shows_shift p_shows_shift
  d_gift_in : Own K mg "gift_in" s_gift_in p_gift_in
  d_least_gift : Own K mg "least_gift" s_least_gift p_least_gift
  d_gifts : Own K mg "gifts" s_gifts p_gifts
  d_shows_gifts : Own K mg "shows_gifts" s_shows_gifts p_shows_gifts
  d_best_word : Own K mg "best_word" s_best_word p_best_word
  d__law_taken : Own K mg "_law_taken" s__law_taken p__law_taken
  d__law_pick : Own K mg "_law_pick" s__law_pick p__law_pick
  d__law_word : Own K mg "_law_word" s__law_word p__law_word
  d__law_all_words : Own K mg "_law_all_words" s__law_all_words p__law_all_words
  d__law_table : Own K mg "_law_table" s__law_table p__law_table
section
variable {P : Program} {w : World} {K : PySem.W.Frag} {mg : Str → Option Value} {base : Heap}
theorem wire (T : Env mg) (O : Owns K mg) {f : Addr} {fd : FuncData} (F : Fun K "law" "law" s_law f fd) : FnOk P w K mg base CX0 7 f fd p_law (spLaw K) := by
  have k_is_in := kept_is_in (P := P) (w := w) (base := base) T O.d_is_in
  have k_is_factor := kept_is_factor (P := P) (w := w) (base := base) T O.d_is_factor k_is_in
  have k_need_table := kept_need_table (P := P) (w := w) (base := base) T O.d_need_table k_is_in k_is_factor
  have k_need_factor := kept_need_factor (P := P) (w := w) (base := base) T O.d_need_factor k_is_factor
  have k_need_players := kept_need_players (P := P) (w := w) (base := base) T O.d_need_players k_is_in
  have k_need_whole := kept_need_whole (P := P) (w := w) (base := base) T O.d_need_whole k_is_in
  have k_is_whole := kept_is_whole (P := P) (w := w) (base := base) T O.d_is_whole
  have k_need_word := kept_need_word (P := P) (w := w) (base := base) T O.d_need_word k_is_in
  have k_power := kept_power (P := P) (w := w) (base := base) T O.d_power
  have k_numbers_in := kept_numbers_in (P := P) (w := w) (base := base) T O.d_numbers_in
  have k_least_in := kept_least_in (P := P) (w := w) (base := base) T O.d_least_in k_power k_numbers_in
  have k_after_in := kept_after_in (P := P) (w := w) (base := base) T O.d_after_in k_power k_numbers_in
  have k_can_pay_word := kept_can_pay_word (P := P) (w := w) (base := base) T O.d_can_pay_word k_need_table k_need_word k_after_in
  have k_need_goal := kept_need_goal (P := P) (w := w) (base := base) T O.d_need_goal k_need_factor k_need_players k_need_word
  have k_need_small := kept_need_small (P := P) (w := w) (base := base) T O.d_need_small k_power
  have k_need_both := kept_need_both (P := P) (w := w) (base := base) T O.d_need_both k_need_table k_need_word
  have k_need_short := kept_need_short (P := P) (w := w) (base := base) T O.d_need_short k_need_both k_need_small
  have k_need_given := kept_need_given (P := P) (w := w) (base := base) T O.d_need_given k_need_factor k_need_players k_need_whole k_need_word
  have k_whole_in := kept_whole_in (P := P) (w := w) (base := base) T O.d_whole_in k_least_in
  have k_least_whole := kept_least_whole (P := P) (w := w) (base := base) T O.d_least_whole k_need_goal k_need_small k_whole_in
  have k_chosen := kept_chosen (P := P) (w := w) (base := base) T O.d_chosen
  have k_ways := kept_ways (P := P) (w := w) (base := base) T O.d_ways k_chosen
  have k_count_in := kept_count_in (P := P) (w := w) (base := base) T O.d_count_in k_ways k_least_in
  have k_table_count := kept_table_count (P := P) (w := w) (base := base) T O.d_table_count k_need_given k_count_in
  have k_lacks := kept_lacks (P := P) (w := w) (base := base) T O.d_lacks k_least_in
  have k_fewest_in := kept_fewest_in (P := P) (w := w) (base := base) T O.d_fewest_in k_lacks
  have k_fewest_shifted := kept_fewest_shifted (P := P) (w := w) (base := base) T O.d_fewest_shifted k_need_both k_fewest_in
  have k_shifted := kept_shifted (P := P) (w := w) (base := base) T O.d_shifted k_need_both k_lacks k_least_in
  have k_is_coins := kept_is_coins (P := P) (w := w) (base := base) T O.d_is_coins k_is_whole
  have k_shows_shift := kept_shows_shift (P := P) (w := w) (base := base) T O.d_shows_shift k_need_both k_fewest_in k_is_coins k_after_in
  have k_gift_in := kept_gift_in (P := P) (w := w) (base := base) T O.d_gift_in k_least_in
  have k_least_gift := kept_least_gift (P := P) (w := w) (base := base) T O.d_least_gift k_need_short k_gift_in
  have k_gifts := kept_gifts (P := P) (w := w) (base := base) T O.d_gifts k_need_short k_gift_in
  have k_shows_gifts := kept_shows_gifts (P := P) (w := w) (base := base) T O.d_shows_gifts k_need_short k_gift_in k_is_coins k_after_in
  have k_best_word := kept_best_word (P := P) (w := w) (base := base) T O.d_best_word k_need_table k_is_in k_lacks k_fewest_in
  have k__law_taken := kept__law_taken (P := P) (w := w) (base := base) T O.d__law_taken
  have k__law_pick := kept__law_pick (P := P) (w := w) (base := base) T O.d__law_pick k__law_taken
  have k__law_word := kept__law_word (P := P) (w := w) (base := base) T O.d__law_word k__law_taken
  have k__law_all_words := kept__law_all_words (P := P) (w := w) (base := base) T O.d__law_all_words
  have k__law_table := kept__law_table (P := P) (w := w) (base := base) T O.d__law_table k__law_taken k__law_pick
  exact ok_law T k__law_table k__law_pick k__law_word k__law_taken k__law_all_words k_can_pay_word k_fewest_shifted k_least_gift k_table_count k_gifts k_shows_gifts k_least_whole k_shifted k_shows_shift k_best_word f fd F
end
/-- Own, K told by X (so that K stands as it is written) -/
abbrev OwnAt {K : PySem.W.Frag} {h : Heap} (_ : K.In h) (mg : Str → Option Value) (x : Str) (st : Stmt) (ps : List Str) : Prop := Own K mg x st ps
theorem own_mk {K : PySem.W.Frag} {h : Heap} {mg : Str → Option Value} {x : Str} {st : Stmt} {ps : List Str} {f : Addr} (X : K.In h) (G : h.Ns mainGlobals mg) {od an : Option Addr} {sl : Array (Option Value)} {oc kV dc pm cd ct : Value}
    (a : PySem.W.nsIn K mainGlobals x = some (some (.ref f))) (l : K.lookup f = some ⟨oc, od, .func (PySem.W.fnOf x x (defArgs st) (defBody st) (defScope st) .none kV dc pm an cd ct), sl⟩) (c : PySem.W.codeIn K cd x = true) (k : PySem.W.keepIn K (.ref f) = true)
    (b : ∀ (kV doc pm : Value) (an : Option Addr) (cdv ct : Value) (us : List Value), us.length = ps.length → bindArgs (PySem.W.fnOf x x (defArgs st) (defBody st) (defScope st) .none kV doc pm an cdv ct) ⟨us, []⟩ = pure (ps.zip us)) : OwnAt X mg x st ps := by
  have F := fun_mk (st := st) l c k
  exact ⟨f, _, F, PySem.W.mg_of X G a, F.binds b⟩
theorem law_mk {l : PySem.W.OpenLaw} {w : World} {K : PySem.W.Frag} {h : Heap} {mg : Str → Option Value} {fa f : Addr} (X : K.In h) (G : h.Ns mainGlobals mg) (hfa : mg "law" = some (.ref fa)) (T : Env mg) (O : Owns K mg)
    {od an : Option Addr} {sl : Array (Option Value)} {oc kV dc pm cd ct : Value}
    (a : PySem.W.nsIn K mainGlobals "law" = some (some (.ref f))) (lk : K.lookup f = some ⟨oc, od, .func (PySem.W.fnOf "law" "law" (defArgs s_law) (defBody s_law) (defScope s_law) .none kV dc pm an cd ct), sl⟩) (c : PySem.W.codeIn K cd "law" = true) (k : PySem.W.keepIn K (.ref f) = true) :
    ∃ fd : FuncData, (∀ (s : Shared) (v : Value), BindsTo s fd ⟨[v], []⟩ [("_law_script", v)]) ∧ ∀ base : Heap, K.In base → base.Ns mainGlobals mg → FnOk l.prog w K mg base CX0 7 fa fd ["_law_script"] (spLaw K) := by
  have e := hfa.symm.trans (PySem.W.mg_of X G a)
  cases e
  exact ⟨PySem.W.fnOf "law" "law" (defArgs s_law) (defBody s_law) (defScope s_law) .none kV dc pm an cd ct, fun s v => .of_eq rfl, fun base _ _ => wire T O (fun_mk (st := s_law) lk c k)⟩
theorem const_mk {K : PySem.W.Frag} {h : Heap} {mg : Str → Option Value} {x : Str} {n : Int} {t : PySem.Tok} (X : K.In h) (G : h.Ns mainGlobals mg) (a : PySem.W.nsIn K mainGlobals x = some (some (.int n t))) : ∃ t, mg x = some (.int n t) := ⟨t, PySem.W.mg_of X G a⟩
theorem walk {l : PySem.W.OpenLaw} {q : Program} {loose : List Str} {XP : (Str → Option Value) → Heap → Prop} {YP : World → Heap → Prop} {d : DefRec} {K : Params → PySem.W.Frag} (hn : l.most = some 63) (hdf : d.params.defaults = [])
    (hY : ∀ (w : World) (h : Heap), YP w h → (K w.params).In h)
    (F : ∀ (w : World) (mg : Str → Option Value) (fa : Addr) (h : Heap), (K w.params).In h → h.Ns mainGlobals mg → mg d.name = some (.ref fa) →
      ∃ fd : FuncData, (∀ (s : Shared) (u : Value), BindsTo s fd ⟨[u], []⟩ [("_law_script", u)]) ∧ ∀ base : Heap, (K w.params).In base → base.Ns mainGlobals mg → FnOk l.prog w (K w.params) mg base CX0 7 fa fd ["_law_script"] (spLaw (K w.params))) :
    PySem.W.WalkO q loose XP YP l.row.toRowW d [] (fun f vs => PySem.call f vs) :=
  L2.walk_of (n := 63) (k := 7) (x := "_law_script") (CX := fun _ => CX0) (sp := fun w => spLaw (K w.params)) hn (by decide) hdf ⟨rfl, by decide, by decide⟩ hY F (fun _ _ a ns _ _ hS => ⟨a, ns, rfl, hS, fun _ => rfl⟩) fun _ _ _ _ _ z => z
end Dp
open PySem PySem.W PyProof.Rows
set_option maxRecDepth 100000 in
set_option maxHeartbeats 0 in
theorem PySem.Challenge.cw_doublepay_k82_across_gifts_and_shifts_holds : PySem.Challenge.rw_doublepay_k82_across_gifts_and_shifts.Holds := by
  w_on; o_law; k_head; (case hw => w_witness2)
  k_fill
  refine Dp.walk (l := PySem.Challenge.rw_doublepay_k82_across_gifts_and_shifts) rfl rfl (fun w h Y => PySem.W.kIn_of Y) ?F
  case F =>
    intro w mg fa h KX G
    have z_len : mg "len" = none := by
      refine' PySem.W.mg_none_of KX G ?z
      (case z => k_is)
    have z_sum : mg "sum" = none := by
      refine' PySem.W.mg_none_of KX G ?z
      (case z => k_is)
    have z_min : mg "min" = none := by
      refine' PySem.W.mg_none_of KX G ?z
      (case z => k_is)
    have z_max : mg "max" = none := by
      refine' PySem.W.mg_none_of KX G ?z
      (case z => k_is)
    have z_abs : mg "abs" = none := by
      refine' PySem.W.mg_none_of KX G ?z
      (case z => k_is)
    have z_int : mg "int" = none := by
      refine' PySem.W.mg_none_of KX G ?z
      (case z => k_is)
    have z_bool : mg "bool" = none := by
      refine' PySem.W.mg_none_of KX G ?z
      (case z => k_is)
    have z_tuple : mg "tuple" = none := by
      refine' PySem.W.mg_none_of KX G ?z
      (case z => k_is)
    have z_zip : mg "zip" = none := by
      refine' PySem.W.mg_none_of KX G ?z
      (case z => k_is)
    have z_range : mg "range" = none := by
      refine' PySem.W.mg_none_of KX G ?z
      (case z => k_is)
    have z_enumerate : mg "enumerate" = none := by
      refine' PySem.W.mg_none_of KX G ?z
      (case z => k_is)
    have z_isinstance : mg "isinstance" = none := by
      refine' PySem.W.mg_none_of KX G ?z
      (case z => k_is)
    have c_MOST_PLAYERS : ∃ t, mg "MOST_PLAYERS" = some (.int 6 t) := by
      refine' Dp.const_mk (n := 6) KX G ?z
      (case z => k_is)
    have c_MOST_COINS : ∃ t, mg "MOST_COINS" = some (.int 1000000 t) := by
      refine' Dp.const_mk (n := 1000000) KX G ?z
      (case z => k_is)
    have c_LEAST_FACTOR : ∃ t, mg "LEAST_FACTOR" = some (.int 2 t) := by
      refine' Dp.const_mk (n := 2) KX G ?z
      (case z => k_is)
    have c_MOST_FACTOR : ∃ t, mg "MOST_FACTOR" = some (.int 9 t) := by
      refine' Dp.const_mk (n := 9) KX G ?z
      (case z => k_is)
    have c_MOST_ROUNDS : ∃ t, mg "MOST_ROUNDS" = some (.int 40 t) := by
      refine' Dp.const_mk (n := 40) KX G ?z
      (case z => k_is)
    have c_MOST_SIZE : ∃ t, mg "MOST_SIZE" = some (.int 10000 t) := by
      refine' Dp.const_mk (n := 10000) KX G ?z
      (case z => k_is)
    have c_MOST_SHORT : ∃ t, mg "MOST_SHORT" = some (.int 6 t) := by
      refine' Dp.const_mk (n := 6) KX G ?z
      (case z => k_is)
    have d_is_in : Dp.OwnAt KX mg "is_in" Dp.s_is_in Dp.p_is_in := by
      refine' Dp.own_mk KX G ?a ?l ?c ?k fun _ _ _ _ _ _ us hl => match us, hl with | [_, _, _], _ => rfl
      (case a => k_is); (case l => k_is); (case c => k_is); (case k => k_is)
    have d_is_factor : Dp.OwnAt KX mg "is_factor" Dp.s_is_factor Dp.p_is_factor := by
      refine' Dp.own_mk KX G ?a ?l ?c ?k fun _ _ _ _ _ _ us hl => match us, hl with | [_], _ => rfl
      (case a => k_is); (case l => k_is); (case c => k_is); (case k => k_is)
    have d_need_table : Dp.OwnAt KX mg "need_table" Dp.s_need_table Dp.p_need_table := by
      refine' Dp.own_mk KX G ?a ?l ?c ?k fun _ _ _ _ _ _ us hl => match us, hl with | [_], _ => rfl
      (case a => k_is); (case l => k_is); (case c => k_is); (case k => k_is)
    have d_need_factor : Dp.OwnAt KX mg "need_factor" Dp.s_need_factor Dp.p_need_factor := by
      refine' Dp.own_mk KX G ?a ?l ?c ?k fun _ _ _ _ _ _ us hl => match us, hl with | [_], _ => rfl
      (case a => k_is); (case l => k_is); (case c => k_is); (case k => k_is)
    have d_need_players : Dp.OwnAt KX mg "need_players" Dp.s_need_players Dp.p_need_players := by
      refine' Dp.own_mk KX G ?a ?l ?c ?k fun _ _ _ _ _ _ us hl => match us, hl with | [_], _ => rfl
      (case a => k_is); (case l => k_is); (case c => k_is); (case k => k_is)
    have d_need_whole : Dp.OwnAt KX mg "need_whole" Dp.s_need_whole Dp.p_need_whole := by
      refine' Dp.own_mk KX G ?a ?l ?c ?k fun _ _ _ _ _ _ us hl => match us, hl with | [_], _ => rfl
      (case a => k_is); (case l => k_is); (case c => k_is); (case k => k_is)
    have d_is_whole : Dp.OwnAt KX mg "is_whole" Dp.s_is_whole Dp.p_is_whole := by
      refine' Dp.own_mk KX G ?a ?l ?c ?k fun _ _ _ _ _ _ us hl => match us, hl with | [_], _ => rfl
      (case a => k_is); (case l => k_is); (case c => k_is); (case k => k_is)
    have d_need_word : Dp.OwnAt KX mg "need_word" Dp.s_need_word Dp.p_need_word := by
      refine' Dp.own_mk KX G ?a ?l ?c ?k fun _ _ _ _ _ _ us hl => match us, hl with | [_, _], _ => rfl
      (case a => k_is); (case l => k_is); (case c => k_is); (case k => k_is)
    have d_power : Dp.OwnAt KX mg "power" Dp.s_power Dp.p_power := by
      refine' Dp.own_mk KX G ?a ?l ?c ?k fun _ _ _ _ _ _ us hl => match us, hl with | [_, _], _ => rfl
      (case a => k_is); (case l => k_is); (case c => k_is); (case k => k_is)
    have d_numbers_in : Dp.OwnAt KX mg "numbers_in" Dp.s_numbers_in Dp.p_numbers_in := by
      refine' Dp.own_mk KX G ?a ?l ?c ?k fun _ _ _ _ _ _ us hl => match us, hl with | [_, _, _], _ => rfl
      (case a => k_is); (case l => k_is); (case c => k_is); (case k => k_is)
    have d_least_in : Dp.OwnAt KX mg "least_in" Dp.s_least_in Dp.p_least_in := by
      refine' Dp.own_mk KX G ?a ?l ?c ?k fun _ _ _ _ _ _ us hl => match us, hl with | [_, _, _, _], _ => rfl
      (case a => k_is); (case l => k_is); (case c => k_is); (case k => k_is)
    have d_after_in : Dp.OwnAt KX mg "after_in" Dp.s_after_in Dp.p_after_in := by
      refine' Dp.own_mk KX G ?a ?l ?c ?k fun _ _ _ _ _ _ us hl => match us, hl with | [_, _, _], _ => rfl
      (case a => k_is); (case l => k_is); (case c => k_is); (case k => k_is)
    have d_can_pay_word : Dp.OwnAt KX mg "can_pay_word" Dp.s_can_pay_word Dp.p_can_pay_word := by
      refine' Dp.own_mk KX G ?a ?l ?c ?k fun _ _ _ _ _ _ us hl => match us, hl with | [_, _], _ => rfl
      (case a => k_is); (case l => k_is); (case c => k_is); (case k => k_is)
    have d_need_goal : Dp.OwnAt KX mg "need_goal" Dp.s_need_goal Dp.p_need_goal := by
      refine' Dp.own_mk KX G ?a ?l ?c ?k fun _ _ _ _ _ _ us hl => match us, hl with | [_, _, _], _ => rfl
      (case a => k_is); (case l => k_is); (case c => k_is); (case k => k_is)
    have d_need_small : Dp.OwnAt KX mg "need_small" Dp.s_need_small Dp.p_need_small := by
      refine' Dp.own_mk KX G ?a ?l ?c ?k fun _ _ _ _ _ _ us hl => match us, hl with | [_, _], _ => rfl
      (case a => k_is); (case l => k_is); (case c => k_is); (case k => k_is)
    have d_need_both : Dp.OwnAt KX mg "need_both" Dp.s_need_both Dp.p_need_both := by
      refine' Dp.own_mk KX G ?a ?l ?c ?k fun _ _ _ _ _ _ us hl => match us, hl with | [_, _], _ => rfl
      (case a => k_is); (case l => k_is); (case c => k_is); (case k => k_is)
    have d_need_short : Dp.OwnAt KX mg "need_short" Dp.s_need_short Dp.p_need_short := by
      refine' Dp.own_mk KX G ?a ?l ?c ?k fun _ _ _ _ _ _ us hl => match us, hl with | [_, _], _ => rfl
      (case a => k_is); (case l => k_is); (case c => k_is); (case k => k_is)
    have d_need_given : Dp.OwnAt KX mg "need_given" Dp.s_need_given Dp.p_need_given := by
      refine' Dp.own_mk KX G ?a ?l ?c ?k fun _ _ _ _ _ _ us hl => match us, hl with | [_, _, _, _], _ => rfl
      (case a => k_is); (case l => k_is); (case c => k_is); (case k => k_is)
    have d_whole_in : Dp.OwnAt KX mg "whole_in" Dp.s_whole_in Dp.p_whole_in := by
      refine' Dp.own_mk KX G ?a ?l ?c ?k fun _ _ _ _ _ _ us hl => match us, hl with | [_, _, _], _ => rfl
      (case a => k_is); (case l => k_is); (case c => k_is); (case k => k_is)
    have d_least_whole : Dp.OwnAt KX mg "least_whole" Dp.s_least_whole Dp.p_least_whole := by
      refine' Dp.own_mk KX G ?a ?l ?c ?k fun _ _ _ _ _ _ us hl => match us, hl with | [_, _, _], _ => rfl
      (case a => k_is); (case l => k_is); (case c => k_is); (case k => k_is)
    have d_chosen : Dp.OwnAt KX mg "chosen" Dp.s_chosen Dp.p_chosen := by
      refine' Dp.own_mk KX G ?a ?l ?c ?k fun _ _ _ _ _ _ us hl => match us, hl with | [_, _], _ => rfl
      (case a => k_is); (case l => k_is); (case c => k_is); (case k => k_is)
    have d_ways : Dp.OwnAt KX mg "ways" Dp.s_ways Dp.p_ways := by
      refine' Dp.own_mk KX G ?a ?l ?c ?k fun _ _ _ _ _ _ us hl => match us, hl with | [_, _], _ => rfl
      (case a => k_is); (case l => k_is); (case c => k_is); (case k => k_is)
    have d_count_in : Dp.OwnAt KX mg "count_in" Dp.s_count_in Dp.p_count_in := by
      refine' Dp.own_mk KX G ?a ?l ?c ?k fun _ _ _ _ _ _ us hl => match us, hl with | [_, _, _, _], _ => rfl
      (case a => k_is); (case l => k_is); (case c => k_is); (case k => k_is)
    have d_table_count : Dp.OwnAt KX mg "table_count" Dp.s_table_count Dp.p_table_count := by
      refine' Dp.own_mk KX G ?a ?l ?c ?k fun _ _ _ _ _ _ us hl => match us, hl with | [_, _, _, _], _ => rfl
      (case a => k_is); (case l => k_is); (case c => k_is); (case k => k_is)
    have d_lacks : Dp.OwnAt KX mg "lacks" Dp.s_lacks Dp.p_lacks := by
      refine' Dp.own_mk KX G ?a ?l ?c ?k fun _ _ _ _ _ _ us hl => match us, hl with | [_, _], _ => rfl
      (case a => k_is); (case l => k_is); (case c => k_is); (case k => k_is)
    have d_fewest_in : Dp.OwnAt KX mg "fewest_in" Dp.s_fewest_in Dp.p_fewest_in := by
      refine' Dp.own_mk KX G ?a ?l ?c ?k fun _ _ _ _ _ _ us hl => match us, hl with | [_, _], _ => rfl
      (case a => k_is); (case l => k_is); (case c => k_is); (case k => k_is)
    have d_fewest_shifted : Dp.OwnAt KX mg "fewest_shifted" Dp.s_fewest_shifted Dp.p_fewest_shifted := by
      refine' Dp.own_mk KX G ?a ?l ?c ?k fun _ _ _ _ _ _ us hl => match us, hl with | [_, _], _ => rfl
      (case a => k_is); (case l => k_is); (case c => k_is); (case k => k_is)
    have d_shifted : Dp.OwnAt KX mg "shifted" Dp.s_shifted Dp.p_shifted := by
      refine' Dp.own_mk KX G ?a ?l ?c ?k fun _ _ _ _ _ _ us hl => match us, hl with | [_, _], _ => rfl
      (case a => k_is); (case l => k_is); (case c => k_is); (case k => k_is)
    have d_is_coins : Dp.OwnAt KX mg "is_coins" Dp.s_is_coins Dp.p_is_coins := by
      refine' Dp.own_mk KX G ?a ?l ?c ?k fun _ _ _ _ _ _ us hl => match us, hl with | [_, _], _ => rfl
      (case a => k_is); (case l => k_is); (case c => k_is); (case k => k_is)
    have d_shows_shift : Dp.OwnAt KX mg "shows_shift" Dp.s_shows_shift Dp.p_shows_shift := by
      refine' Dp.own_mk KX G ?a ?l ?c ?k fun _ _ _ _ _ _ us hl => match us, hl with | [_, _, _], _ => rfl
      (case a => k_is); (case l => k_is); (case c => k_is); (case k => k_is)
    have d_gift_in : Dp.OwnAt KX mg "gift_in" Dp.s_gift_in Dp.p_gift_in := by
      refine' Dp.own_mk KX G ?a ?l ?c ?k fun _ _ _ _ _ _ us hl => match us, hl with | [_, _], _ => rfl
      (case a => k_is); (case l => k_is); (case c => k_is); (case k => k_is)
    have d_least_gift : Dp.OwnAt KX mg "least_gift" Dp.s_least_gift Dp.p_least_gift := by
      refine' Dp.own_mk KX G ?a ?l ?c ?k fun _ _ _ _ _ _ us hl => match us, hl with | [_, _], _ => rfl
      (case a => k_is); (case l => k_is); (case c => k_is); (case k => k_is)
    have d_gifts : Dp.OwnAt KX mg "gifts" Dp.s_gifts Dp.p_gifts := by
      refine' Dp.own_mk KX G ?a ?l ?c ?k fun _ _ _ _ _ _ us hl => match us, hl with | [_, _], _ => rfl
      (case a => k_is); (case l => k_is); (case c => k_is); (case k => k_is)
    have d_shows_gifts : Dp.OwnAt KX mg "shows_gifts" Dp.s_shows_gifts Dp.p_shows_gifts := by
      refine' Dp.own_mk KX G ?a ?l ?c ?k fun _ _ _ _ _ _ us hl => match us, hl with | [_, _, _], _ => rfl
      (case a => k_is); (case l => k_is); (case c => k_is); (case k => k_is)
    have d_best_word : Dp.OwnAt KX mg "best_word" Dp.s_best_word Dp.p_best_word := by
      refine' Dp.own_mk KX G ?a ?l ?c ?k fun _ _ _ _ _ _ us hl => match us, hl with | [_, _], _ => rfl
      (case a => k_is); (case l => k_is); (case c => k_is); (case k => k_is)
    have d__law_taken : Dp.OwnAt KX mg "_law_taken" Dp.s__law_taken Dp.p__law_taken := by
      refine' Dp.own_mk KX G ?a ?l ?c ?k fun _ _ _ _ _ _ us hl => match us, hl with | [_, _], _ => rfl
      (case a => k_is); (case l => k_is); (case c => k_is); (case k => k_is)
    have d__law_pick : Dp.OwnAt KX mg "_law_pick" Dp.s__law_pick Dp.p__law_pick := by
      refine' Dp.own_mk KX G ?a ?l ?c ?k fun _ _ _ _ _ _ us hl => match us, hl with | [_, _], _ => rfl
      (case a => k_is); (case l => k_is); (case c => k_is); (case k => k_is)
    have d__law_word : Dp.OwnAt KX mg "_law_word" Dp.s__law_word Dp.p__law_word := by
      refine' Dp.own_mk KX G ?a ?l ?c ?k fun _ _ _ _ _ _ us hl => match us, hl with | [_, _, _], _ => rfl
      (case a => k_is); (case l => k_is); (case c => k_is); (case k => k_is)
    have d__law_all_words : Dp.OwnAt KX mg "_law_all_words" Dp.s__law_all_words Dp.p__law_all_words := by
      refine' Dp.own_mk KX G ?a ?l ?c ?k fun _ _ _ _ _ _ us hl => match us, hl with | [_, _], _ => rfl
      (case a => k_is); (case l => k_is); (case c => k_is); (case k => k_is)
    have d__law_table : Dp.OwnAt KX mg "_law_table" Dp.s__law_table Dp.p__law_table := by
      refine' Dp.own_mk KX G ?a ?l ?c ?k fun _ _ _ _ _ _ us hl => match us, hl with | [_, _, _], _ => rfl
      (case a => k_is); (case l => k_is); (case c => k_is); (case k => k_is)
    intro hmg
    refine' Dp.law_mk KX G hmg ⟨z_len, z_sum, z_min, z_max, z_abs, z_int, z_bool, z_tuple, z_zip, z_range, z_enumerate, z_isinstance, c_MOST_PLAYERS, c_MOST_COINS, c_LEAST_FACTOR, c_MOST_FACTOR, c_MOST_ROUNDS, c_MOST_SIZE, c_MOST_SHORT⟩ ⟨d_is_in, d_is_factor, d_need_table, d_need_factor, d_need_players, d_need_whole, d_is_whole, d_need_word, d_power, d_numbers_in, d_least_in, d_after_in, d_can_pay_word, d_need_goal, d_need_small, d_need_both, d_need_short, d_need_given, d_whole_in, d_least_whole, d_chosen, d_ways, d_count_in, d_table_count, d_lacks, d_fewest_in, d_fewest_shifted, d_shifted, d_is_coins, d_shows_shift, d_gift_in, d_least_gift, d_gifts, d_shows_gifts, d_best_word, d__law_taken, d__law_pick, d__law_word, d__law_all_words, d__law_table⟩ ?a ?l ?c ?k
    (case a => k_is); (case l => k_is); (case c => k_is); (case k => k_is)
#print axioms PySem.Challenge.cw_doublepay_k82_across_gifts_and_shifts_holds
