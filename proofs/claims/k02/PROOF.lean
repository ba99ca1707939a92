import PyProof.Rows.All
import Wide.All
import OpenK.AllK
import Wide.FinOn
import HandS.ForMost
import KE.GoesZip
import KE.GoesMore
import KE.KDictZip
import HandS.SetTxt0
import HandS.SetFor
import HandS.SortInts
import PyProof.Rows.SortShellAny
import HandS.TupSets
import HandS.Lambda
import HandS.HeadHook4
import HandS.TupAny
import HandS.IsInst
import HandS.More
import HandS.ForExc
import HandS.Star
import HandS.DictComp
import HandS.Walk
import HandS.Style
import HandS.ExcInit
import HandS.Defaults
import HandS.ExcField
import HandS.Head2
import HandS.HeadWalk
import PySem.Challenge.RW_refinesteps_k02_whole_terms
set_option linter.all false
set_option maxRecDepth 100000
set_option maxHeartbeats 2000000
set_option autoImplicit false
/-! PC, part z: zip of a list with a tuple (raw rules, no core in sight). -/
namespace PC
open PySem PySem.Spec PyProof.Rows L2
/-! ### its making -/
abbrev lIt (l : Addr) : Obj := { cls := .type "list_iterator", data := .fields #[.ref l, .int 0 0] }
abbrev tIt (l : Addr) : Obj := { cls := .type "tuple_iterator", data := .fields #[.ref l, .int 0 0] }
abbrev two2 (x y : Value) : Obj := { cls := .type "tuple", data := .seq #[x, y] }
abbrev zpH (n : Nat) (h : Heap) (l t : Addr) : Heap := match n with
  | 0 => h
  | 1 => h.push (lIt l)
  | 2 => (h.push (lIt l)).push (tIt t)
  | 3 => ((h.push (lIt l)).push (tIt t)).push (two2 (.ref h.objs.size) (.ref (h.push (lIt l)).objs.size))
  | 4 => (((h.push (lIt l)).push (tIt t)).push (two2 (.ref h.objs.size) (.ref (h.push (lIt l)).objs.size))).push (two2 .none .none)
  | _ => ((((h.push (lIt l)).push (tIt t)).push (two2 (.ref h.objs.size) (.ref (h.push (lIt l)).objs.size))).push (two2 .none .none)).push { cls := .type "zip", data := .fields #[.none, .bool false, .bool false, .ref ((h.push (lIt l)).push (tIt t)).objs.size, .ref (((h.push (lIt l)).push (tIt t)).push (two2 (.ref h.objs.size) (.ref (h.push (lIt l)).objs.size))).objs.size] }
theorem zp_made (l t : Addr) (xs ys : Array Value) : Meets (Builtin.«zip.__new__» ⟨[.type "zip", .ref l, .ref t], []⟩) (fun _ R s => s.heap.IsList l xs ∧ s.heap.IsTuple t ys ∧ R (.ok (.ret (.ref (zpH 4 s.heap l t).objs.size))) { s with heap := zpH 5 s.heap l t }) := .of_wp fun prog w A R s hs => by
  obtain ⟨hp, g, d, tk, os⟩ := s
  obtain ⟨q1, q2, k⟩ := hs
  have sb := sub_zip
  have m1 : Heap.IsList (Shared.heap ⟨hp, g, d, tk, os⟩) l xs := q1
  have m2 : Heap.IsTuple (Shared.heap ⟨hp.push (lIt l), g, d, tk, os⟩) t ys := q2.push _
  wp_walk using wpAny_pyIter_list m1, wpAny_pyIter_tuple m2
  exact ⟨_, rfl, k⟩
section
variable {prog : Program} {w : PySem.World} {A : Around} {E : Value → Shared → Prop} {s : Shared}
/-- what stands behind it: n the first new place -/
structure ZpNew (h h' : Heap) (l t n : Addr) : Prop where
  z : IsZip h' (n + 4) (n + 2) (n + 3) .none
  ti : IsPair h' (n + 2) (.ref n) (.ref (n + 1))
  to : IsPair h' (n + 3) .none .none
  i1 : h'.IsListIter n l 0
  i2 : h'.IsTupleIter (n + 1) t 0
  keep : ∀ c o, h.get? c = some o → h'.get? c = some o
theorem zp_new (h : Heap) (l t : Addr) : (zpH 4 h l t).objs.size = h.objs.size + 4 ∧ ZpNew h (zpH 5 h l t) l t h.objs.size := by
  have up : ∀ (h : Heap) (o : Obj), (h.push o).objs.size = h.objs.size + 1 := fun h o => Heap.size_push ..
  have s1 := up h (lIt l)
  have s2 : (zpH 2 h l t).objs.size = h.objs.size + 2 := by rw [show (zpH 2 h l t).objs.size = (h.push (lIt l)).objs.size + 1 from up _ _, s1]
  have s3 : (zpH 3 h l t).objs.size = h.objs.size + 3 := by rw [show (zpH 3 h l t).objs.size = (zpH 2 h l t).objs.size + 1 from up _ _, s2]
  have s4 : (zpH 4 h l t).objs.size = h.objs.size + 4 := by rw [show (zpH 4 h l t).objs.size = (zpH 3 h l t).objs.size + 1 from up _ _, s3]
  have on : ∀ {h : Heap} {o : Obj} {b : Addr} {u : Obj}, h.get? b = some u → (h.push o).get? b = some u := fun e => Heap.get?_push_of_some _ e
  have g5 : (zpH 5 h l t).get? (zpH 4 h l t).objs.size = some _ := Heap.get?_push_size _ rfl
  have g4 : (zpH 5 h l t).get? (zpH 3 h l t).objs.size = some _ := on (Heap.get?_push_size _ rfl)
  have g3 : (zpH 5 h l t).get? (zpH 2 h l t).objs.size = some _ := on (on (Heap.get?_push_size _ rfl))
  have g2 : (zpH 5 h l t).get? (h.push (lIt l)).objs.size = some _ := on (on (on (Heap.get?_push_size _ rfl)))
  have g1 : (zpH 5 h l t).get? h.objs.size = some _ := on (on (on (on (Heap.get?_push_size _ rfl))))
  refine ⟨s4, ⟨?_, ?_, ?_, ⟨_, g1, rfl, rfl⟩, ?_, fun c o e => on (on (on (on (on e))))⟩⟩
  · rw [s4, show ((h.push (lIt l)).push (tIt t)).objs.size = _ from s2, show (((h.push (lIt l)).push (tIt t)).push (two2 (.ref h.objs.size) (.ref (h.push (lIt l)).objs.size))).objs.size = _ from s3] at g5
    exact g5
  · rw [s2, s1] at g3
    exact g3
  · rw [s3] at g4
    exact g4
  · rw [s1] at g2
    exact ⟨_, g2, rfl, rfl⟩
theorem call_zipM {l t : Addr} {xs ys : Array Value} {Q : Value → Shared → Prop} (h1 : s.heap.IsList l xs) (h2 : s.heap.IsTuple t ys) (h : ∀ h', ZpNew s.heap h' l t s.heap.objs.size → Q (.ref (s.heap.objs.size + 4)) { s with heap := h' }) : wpAny (model prog w) A (call (.type "zip") [.ref l, .ref t]) Q E s := by
  obtain ⟨e4, new⟩ := zp_new s.heap l t
  refine callType_new F.called_zip (by decide) (F.typeCall_zip_2 _ _) (F.newCall_zip_2 _ _) (fun ob => F.args_object_init_3 ob _ _) F.entry_zip_new (zp_made l t xs ys) ⟨h1, h2, ?_⟩
  show _ ∧ _
  rw [e4]
  exact ⟨⟨_, new.z, rfl⟩, h _ new⟩
end
/-! ### its turns -/
theorem neA {a b : Nat} (h : a ≠ b) : @Ne Addr a b := h
theorem out2 {x a b : Nat} (h1 : x ≠ a) (h2 : x ≠ b) : (x : Addr) ∉ ([a, b] : List Addr) := fun h => by
  rcases List.mem_cons.mp h with e | h
  · exact h1 e
  · exact h2 (List.mem_singleton.mp h)
theorem apart2 {n a b : Nat} (ha : a < n) (hb : b < n) : ZipSep2 (n + 4) (n + 2) (n + 3) n (n + 1) [n, a] [n + 1, b] where
  TIz := neA (by omega)
  TOz := neA (by omega)
  TITO := neA (by omega)
  TIi1 := neA (by omega)
  mem1 := List.mem_cons_self
  zf1 := out2 (by omega) (by omega)
  Tf1 := out2 (by omega) (by omega)
  TIi2 := neA (by omega)
  mem2 := List.mem_cons_self
  zf2 := out2 (by omega) (by omega)
  Tf2 := out2 (by omega) (by omega)
  sep1_2 := out2 (by omega) (by omega)
  sep2_1 := out2 (by omega) (by omega)
/-- the list at a, the tuple at b, the items in new pairs -/
def ItzM (K : PySem.W.Frag) (a b : Addr) : It :=
  ⟨fun i H => ∃ (xs ys : List V) (x y : V), SqL K H a xs ∧ SqT K H b ys ∧ xs[i]? = some x ∧ ys[i]? = some y,
    fun i H v H' => ∃ T x y, v = .ref T ∧ H T = none ∧ H' = upd H T (.tup [x, y]) ∧ (∀ xs, SqL K H a xs → xs[i]? = some x) ∧ ∀ ys, SqT K H b ys → ys[i]? = some y,
    fun i H => ∃ xs ys : List V, SqL K H a xs ∧ SqT K H b ys ∧ i ≤ xs.length ∧ i ≤ ys.length ∧ (i = xs.length ∨ i = ys.length)⟩
/-- the iterator's state -/
def ZpAt (n a b : Addr) (i : Nat) (h : Heap) : Prop := IsZip h (n + 4) (n + 2) (n + 3) .none ∧ IsPair h (n + 2) (.ref n) (.ref (n + 1)) ∧ (∃ x y, IsPair h (n + 3) x y) ∧ h.IsListIter n a i ∧ h.IsTupleIter (n + 1) b i
abbrev zpF (n : Addr) : List Addr := [n + 4, n + 2, n + 3, n, n + 1]
theorem turn_zipM {P : Program} {w : PySem.World} {K : PySem.W.Frag} {elts : List Expr} {kk : Nat} {tpos : Pos} {a b n : Nat} (ha : a < n) (hb : b < n) : Turn P w K (.Tuple elts kk tpos) (ItzM K a b) (zpF n) (n + 4) (ZpAt n a b) where
  mem := by simp
  obj := fun i h st c hc => by
    obtain ⟨z, ti, ⟨x, y, to⟩, ⟨o1, e1, _, d1⟩, ⟨o2, e2, _, d2⟩⟩ := st
    simp only [List.mem_cons, List.not_mem_nil, or_false] at hc
    rcases hc with rfl | rfl | rfl | rfl | rfl
    · exact ⟨_, z, fun _ q => by cases q⟩
    · exact ⟨_, ti, fun _ q => by cases q⟩
    · exact ⟨_, to, fun _ q => by cases q⟩
    · exact ⟨o1, e1, fun _ q => by rw [d1] at q; cases q⟩
    · exact ⟨o2, e2, fun _ q => by rw [d2] at q; cases q⟩
  keep := fun i h h' st k => by
    obtain ⟨z, ti, ⟨x, y, to⟩, j1, j2⟩ := st
    have kk : ∀ c ∈ zpF n, ∀ o, h.get? c = some o → h'.get? c = some o := k
    exact ⟨kk _ (by simp) _ z, kk _ (by simp) _ ti, ⟨x, y, kk _ (by simp) _ to⟩, j1.at fun o q => kk n (by simp) o q, j2.at fun o q => kk (n + 1) (by simp) o q⟩
  item := by
    intro X hP hw hK hc i pins s σ H E I hf st hg
    subst hP hw hK
    obtain ⟨z, ti, ⟨x0, y0, to⟩, j1, j2⟩ := st
    obtain ⟨xs, ys, x, y, qx, qy, ex, ey⟩ := hg
    obtain ⟨us, r1, p1, _⟩ := I.list qx
    obtain ⟨vs, r2, p2, _⟩ := I.tuple qy
    have hh : X.A.in1.handled = none := I.ok.hd hc
    have l1 : i < us.toArray.size := by
      rw [List.size_toArray, ← r1.length]
      exact (List.getElem?_eq_some_iff.mp ex).1
    have l2 : i < vs.toArray.size := by
      rw [List.size_toArray, ← r2.length]
      exact (List.getElem?_eq_some_iff.mp ey).1
    have hz := Heap.lt_size z
    refine wpAny_pyNext_zipD2_item (apart2 ha hb) (Draws.list hh n a (Nat.ne_of_lt ha) us.toArray) (Draws.tuple hh (n + 1) b (Nat.ne_of_lt (Nat.lt_succ_of_lt hb)) vs.toArray) z ti to ⟨j1, p1.isList⟩ ⟨j2, p2⟩ l1 l2 fun u1 u2 h' tk e1 e2 z' to' st1 st2 hT hsz k => ?_
    refine ⟨_, rfl, wpAny_letOwnedTupleGo_zip (s := { s with heap := h', toks := tk }) z' fun h2 z2 sb => ?_⟩
    have nz : s.heap.objs.size ≠ n + 4 := Nat.ne_of_gt hz
    have hT2 : IsPair h2 s.heap.objs.size u1 u2 := (sb.2 _ nz).trans hT
    obtain ⟨w1, ew1, rw1⟩ := r1.get ex
    obtain ⟨w2, ew2, rw2⟩ := r2.get ey
    have eu1 : u1 = w1 := by
      rw [List.getElem?_toArray, ew1] at e1
      exact (Option.some.inj e1).symm
    have eu2 : u2 = w2 := by
      rw [List.getElem?_toArray, ew2] at e2
      exact (Option.some.inj e2).symm
    subst eu1 eu2
    have ob : ObjOk X.prog X.w (upd H s.heap.objs.size (.tup [x, y])) h2 s.heap.objs.size (.tup [x, y]) := ⟨by show 2 ≤ sizeLine; decide, [u1, u2], .cons rw1 (.cons rw2 .nil), ⟨_, hT2, rfl, _, rfl⟩⟩
    have kb : ∀ c o, c ∉ zpF n → s.heap.get? c = some o → h2.get? c = some o := fun c o hb q => by
      simp only [List.mem_cons, List.not_mem_nil, or_false, not_or] at hb
      exact (sb.2 c hb.1).trans (k c o hb.1 hb.2.2.1 hb.2.2.2.1 hb.2.2.2.2 q)
    have J := I.turnedNew (t' := tk) (ch := zpF n) kb hf (Nat.le_refl _) ob
    have hfr := I.hok.fresh (Nat.le_refl s.heap.objs.size)
    refine ⟨.ref s.heap.objs.size, _, J, rfl, ⟨_, x, y, rfl, hfr, rfl, fun l hl => by rw [I.list_inj hl qx]; exact ex, fun l hl => by rw [I.tuple_inj hl qy]; exact ey⟩, ⟨z2, ?_, ⟨u1, u2, ?_⟩, ?_, ?_⟩, fun c hcm => ?_⟩
    · exact (sb.2 _ (neA (by omega))).trans (k _ _ (neA (by omega)) (neA (by omega)) (neA (by omega)) (neA (by omega)) ti)
    · exact (sb.2 _ (neA (by omega))).trans to'
    · exact st1.1.at fun o q => (sb.2 n (neA (by omega))).trans q
    · exact st2.1.at fun o q => (sb.2 (n + 1) (neA (by omega))).trans q
    · have hlt : c < s.heap.objs.size := by
        simp only [List.mem_cons, List.not_mem_nil, or_false] at hcm
        rcases hcm with rfl | rfl | rfl | rfl | rfl
        · exact hz
        · exact Heap.lt_size ti
        · exact Heap.lt_size to
        · obtain ⟨_, e, _⟩ := j1
          exact Heap.lt_size e
        · obtain ⟨_, e, _⟩ := j2
          exact Heap.lt_size e
      rw [upd_ne (Nat.ne_of_lt hlt)]
      exact (hf c hcm).1
  done := by
    intro X hP hw hK hc i pins s σ H E I hf st hg
    subst hP hw hK
    obtain ⟨z, ti, ⟨x0, y0, to⟩, j1, j2⟩ := st
    obtain ⟨xs, ys, qx, qy, b1, b2, b3⟩ := hg
    obtain ⟨us, r1, p1, _⟩ := I.list qx
    obtain ⟨vs, r2, p2, _⟩ := I.tuple qy
    have hh : X.A.in1.handled = none := I.ok.hd hc
    have l1 : us.toArray.size = xs.length := by rw [List.size_toArray, ← r1.length]
    have l2 : vs.toArray.size = ys.length := by rw [List.size_toArray, ← r2.length]
    refine wpAny_pyNext_zipD2_end (apart2 ha hb) (Draws.list hh n a (Nat.ne_of_lt ha) us.toArray) (Draws.tuple hh (n + 1) b (Nat.ne_of_lt (Nat.lt_succ_of_lt hb)) vs.toArray) z ti to ⟨j1, p1.isList⟩ ⟨j2, p2⟩ (by omega) (by omega) (by omega) fun h' tk k => ⟨rfl, I.turnedL (t' := tk) (ch := zpF n) (fun c o hb q => ?_) hf⟩
    simp only [List.mem_cons, List.not_mem_nil, or_false, not_or] at hb
    exact k c o hb.1 hb.2.2.1 hb.2.2.2.1 hb.2.2.2.2 q
  self := fun A i s Q E st h => wpAny_pyIter_zip st.1 h
def iZipM (K : PySem.W.Frag) (ta : TA) : TI := fun σ H R => ta σ H fun vs H1 => ∃ a b xs ys, vs = [.ref a, .ref b] ∧ SqL K H1 a xs ∧ SqT K H1 b ys ∧ R (ItzM K a b) H1
theorem pi_zipM {X : Cx} {e e2 : Expr} {ta : TA} {p pos tpos : Pos} {elts : List Expr} {kk : Nat} (hg : Gl X "zip") (hm : X.mg "zip" = none) (ha : PA X [e, e2] ta) (hs : starEach [e, e2] X.env = (false, eval e X.env) :: starEach [e2] X.env) (hpl : (backTo pos (starEach [e2] X.env)).any (·.1) = false) :
    PI X (.Tuple elts kk tpos) (.Call (.Name "zip" p) [e, e2] [] pos) (iZipM X.K ta) := by
  refine ⟨fun pins s σ H R I h => Call_ (ld_blt I hg hm boot_zip (callWith_type1 (thn (ha.run pos pins s σ H _ I h) fun us s1 ⟨vs, H1, I1, r1, a, b, xs, ys, ev, qx, qy, q⟩ => ?_) hs hpl))⟩
  subst ev
  cases r1 with
  | cons ra rr =>
    cases rr with
    | cons rb rn =>
      cases rn
      cases ra
      cases rb
      obtain ⟨its, v1, p1, _⟩ := I1.list qx
      obtain ⟨it2, v2, p2, _⟩ := I1.tuple qy
      obtain ⟨o2, ho2, _⟩ := id p2
      refine call_zipM p1.isList (show s1.heap.IsTuple b it2.toArray from p2) fun h' new => wpAny_pyIter_zip new.z ?_
      have I2 : Inv X pins σ H1 { s1 with heap := h' } := I1.kept (t' := s1.toks) new.keep
      refine ⟨s1.heap.objs.size + 4, zpF s1.heap.objs.size, _, ItzM X.K a b, H1, rfl, I2, turn_zipM p1.lt (Heap.lt_size ho2), ⟨new.z, new.ti, ⟨_, _, new.to⟩, new.i1, new.i2⟩, fun c hc => ?_, q⟩
      have hle : s1.heap.objs.size ≤ c := by
        simp only [List.mem_cons, List.not_mem_nil, or_false] at hc
        rcases hc with rfl | rfl | rfl | rfl | rfl
        · exact Nat.le_add_right _ _
        · exact Nat.le_add_right _ _
        · exact Nat.le_add_right _ _
        · exact Nat.le_refl _
        · exact Nat.le_add_right _ _
      exact I1.fpOk hle (I1.hok.fresh hle)
end PC
set_option linter.all false
set_option maxRecDepth 100000
set_option maxHeartbeats 2000000
set_option autoImplicit false
/-! PC, part y: dict(zip(list, tuple)): the zip's next while its last pair is still there. -/
namespace PC
open PySem PySem.Spec PyProof.Rows L2
section
variable {prog : Program} {w : PySem.World} {A : Around} {E : Value → Shared → Prop} {s : Shared}
/-- the two iterators and what they walk -/
structure ZpTwo (h : Heap) (n a b : Addr) (xs ys : Array Value) (i : Nat) : Prop where
  ti : IsPair h (n + 2) (.ref n) (.ref (n + 1))
  i1 : h.IsListIter n a i
  i2 : h.IsTupleIter (n + 1) b i
  l1 : h.IsList a xs
  l2 : h.IsTuple b ys
theorem held_item {n a b T : Nat} {f : Bool} {oT : Obj} {i : Nat} {xs ys : Array Value} {x y : Value} {Q : Value → Shared → Prop} (ha : a < n) (hb : b < n) (qz : IsZipHeld s.heap (n + 4) (n + 2) (n + 3) T f) (qT : s.heap.get? T = some oT) (z : ZpTwo s.heap n a b xs ys i) (hx : xs[i]? = some x) (hy : ys[i]? = some y)
    (hQ : ∀ h', IsZipHeld h' (n + 4) (n + 2) (n + 3) T true → ZpTwo h' n a b xs ys (i + 1) → IsPair h' s.heap.objs.size x y → (∀ c o, c ≠ n + 4 → c ≠ n → c ≠ n + 1 → s.heap.get? c = some o → h'.get? c = some o) → Q (.ref s.heap.objs.size) { s with heap := h' }) :
    wpAny (model prog w) A (Builtin.«zip.__next__» ⟨[.ref (n + 4)], []⟩) (fun fin s' => ∃ v, fin = .done (.ret v) ∧ Q v s') E s := by
  have n1 : @Ne Addr n (n + 4) := neA (by omega)
  have n2 : @Ne Addr (n + 1) (n + 4) := neA (by omega)
  have n3 : @Ne Addr a (n + 4) := neA (by omega)
  have n4 : @Ne Addr b (n + 4) := neA (by omega)
  have n5 : @Ne Addr (n + 1) n := neA (by omega)
  have n6 : @Ne Addr b n := neA (by omega)
  have n7 : @Ne Addr a n := neA (by omega)
  have n8 : @Ne Addr a (n + 1) := neA (by omega)
  have n9 : @Ne Addr b (n + 1) := neA (by omega)
  have m1 : @Ne Addr (n + 2) (n + 4) := neA (by omega)
  have m2 : @Ne Addr (n + 2) n := neA (by omega)
  have m3 : @Ne Addr (n + 2) (n + 1) := neA (by omega)
  show wpAny _ _ (field (.ref (n + 4)) 2 >>= _) _ _ _; refine wpAny_bind (wpAny_field qz rfl (x := .bool false) rfl ?_)
  show wpAny _ _ (field (.ref (n + 4)) 3 >>= _) _ _ _; refine wpAny_bind (wpAny_field qz rfl (x := .ref (n + 2)) rfl (wpAny_bind (wpAny_seqItems z.ti rfl ?_)))
  show wpAny _ _ (Builtin.SmallTypes.ownedTupleIsFree (.ref (n + 4)) >>= _) _ _ _; refine wpAny_bind (wpAny_tupleHeld_zip qz qT fun g1 qz1 sb1 => ?_)
  simp only [Bool.false_eq_true, if_false]; refine wpAny_bind ?_; rw [← Array.forIn_toList]
  simp only [List.forIn_cons, List.forIn_nil]; refine wpAny_bind (wpAny_bind (wpAny_holding ?_))
  have e1 := sb1.extBut
  show wpAny _ _ (Builtin.SmallTypes.nextOf (.ref n) >>= _) _ _ _; refine wpAny_bind (wpAny_nextOf_list_item (s := { s with heap := g1 }) (z.i1.extBut e1 n1) (z.l1.extBut e1 n3) hx fun g2 j1 sb2 => wpAny_pure (wpAny_pure (wpAny_bind (wpAny_bind (wpAny_holding ?_)))))
  have e2 := sb2.extBut
  show wpAny _ _ (Builtin.SmallTypes.nextOf (.ref (n + 1)) >>= _) _ _ _; refine wpAny_bind (wpAny_nextOf_tuple_item (s := { s with heap := g2 }) ((z.i2.extBut e1 n2).extBut e2 n5) ((z.l2.extBut e1 n4).extBut e2 n6) hy fun g3 j2 sb3 => wpAny_pure (wpAny_pure (wpAny_pure ?_)))
  have e3 := sb3.extBut
  show wpAny _ _ (newTuple [x, y] >>= _) _ _ _; refine wpAny_bind (wpAny_newTuple (wpAny_pure ⟨_, rfl, ?_⟩))
  show Q (.ref g3.objs.size) _
  have sz : g3.objs.size = s.heap.objs.size := by rw [sb3.1, sb2.1, sb1.1]
  have up : ∀ c o, g3.get? c = some o → (g3.push (two2 x y)).get? c = some o := fun _ _ e => Heap.get?_push_of_some _ e
  have all : ∀ c o, c ≠ n + 4 → c ≠ n → c ≠ n + 1 → s.heap.get? c = some o → (g3.push (two2 x y)).get? c = some o := fun c o c1 c2 c3 e => up _ _ (e3 _ _ c3 (e2 _ _ c2 (e1 _ _ c1 e)))
  have pr : IsPair (g3.push (two2 x y)) g3.objs.size x y := Heap.get?_push_size _ rfl
  rw [sz] at pr ⊢
  refine hQ _ (up _ _ (e3 _ _ (Ne.symm n2) (e2 _ _ (Ne.symm n1) qz1))) ⟨all _ _ m1 m2 m3 z.ti, (j1.extBut e3 (Ne.symm n5)).at (fun o e => up _ o e), j2.at (fun o e => up _ o e), z.l1.at (fun o e => all a o n3 n7 n8 e), z.l2.at (fun o e => all b o n4 n6 n9 e)⟩ pr all
theorem held_end {n a b T : Nat} {f : Bool} {oT : Obj} {i : Nat} {xs ys : Array Value} {Q : Fin → Shared → Prop} (hh : A.handled = none) (ha : a < n) (hb : b < n) (qz : IsZipHeld s.heap (n + 4) (n + 2) (n + 3) T f) (qT : s.heap.get? T = some oT) (z : ZpTwo s.heap n a b xs ys i) (hend : xs[i]? = none ∨ ys[i]? = none)
    (hE : ∀ h' e, (∀ c o, c ≠ n + 4 → c ≠ n → c ≠ n + 1 → s.heap.get? c = some o → h'.get? c = some o) → (∃ o, h'.get? e = some o ∧ o.cls = .type "StopIteration") → E (.ref e) { s with heap := h' }) : wpAny (model prog w) A (Builtin.«zip.__next__» ⟨[.ref (n + 4)], []⟩) Q E s := by
  have n1 : @Ne Addr n (n + 4) := neA (by omega)
  have n2 : @Ne Addr (n + 1) (n + 4) := neA (by omega)
  have n3 : @Ne Addr a (n + 4) := neA (by omega)
  have n4 : @Ne Addr b (n + 4) := neA (by omega)
  have n5 : @Ne Addr (n + 1) n := neA (by omega)
  have n6 : @Ne Addr b n := neA (by omega)
  show wpAny _ _ (field (.ref (n + 4)) 2 >>= _) _ _ _; refine wpAny_bind (wpAny_field qz rfl (x := .bool false) rfl ?_)
  show wpAny _ _ (field (.ref (n + 4)) 3 >>= _) _ _ _; refine wpAny_bind (wpAny_field qz rfl (x := .ref (n + 2)) rfl (wpAny_bind (wpAny_seqItems z.ti rfl ?_)))
  show wpAny _ _ (Builtin.SmallTypes.ownedTupleIsFree (.ref (n + 4)) >>= _) _ _ _; refine wpAny_bind (wpAny_tupleHeld_zip qz qT fun g1 qz1 sb1 => ?_)
  simp only [Bool.false_eq_true, if_false]; refine wpAny_bind ?_; rw [← Array.forIn_toList]
  simp only [List.forIn_cons, List.forIn_nil]; refine wpAny_bind (wpAny_bind (wpAny_holding ?_))
  have e1 := sb1.extBut
  show wpAny _ _ (Builtin.SmallTypes.nextOf (.ref n) >>= _) _ _ _
  cases hx : xs[i]? with
  | none => exact wpAny_bind (wpAny_nextOf_list_end (s := { s with heap := g1 }) hh (z.i1.extBut e1 n1) (z.l1.extBut e1 n3) hx fun g2 e sb2 he => hE g2 e (fun c o c1 c2 _ q => sb2 _ _ c2 (e1 _ _ c1 q)) he)
  | some x =>
    have hy : ys[i]? = none := hend.resolve_left (by rw [hx]; exact fun z => by cases z)
    refine wpAny_bind (wpAny_nextOf_list_item (s := { s with heap := g1 }) (z.i1.extBut e1 n1) (z.l1.extBut e1 n3) hx fun g2 j1 sb2 => wpAny_pure (wpAny_pure (wpAny_bind (wpAny_bind (wpAny_holding ?_)))))
    have e2 := sb2.extBut
    show wpAny _ _ (Builtin.SmallTypes.nextOf (.ref (n + 1)) >>= _) _ _ _
    exact wpAny_bind (wpAny_nextOf_tuple_end (s := { s with heap := g2 }) hh ((z.i2.extBut e1 n2).extBut e2 n5) ((z.l2.extBut e1 n4).extBut e2 n6) hy fun g3 e sb3 he => hE g3 e (fun c o c1 c2 c3 q => sb3 _ _ c3 (e2 _ _ c2 (e1 _ _ c1 q))) he)
theorem next_held {n a b T : Nat} {f : Bool} {oT : Obj} {i : Nat} {xs ys : Array Value} {x y : Value} {Q : Option Value → Shared → Prop} (ha : a < n) (hb : b < n) (qz : IsZipHeld s.heap (n + 4) (n + 2) (n + 3) T f) (qT : s.heap.get? T = some oT) (z : ZpTwo s.heap n a b xs ys i) (hx : xs[i]? = some x) (hy : ys[i]? = some y)
    (hQ : ∀ h', IsZipHeld h' (n + 4) (n + 2) (n + 3) T true → ZpTwo h' n a b xs ys (i + 1) → IsPair h' s.heap.objs.size x y → (∀ c o, c ≠ n + 4 → c ≠ n → c ≠ n + 1 → s.heap.get? c = some o → h'.get? c = some o) → Q (some (.ref s.heap.objs.size)) { s with heap := h' }) :
    wpAny (model prog w) A (pyNext (.ref (n + 4))) Q E s := by
  have ty : s.TypeIs (.ref (n + 4)) "zip" := ⟨_, qz, rfl⟩
  unfold pyNext
  exact wpAny_bind (wpAny_attempt (wpAny_callSpecial?_slot (name := Str.ofString "__next__") ty F.slot_zip_next (wpAny_call_entry F.slot_zip_next ty F.entry_zip_next (held_item ha hb qz qT z hx hy fun h' r1 r2 r3 r4 => wpAny_pure (hQ h' r1 r2 r3 r4)) (F.args_zip_next_1 _))))
theorem stop_held {n a b T : Nat} {f : Bool} {oT : Obj} {i : Nat} {xs ys : Array Value} {Q : Option Value → Shared → Prop} (hh : A.handled = none) (ha : a < n) (hb : b < n) (qz : IsZipHeld s.heap (n + 4) (n + 2) (n + 3) T f) (qT : s.heap.get? T = some oT) (z : ZpTwo s.heap n a b xs ys i) (hend : xs[i]? = none ∨ ys[i]? = none)
    (hQ : ∀ h', (∀ c o, c ≠ n + 4 → c ≠ n → c ≠ n + 1 → s.heap.get? c = some o → h'.get? c = some o) → Q none { s with heap := h' }) : wpAny (model prog w) A (pyNext (.ref (n + 4))) Q E s := by
  have ty : s.TypeIs (.ref (n + 4)) "zip" := ⟨_, qz, rfl⟩
  unfold pyNext
  refine wpAny_bind (wpAny_attempt (wpAny_callSpecial?_slot (name := Str.ofString "__next__") ty F.slot_zip_next (wpAny_call_entry F.slot_zip_next ty F.entry_zip_next (held_end hh ha hb qz qT z hend fun h' e k he => ?_) (F.args_zip_next_1 _))))
  obtain ⟨o, ho, hc⟩ := he
  exact wpAny_bind (wpAny_isInstance (T := "StopIteration") (b := true) ⟨o, ho, hc⟩ isSubtype_stop (wpAny_pure (hQ _ k)))
end
/-- a fresh one, or one whose last pair is still there -/
def ZpSt (n a b d : Nat) (xs ys : Array Value) (i : Nat) (h : Heap) : Prop := ZpTwo h n a b xs ys i ∧ ((IsZip h (n + 4) (n + 2) (n + 3) .none ∧ ∃ u v, IsPair h (n + 3) u v) ∨ ∃ (T : Nat) (f : Bool) (oT : Obj), IsZipHeld h (n + 4) (n + 2) (n + 3) T f ∧ h.get? T = some oT ∧ T ≠ n + 4 ∧ T ≠ n ∧ T ≠ n + 1 ∧ T ≠ d)
theorem pairs_zipM {prog : Program} {w : PySem.World} {n a b : Nat} (ha : a < n) (hb : b < n) (xs ys : Array Value) :
    PairArg prog w "zip" (n + 4) [n + 4, n + 2, n + 3, n, n + 1, a, b] [n + 4, n + 3, n, n + 1] (min xs.size ys.size) (fun i k v => xs[i]? = some k ∧ ys[i]? = some v) (fun h => ZpTwo h n a b xs ys 0 ∧ IsZip h (n + 4) (n + 2) (n + 3) .none ∧ ∃ u v, IsPair h (n + 3) u v) where
  type := fun s ok => ⟨_, ok.2.1, rfl⟩
  notDict := by decide
  keep := fun h h' ⟨z, q, u, v, r⟩ k => ⟨⟨k _ _ z.ti, z.i1.at fun o e => k _ o e, z.i2.at fun o e => k _ o e, z.l1.at fun o e => k _ o e, z.l2.at fun o e => k _ o e⟩, k _ _ q, u, v, k _ _ r⟩
  there := fun h ok c hc => by
    obtain ⟨⟨ti, ⟨o1, e1, _⟩, ⟨o2, e2, _⟩, ⟨o3, e3, _⟩, ⟨o4, e4, _⟩⟩, q, u, v, r⟩ := ok
    simp only [List.mem_cons, List.not_mem_nil, or_false] at hc
    rcases hc with rfl | rfl | rfl | rfl | rfl | rfl | rfl
    · exact ⟨_, q⟩
    · exact ⟨_, ti⟩
    · exact ⟨_, r⟩
    · exact ⟨_, e1⟩
    · exact ⟨_, e2⟩
    · exact ⟨_, e3⟩
    · exact ⟨_, e4⟩
  sub := fun c hc => by
    simp only [List.mem_cons, List.not_mem_nil, or_false] at hc ⊢
    rcases hc with rfl | rfl | rfl | rfl <;> simp
  noKeys := fun A s Q E hA ok k => getAttrOr_miss_zip ok.2.1 rfl rfl rfl zip_no_keys (by decide +kernel) hA k
  iter := fun A s d Q E hA ok hd hdf k => by
    obtain ⟨z, q, u, v, r⟩ := ok
    simp only [List.mem_cons, List.not_mem_nil, or_false, not_or] at hdf
    obtain ⟨d1, d2, d3, d4, d5, d6, d7⟩ := hdf
    refine wpAny_pyIter_zip q (k (n + 4) [n + 4, n + 3, n, n + 1] (ZpSt n a b d xs ys) s.heap s.toks ?_ ⟨z, .inl ⟨q, u, v, r⟩⟩ (fun _ _ e => e) fun c hc => .inl hc)
    have hin : A.in1.handled = none := hA
    have D1 : ∀ A' : Around, A'.handled = none → Draws prog w A' n [n, a] xs.size (fun i v => xs[i]? = some v) (fun i h => h.IsListIter n a i ∧ h.IsList a xs) := fun A' h => Draws.list h n a (Nat.ne_of_lt ha) xs
    have D2 : ∀ A' : Around, A'.handled = none → Draws prog w A' (n + 1) [n + 1, b] ys.size (fun i v => ys[i]? = some v) (fun i h => h.IsTupleIter (n + 1) b i ∧ h.IsTuple b ys) := fun A' h => Draws.tuple h (n + 1) b (Nat.ne_of_lt (Nat.lt_succ_of_lt hb)) ys
    exact {
      off := fun hm => by
        simp only [List.mem_cons, List.not_mem_nil, or_false] at hm
        rcases hm with e | e | e | e
        · exact d1 e
        · exact d3 e
        · exact d4 e
        · exact d5 e
      frame := fun i h1 h2 st kk => by
        obtain ⟨y, st⟩ := st
        refine ⟨⟨kk _ _ (Ne.symm d2) y.ti, y.i1.at fun o e => kk _ o (Ne.symm d4) e, y.i2.at fun o e => kk _ o (Ne.symm d5) e, y.l1.at fun o e => kk _ o (Ne.symm d6) e, y.l2.at fun o e => kk _ o (Ne.symm d7) e⟩, ?_⟩
        rcases st with ⟨q, u, v, r⟩ | ⟨T, f, oT, q, qT, t1, t2, t3, t4⟩
        · exact .inl ⟨kk _ _ (Ne.symm d1) q, u, v, kk _ _ (Ne.symm d3) r⟩
        · exact .inr ⟨T, f, oT, kk _ _ (Ne.symm d1) q, kk _ _ t4 qT, t1, t2, t3, t4⟩
      item := fun i s1 Q1 E1 hi st hds hQ => by
        obtain ⟨y, st⟩ := st
        have hix : i < xs.size := Nat.lt_of_lt_of_le hi (Nat.min_le_left ..)
        have hiy : i < ys.size := Nat.lt_of_lt_of_le hi (Nat.min_le_right ..)
        have lt : ∀ {c : Addr} {o}, s1.heap.get? c = some o → s1.heap.objs.size ≠ c := fun e => Nat.ne_of_gt (Heap.lt_size e)
        have g1 : s1.heap.objs.size ≠ n := let ⟨_, e, _⟩ := y.i1; lt e
        have g2 : s1.heap.objs.size ≠ n + 1 := let ⟨_, e, _⟩ := y.i2; lt e
        rcases st with ⟨q, u, v, r⟩ | ⟨T, f, oT, q, qT, t1, t2, t3, t4⟩
        · refine wpAny_pyNext_zipD2_item (apart2 ha hb) (D1 _ hin) (D2 _ hin) q y.ti r ⟨y.i1, y.l1⟩ ⟨y.i2, y.l2⟩ hix hiy fun x1 x2 h' tk e1 e2 z' to' st1 st2 hT hsz kk => ?_
          refine hQ s1.heap.objs.size x1 x2 h' tk ⟨e1, e2⟩ (.inl ⟨_, hT, rfl, _, rfl⟩) ⟨⟨kk _ _ (neA (by omega)) (neA (by omega)) (neA (by omega)) (neA (by omega)) y.ti, st1.1, st2.1, st1.2, st2.2⟩, .inr ⟨s1.heap.objs.size, false, _, z', hT, lt q, g1, g2, Nat.ne_of_gt hds⟩⟩ fun c o hc e => ?_
          simp only [List.mem_cons, List.not_mem_nil, or_false, not_or] at hc
          exact kk c o hc.1 hc.2.1 hc.2.2.1 hc.2.2.2 e
        · refine next_held ha hb q qT y (Array.getElem?_eq_getElem hix) (Array.getElem?_eq_getElem hiy) fun h' z' two hT kk => ?_
          refine hQ s1.heap.objs.size _ _ h' s1.toks ⟨Array.getElem?_eq_getElem hix, Array.getElem?_eq_getElem hiy⟩ (.inl ⟨_, hT, rfl, _, rfl⟩) ⟨two, .inr ⟨T, true, oT, z', kk _ _ t1 t2 t3 qT, t1, t2, t3, t4⟩⟩ fun c o hc e => ?_
          simp only [List.mem_cons, List.not_mem_nil, or_false, not_or] at hc
          exact kk c o hc.1 hc.2.2.1 hc.2.2.2 e
      done := fun s1 Q1 E1 st hQ => by
        obtain ⟨y, st⟩ := st
        have hend : xs[min xs.size ys.size]? = none ∨ ys[min xs.size ys.size]? = none := by
          rcases Nat.le_total xs.size ys.size with h | h
          · exact .inl (Array.getElem?_eq_none (Nat.le_of_eq (Nat.min_eq_left h).symm))
          · exact .inr (Array.getElem?_eq_none (Nat.le_of_eq (Nat.min_eq_right h).symm))
        rcases st with ⟨q, u, v, r⟩ | ⟨T, f, oT, q, qT, t1, t2, t3, t4⟩
        · refine wpAny_pyNext_zipD2_end (apart2 ha hb) (D1 _ hin) (D2 _ hin) q y.ti r ⟨y.i1, y.l1⟩ ⟨y.i2, y.l2⟩ (Nat.min_le_left ..) (Nat.min_le_right ..) (by omega) fun h' tk kk => hQ h' tk fun c o hc e => ?_
          simp only [List.mem_cons, List.not_mem_nil, or_false, not_or] at hc
          exact kk c o hc.1 hc.2.1 hc.2.2.1 hc.2.2.2 e
        · refine stop_held hA ha hb q qT y hend fun h' kk => hQ h' s1.toks fun c o hc e => ?_
          simp only [List.mem_cons, List.not_mem_nil, or_false, not_or] at hc
          exact kk c o hc.1 hc.2.2.1 hc.2.2.2 e }
/-! ### dict(zip(texts, tuple)) -/
def tZD (K : PySem.W.Frag) (ta : TA) : TE := fun σ H Q => ta σ H fun vs H1 => ∃ (a b : Addr) (ss : List Str) (ys : List V), vs = [.ref a, .ref b] ∧ SqL K H1 a (ss.map V.str) ∧ SqT K H1 b ys ∧ ∀ p, H1 p = none → Q (.ref p) (upd H1 p (.dK (mergeK [] ((ss.map Sum.inr).zip ys))))
theorem kv_zip : ∀ {ss : List Str} {us : List Value} {ys : List V} {vs : List Value}, Vals (ss.map V.str) us → Vals ys vs → ∃ kvs : List (L2.Key × Value), L2.KV ((ss.map Sum.inr).zip ys) kvs ∧ kvs.length = min us.length vs.length ∧ ∀ (i : Nat) (k v : Value), us[i]? = some k → vs[i]? = some v → ∃ x, kvs[i]? = some (x, v) ∧ RelV (kV x) k
  | [], _, _, _, .nil, _ => ⟨[], .nil, by simp, fun i k v h _ => by simp at h⟩
  | s :: ss, _, [], _, .cons h r, .nil => ⟨[], .nil, by simp, fun i k v _ h => by simp at h⟩
  | s :: ss, u :: us, y :: ys, v :: vs, .cons h r, .cons h2 r2 => by
    obtain ⟨kvs, q1, q2, q3⟩ := kv_zip r r2
    refine ⟨(Sum.inr s, v) :: kvs, .cons ⟨rfl, h2⟩ q1, by rw [List.length_cons, List.length_cons, List.length_cons, q2]; omega, fun i k z e1 e2 => ?_⟩
    cases i with
    | zero =>
      cases e1
      cases e2
      exact ⟨Sum.inr s, rfl, h⟩
    | succ i => exact q3 i k z (by simpa using e1) (by simpa using e2)
theorem pe_zipDict {X : Cx} {e e2 : Expr} {ta : TA} {p p2 pos pos2 : Pos} (hc : X.calm = true) (gd : Gl X "dict") (md : X.mg "dict" = none) (gz : Gl X "zip") (mz : X.mg "zip" = none) (ha : PA X [e, e2] ta) (hs : starEach [e, e2] X.env = (false, eval e X.env) :: starEach [e2] X.env) (hpl : (backTo pos2 (starEach [e2] X.env)).any (·.1) = false) :
    PE X (.Call (.Name "dict" p) [.Call (.Name "zip" p2) [e, e2] [] pos2] [] pos) (tZD X.K ta) := by
  refine ⟨fun pins s σ H Q I h => Call_ (ld_blt I gd md PyProof.Rows.boot_dict (callWith_type1 (Calls.spliced_cons ?_)))⟩
  refine Call_ (ld_blt I gz mz boot_zip (callWith_type1 (thn (ha.run pos2 pins s σ H _ I h) fun us s1 ⟨vs, H1, I1, r1, a, b, ss, ys, ev, qx, qy, q⟩ => ?_) hs hpl))
  subst ev
  cases r1 with
  | cons ra rr =>
    cases rr with
    | cons rb rn =>
      cases rn
      cases ra
      cases rb
      obtain ⟨its, v1, p1, z1⟩ := I1.list qx
      obtain ⟨it2, v2, p2, z2⟩ := I1.tuple qy
      obtain ⟨o2, ho2, _⟩ := id p2
      have t2 : s1.heap.IsTuple b it2.toArray := p2
      refine call_zipM p1.isList t2 fun h' new => Calls.spliced_nil ?_
      have on : ∀ c o, s1.heap.get? c = some o → h'.get? c = some o := new.keep
      obtain ⟨kvs, q1, q2, q3⟩ := kv_zip v1 v2
      have sz : its.toArray.size = its.length ∧ it2.toArray.size = it2.length := ⟨List.size_toArray .., List.size_toArray ..⟩
      have hlen : kvs.length ≤ sizeLine := by
        have l1 := v1.length
        rw [q2]
        have := z1
        rw [l1] at this
        omega
      refine call_dict_pairs (knd := mixKind X.prog X.w) (kvs := kvs) (pairs_zipM p1.lt (Heap.lt_size ho2) its.toArray it2.toArray) (I1.ok.hd hc) ⟨⟨new.ti, new.i1, new.i2, p1.isList.at fun o e => on _ o e, t2.at fun o e => on _ o e⟩, new.z, _, _, new.to⟩ ⟨by rw [q2, sz.1, sz.2], fun i k v hk => ?_⟩ (by rw [sz.1, sz.2, ← q2]; exact hlen) fun h2 tk hd kk => ?_
      · obtain ⟨x, e1, e2⟩ := q3 i k v (by simpa using hk.1) (by simpa using hk.2)
        exact ⟨x, e1, kV_is e2⟩
      · have le : s1.heap.objs.size ≤ h'.objs.size := Nat.le_of_lt (Nat.lt_of_le_of_lt (Nat.le_add_right _ 4) (Heap.lt_size new.z))
        have big : (h'.objs.size == sysModules) = false := beq_eq_false_iff_ne.mpr (Nat.ne_of_gt (Nat.lt_of_lt_of_le I1.big le))
        have hm : (mergeK [] ((ss.map Sum.inr).zip ys)).length ≤ sizeLine := by
          have h3 := length_mergeK ((ss.map Sum.inr).zip ys) []
          rw [List.length_nil, Nat.zero_add, q1.length] at h3
          exact Nat.le_trans h3 hlen
        refine ⟨.ref h'.objs.size, upd H1 h'.objs.size (.dK (mergeK [] ((ss.map Sum.inr).zip ys))), I1.laid (t' := tk) (fun c o hc => ?_) le (dk_new hm big (KV.merge q1 .nil) hd), rfl, q _ (I1.hok.fresh le)⟩
        have hlt : c < s1.heap.objs.size := Heap.lt_size hc
        refine kk c o (fun hm => ?_) (on c o hc)
        simp only [List.mem_cons, List.not_mem_nil, or_false] at hm
        rcases hm with rfl | rfl | rfl | rfl
        · exact absurd hlt (Nat.not_lt.mpr (Nat.le_add_right _ 4))
        · exact absurd hlt (Nat.not_lt.mpr (Nat.le_add_right _ 3))
        · exact absurd hlt (Nat.lt_irrefl _)
        · exact absurd hlt (Nat.not_lt.mpr (Nat.le_add_right _ 1))
end PC
set_option linter.all false
set_option maxRecDepth 100000
set_option maxHeartbeats 3200000
set_option autoImplicit false
/-! PC, part x: sorted(set(..)) of a list of texts (raw rules, no core in sight). -/
namespace PC
open PySem PySem.Spec PyProof.Rows L2 PySem.Froz
/-- the set of the texts l at a, each once -/
structure SetS (P : Program) (w : PySem.World) (h : Heap) (a : Addr) (l : List Str) : Prop where
  ex : ∃ (es : Array (Int × Value)) (ep : Nat) (t : SetTable), h.get? a = some (sObj "set" (es, ep, t)) ∧ TxOk P w (es, ep, t) l ∧ Ris t.place.toList ∧ (w.params.followText "set-order" = true ∨ t.led = true)
  nd : l.Nodup
section
variable {P : Program} {w : PySem.World} {A : Around} {E : Value → Shared → Prop} {s : Shared} {a : Addr} {l : List Str}
theorem SetS.at {h h' : Heap} (R : SetS P w h a l) (k : ∀ o, h.get? a = some o → h'.get? a = some o) : SetS P w h' a l := by
  obtain ⟨⟨es, ep, t, ho, r⟩, nd⟩ := R
  exact ⟨⟨es, ep, t, k _ ho, r⟩, nd⟩
theorem tail_more {ep : Nat} {es : Array (Int × Value)} {t : SetTable} {b : Bool} (r : Ris t.place.toList) (hl : w.params.followText "set-order" = true ∨ t.led = true) : Ris (tailTx ep es t b).2.2.place.toList ∧ (w.params.followText "set-order" = true ∨ (tailTx ep es t b).2.2.led = true) := by
  unfold tailTx
  split
  · exact ⟨relayAll_ris t es _, hl.imp id fun z => by rw [show (relayAll t es (SetTable.grown es.size)).2.1.led = t.led from relayAll_led t es _]; exact z⟩
  · exact ⟨r, hl⟩
theorem add_more {h : Int} {v : Value} {es : Array (Int × Value)} {ep : Nat} {t : SetTable} (r : Ris t.place.toList) (hl : w.params.followText "set-order" = true ∨ t.led = true) : Ris (addTx h v (es, ep, t)).2.2.place.toList ∧ (w.params.followText "set-order" = true ∨ (addTx h v (es, ep, t)).2.2.led = true) := by
  have r1 := layNew_ris t es h v r
  have l1 : w.params.followText "set-order" = true ∨ (layNew t es h v).2.1.led = true := hl.imp id fun z => by rw [layNew_led]; exact z
  show Ris (tailTx ep (layNew t es h v).1 (if (layNew t es h v).2.1.plain = true then { (layNew t es h v).2.1 with plain := false } else (layNew t es h v).2.1) (layNew t es h v).2.2.1).2.2.place.toList ∧ _
  refine tail_more ?_ ?_
  · split <;> exact r1
  · split <;> exact l1
/-- a text that is there: nothing changes -/
theorem met_x {D : SD} {k : Str} {u : Tok} {Q : Bool → Shared → Prop} (ho : s.heap.get? a = some (sObj "set" D)) (T : TxOk P w D l) (hk : k ∈ l) (hb : l.length < scanBound) (h : Q false s) : wpAny (model P w) A (setAddHashed a (.str k u) (hashStr w k)) Q E s := by
  obtain ⟨es, ep, t⟩ := D
  have kd : (strKind P w).is k (.str k u) = true := is_str k u
  have el : ElemsOf (strKind P w) es.toList := T.el
  have hf : t.fits es.size = true := T.fit
  have sz : es.size = l.length := T.sz
  obtain ⟨e, he, ek⟩ := (T.mem k).mp hk
  unfold setAddHashed setAddHashedIn
  refine wpAny_holding (wpAny_bind (wpAny_setState_of ho (show (sObj "set" (es, ep, t)).data = .set es ep t from rfl) hf ?_))
  dsimp only
  rw [byScan_of rfl (by omega) el]; simp only [↓reduceIte]; unfold setAddByScan
  refine wpAny_bind (wpAny_bind (wpAny_rule (wpAny_bind (wpAny_setScan_of (knd := strKind P w) (k := k) kd ho (show (sObj "set" (es, ep, t)).data = .set es ep t from rfl) hf el ?_))))
  cases hi : List.findIdx? (fun e => (strKind P w).is k e.2) es.toList with
  | none =>
    have := List.findIdx?_eq_none_iff.mp hi e he
    rw [ek] at this
    cases this
  | some j => exact wpAny_pure (wpAny_pure h)
theorem setS_add {k : Str} {u : Tok} {Q : Bool → Shared → Prop} (R : SetS P w s.heap a l) (room : l.length + 1 < scanBound)
    (hQ : ∀ b h' l', Heap.SameBut a s.heap h' → SetS P w h' a l' → (∀ x, x ∈ l' ↔ x = k ∨ x ∈ l) → l'.length ≤ l.length + 1 → Q b { s with heap := h' }) : wpAny (model P w) A (setAddHashed a (.str k u) (hashStr w k)) Q E s := by
  obtain ⟨⟨es, ep, t, ho, T, r, hl⟩, nd⟩ := R
  by_cases hk : k ∈ l
  · refine met_x ho T hk (by omega) (hQ false s.heap l (Heap.SameBut.refl a s.heap) ⟨⟨es, ep, t, ho, T, r, hl⟩, nd⟩ (fun x => ⟨.inr, fun z => z.elim (fun e => by rw [e]; exact hk) id⟩) (Nat.le_succ _))
  · obtain ⟨r2, l2⟩ := add_more (h := hashStr w k) (v := .str k u) (es := es) (ep := ep) r hl
    refine add_x ho T hk room (hQ true _ (k :: l) (Heap.SameBut.update s.heap a _) ⟨⟨_, _, _, get_upd _ ho rfl, add_ok u T, r2, l2⟩, List.nodup_cons.mpr ⟨hk, nd⟩⟩ (fun x => List.mem_cons) (Nat.le_refl _))
/-! ### set(texts) -/
theorem set_strs_loop {I : Addr} {fp wr : List Addr} {G : Array GenState → Array GenState → Prop} {n : Nat} {Pv : Nat → Value → Prop} {St : Nat → Shared → Prop} {R : Result → Shared → Prop} (W : WalksS P w A.in1 I fp wr G n Pv St) (S : Addr) (hSf : S ∉ fp) (ss : List Str) (hn : n = ss.length) (hb : ss.length + 1 < scanBound)
    (hval : ∀ i v, Pv i v → ∃ k t, ss[i]? = some k ∧ v = .str k t) : ∀ (k i : Nat) (s : Shared) (l : List Str), n - i = k → i ≤ n → St i s → SetS P w s.heap S l → (∀ x, x ∈ l ↔ x ∈ ss.take i) → l.length ≤ i →
      (∀ s' l', Moved (S :: wr) G s s' → SetS P w s'.heap S l' → (∀ x, x ∈ l' ↔ x ∈ ss) → l'.length ≤ n → R (.ok (.ret .none)) s') → codeAny (model P w) A (.builtin "set.update.loop" ⟨[.ref S, .ref I], []⟩) R s := by
  have sw : S ∉ wr := fun h => hSf (W.sub _ h)
  have inc : ∀ b ∈ wr, b ∈ S :: wr := fun b hb => List.mem_cons_of_mem _ hb
  intro k
  induction k with
  | zero =>
    intro i s l hk hi hst hS hm hl hR
    have ein : i = n := by omega
    subst ein
    refine codeAny_builtin F.entry_set_update_loop ?_; rw [Around.under_plainId F.plain_set_update_loop _]
    show wpAny _ A.in1 (pyNext (.ref I) >>= _) _ _ s; refine wpAny_bind (W.done s _ _ hst fun s' mv => ?_)
    have et : ss.take i = ss := List.take_of_length_le (by omega)
    rw [et] at hm
    exact wpAny_pure (hR s' l (mv.mono inc) (hS.at fun o e => mv.heap S o sw e) hm hl)
  | succ k ih =>
    intro i s l hk hi hst hS hm hl hR
    have hlt : i < n := by omega
    refine codeAny_builtin F.entry_set_update_loop ?_; rw [Around.under_plainId F.plain_set_update_loop _]
    show wpAny _ A.in1 (pyNext (.ref I) >>= _) _ _ s; refine wpAny_bind (W.item i s _ _ hlt hst fun v s' hP hst' mv => ?_)
    obtain ⟨z, t, ez, rfl⟩ := hval i v hP
    have hS' : SetS P w s'.heap S l := hS.at fun o e => mv.heap S o sw e
    show wpAny _ A.in1 (holding [Value.str z t] (setAdd S (.str z t)) >>= _) _ _ s'
    refine wpAny_bind (wpAny_holding ?_); unfold setAdd; refine wpAny_holding (wpAny_bind ((strKind P w).pyHash (k := z) (is_str z t) ?_))
    refine setS_add (s := { s' with toks := s'.toks + 1 }) hS' (by omega) fun b h' l' sb hS2 m2 len2 => ?_
    refine wpAny_pure ⟨plainId_quiet F.plain_set_update_loop _, ih (i + 1) _ l' (by omega) hlt (W.frame _ s' _ _ hst' (Nat.le_succ _) fun b hb o e => ?_) hS2 (fun x => ?_) (by omega) fun s2 l2 mv2 hS3 m3 len3 => ?_⟩
    · exact (sb.2 b (fun q : b = S => hSf (by rw [← q]; exact hb))).trans e
    · rw [m2, hm, List.take_add_one, ez, List.mem_append]
      simp only [Option.toList_some, List.mem_singleton]
      exact Or.comm
    · refine hR s2 l2 (Moved.trans W.gtrans ((mv.mono inc).then_heap (Nat.le_succ _) fun b o hb e => ?_) mv2) hS3 m3 len3
      exact (sb.2 b (fun q : b = S => hb (by rw [q]; exact List.mem_cons_self))).trans e
abbrev newS (w : PySem.World) : Obj := { cls := .type "set", dict := none, data := .set #[] 0 (.fresh 0 0 (!w.params.followText "set-order")) }
theorem newS_ok {h : Heap} (ho : h.get? a = some (newS w)) : SetS P w h a [] := ⟨⟨#[], 0, _, ho, .nil (by rfl), List.Pairwise.nil, by
  show _ ∨ (!w.params.followText "set-order") = true
  cases w.params.followText "set-order"
  · exact .inr rfl
  · exact .inl rfl⟩, List.nodup_nil⟩
theorem call_set_strs {b : Addr} {items : Array Value} {ss : List Str} {Q : Value → Shared → Prop} (hh : A.handled = none) (qb : s.heap.IsList b items) (qs : Vals (ss.map V.str) items.toList) (room : ss.length + 1 < scanBound)
    (k : ∀ (h' : Heap) (tk : Nat) (l' : List Str), SetS P w h' s.heap.objs.size l' → (∀ x, x ∈ l' ↔ x ∈ ss) → l'.length ≤ ss.length → (∀ c o, s.heap.get? c = some o → h'.get? c = some o) → Q (.ref s.heap.objs.size) { s with heap := h', toks := tk }) : wpAny (model P w) A (call (.type "set") [.ref b]) Q E s := by
  have isz : items.size = ss.length := by
    have q : (ss.map V.str).length = items.toList.length := Paired.length qs
    rw [List.length_map, Array.length_toList] at q
    exact q.symm
  obtain ⟨cc, tl, hmro⟩ := F.called_set.mro; have hmade := F.called_set.made; have hsub := F.called_set.sub
  refine wpAny_call (codeAny_of_tree ?_); show wpAny _ _ (callAny (.type "set") _) _ _ _
  refine wpAny_pure ⟨Code.quiet_builtin _ (by decide +kernel), codeAny_builtin F.entry_type_call ?_⟩; rw [Around.under_plain (weight_type_call_type "set" [.ref b] []) rfl]
  have h1 := F.called_set.notType; have h2 := F.called_set.canCreate; have hct := F.typeCall_set_1 (.ref b)
  repeat (any_goals (first | assumption | wp_step))
  refine codeAny_mono (code_set_led1 (.ref b) (E := E) (Q₁ := fun ob s1 => ob = .ref s.heap.objs.size ∧ s1 = { s with heap := s.heap.push (newS w) }) ⟨rfl, rfl⟩) fun r s1 hr => ?_
  cases r with
  | error e => exact hr
  | ok fl =>
    cases fl with
    | ret ob =>
      obtain ⟨rfl, rfl⟩ := hr
      have oS : (s.heap.push (newS w)).get? s.heap.objs.size = some (newS w) := Heap.get?_push_size _ rfl
      have tS : Shared.TypeIs { s with heap := s.heap.push (newS w) } (.ref s.heap.objs.size) "set" := ⟨_, oS, rfl⟩
      have hli := F.called_set.init.lookup; have hbi := F.called_set.init.bind (.ref s.heap.objs.size)
      repeat (any_goals (first | assumption | wp_step))
      refine codeAny_mono (codeAny_call_builtin (R := wants (fun r s2 => r = .none ∧ ∃ h' tk l', s2 = { s with heap := h', toks := tk } ∧ SetS P w h' s.heap.objs.size l' ∧ (∀ x, x ∈ l' ↔ x ∈ ss) ∧ l'.length ≤ ss.length ∧ ∀ c o, s.heap.get? c = some o → h'.get? c = some o) E) F.called_set.init.plain F.entry_set_init (check_set_init_1 tS ?_)) fun r2 s2 hr2 => ?_
      · obtain ⟨⟨ocl, odi, oda, osl⟩, hob, hoc, nb, hod⟩ := qb
        simp only at hoc hod
        subst hoc hod
        have hob2 : (s.heap.push (newS w)).get? b = some { cls := .type "list", dict := odi, data := .seq items nb, slots := osl } := Heap.get?_push_of_some _ hob
        have f1 := F.sub_list_set; have f2 := F.sub_list_frozenset; have f3 : (Value.type "list" == Value.type "dict") = false := by decide
        have ql : (s.heap.push (newS w)).IsList b items := ⟨_, hob2, rfl, nb, rfl⟩
        unfold Builtin.«set.__init__» noKeywords Builtin.Frozenset.updateFrom; generalize hPI : pyIter = PI; wp_walk; subst hPI
        refine wpAny_pyIter_list ql (wpAny_bind (wpAny_runValue ?_))
        have bS : b < s.heap.objs.size := Heap.lt_size hob
        have h3 : A.in1.in1.in1.handled = none := hh
        have z1 : (s.heap.push (newS w)).objs.size = s.heap.objs.size + 1 := Heap.size_push ..
        have nI : b ≠ (s.heap.push (newS w)).objs.size := by rw [z1]; exact Nat.ne_of_lt (Nat.lt_succ_of_lt bS)
        have nf : s.heap.objs.size ∉ [(s.heap.push (newS w)).objs.size, b] := by
          rw [z1]
          intro h
          rcases List.mem_cons.mp h with e | h
          · exact Nat.ne_of_lt (Nat.lt_succ_self _) e
          · exact Nat.ne_of_gt bS (List.mem_singleton.mp h)
        have val : ∀ (i : Nat) (v : Value), items[i]? = some v → ∃ k t, ss[i]? = some k ∧ v = .str k t := fun i v hv => by
          have hi : i < ss.length := by rw [← isz]; exact (Array.getElem?_eq_some_iff.mp hv).1
          have e1 : (ss.map V.str)[i]? = some (.str ss[i]) := by
            rw [List.getElem?_map, List.getElem?_eq_getElem hi]
            rfl
          obtain ⟨u, e2, e3⟩ := qs.get e1
          rw [Array.getElem?_toList, hv] at e2
          cases e2
          obtain ⟨t, e3⟩ := e3
          exact ⟨ss[i], t, List.getElem?_eq_getElem hi, e3⟩
        refine set_strs_loop ((Walks.list h3 _ b nI items).toS) s.heap.objs.size nf ss isz room val (items.size - 0) 0 _ [] (by omega) (Nat.zero_le _) ⟨⟨_, Heap.get?_push_size _ rfl, rfl, rfl⟩, (ql.push _)⟩ (newS_ok (Heap.get?_push_of_some _ oS)) (fun x => by simp) (Nat.le_refl _) fun s' l' mv hS' m' len' => ?_
        obtain ⟨h', g2, d', tk', os'⟩ := s'
        have eg : g2 = s.gens := mv.gens
        have ed : d' = s.drawn := mv.drawn
        have eo : os' = s.os := mv.os
        subst eg ed eo
        show wpAny _ _ _ _ _ _
        refine wpAny_pure ?_
        show wpAny _ _ (ret Value.none) _ _ _
        rw [isz] at len'
        refine wpAny_pure ⟨rfl, h', tk', l', rfl, hS', m', len', fun c o e => mv.heap c o (fun h => ?_) (Heap.get?_push_of_some _ (Heap.get?_push_of_some _ e))⟩
        have c0 : c < s.heap.objs.size := Heap.lt_size e
        rcases List.mem_cons.mp h with q | h
        · exact Nat.ne_of_lt c0 q
        · have q := List.mem_singleton.mp h
          rw [q, z1] at c0
          exact absurd c0 (Nat.not_lt.mpr (Nat.le_succ _))
      · cases r2 with
        | error e => exact hr2
        | ok f2 =>
          cases f2 with
          | ret r =>
            obtain ⟨rfl, h', tk, l', rfl, hS', m', len', kp⟩ := hr2
            repeat (any_goals (first | assumption | wp_step))
            exact k _ _ _ hS' m' len' kp
          | _ => exact hr2.elim
    | _ => exact hr.elim
end
end PC
set_option linter.all false
set_option maxRecDepth 100000
set_option maxHeartbeats 3200000
set_option autoImplicit false
/-! PC, part xb: sorted of a set of texts. -/
namespace PC
open PySem PySem.Spec PyProof.Rows L2 PySem.Froz
def txtV : Value → Str
  | .str k _ => k
  | _ => ⟨#[]⟩
theorem txt_strs : ∀ {vs : List Value}, (∀ v ∈ vs, ∃ k t, v = Value.str k t) → StrsAre vs (vs.map txtV)
  | [], _ => .nil
  | v :: vs, h => by
    obtain ⟨k, t, e⟩ := h v List.mem_cons_self
    subst e
    exact .cons k t (txt_strs fun u hu => h u (List.mem_cons_of_mem _ hu))
theorem perm_same : ∀ {l k : List Str}, l.Nodup → (∀ x ∈ l, x ∈ k) → k.length ≤ l.length → k.Perm l
  | [], k, _, _, hl => by
    have q : k = [] := List.eq_nil_of_length_eq_zero (Nat.le_zero.mp hl)
    rw [q]
  | x :: r, k, d, hm, hl => by
    obtain ⟨d1, d2⟩ := List.nodup_cons.mp d
    have hx : x ∈ k := hm x List.mem_cons_self
    have p := List.perm_cons_erase hx
    refine p.trans (List.Perm.cons x (perm_same d2 (fun y hy => ?_) ?_))
    · have ne : y ≠ x := fun z => d1 (z ▸ hy)
      exact (List.mem_erase_of_ne ne).mpr (hm y (List.mem_cons_of_mem _ hy))
    · rw [List.length_erase_of_mem hx]
      have q : (x :: r).length = r.length + 1 := rfl
      omega
section
variable {P : Program} {w : PySem.World} {A : Around} {E : Value → Shared → Prop} {s : Shared} {a : Addr} {l : List Str}
theorem sorted_setS {Q : Value → Shared → Prop} (R : SetS P w s.heap a l) (hh : A.handled = none) (hL : l.length ≤ sizeLine) (hb : l.length < scanBound)
    (hQ : ∀ s' p (out : Array Value) (c : Nat) (zs : List Str), (∀ b o, s.heap.get? b = some o → s'.heap.get? b = some o) → s'.gens = s.gens → s'.os = s.os → s.heap.objs.size ≤ p →
      s'.heap.get? p = some (seqObj "list" out c) → StrsAre out.toList zs → zs.Perm l → sortedS zs = true → Q (.ref p) s') :
    wpAny (model P w) A (call (.builtin "sorted") [.ref a]) Q E s := by
  obtain ⟨⟨es, ep, t, ho, T, r, hl⟩, nd⟩ := R
  have sz : es.size = l.length := T.sz
  have el : ElemsOf (strKind P w) es.toList := T.el
  have vstr : ∀ v ∈ es.toList.map (·.2), ∃ k t, v = Value.str k t := fun v hv => by
    obtain ⟨e, he, q⟩ := List.mem_map.mp hv
    obtain ⟨⟨k, h1, _⟩, _⟩ := el e he
    obtain ⟨t, h2⟩ := Value.isStrOf_shape h1
    exact ⟨k, t, by rw [← q]; exact h2⟩
  refine Calls.call_function_entry kind_sorted plain_sorted entry_sorted (args_sorted1 _) ?_; unfold Builtin.«sorted»
  refine wpAny_bind (m := checkCount "sorted" 1 1 _) (wpAny_pure ?_); refine wpAny_bind (collect_set (A := A.in1) hh ⟨_, ho, rfl, rfl⟩ T.fit (show es.size < scanBound by omega) r hl fun s1 vs k1 hz g1 o1 pm => ?_)
  have hvl : vs.length = l.length := by rw [pm.length_eq, List.length_map, Array.length_toList]; exact sz
  have hS : StrsAre vs (vs.map txtV) := txt_strs fun v hv => vstr v (pm.mem_iff.mp hv)
  have pk : (vs.map txtV).Perm l := by
    refine perm_same nd (fun x hx => ?_) (by rw [List.length_map, hvl]; exact Nat.le_refl _)
    obtain ⟨e, he, ek⟩ := (T.mem x).mp hx
    obtain ⟨t, h2⟩ := Value.isStrOf_shape ek
    refine List.mem_map.mpr ⟨e.2, pm.mem_iff.mpr (List.mem_map.mpr ⟨e, he, rfl⟩), ?_⟩
    rw [h2]
    rfl
  refine wpAny_bind (wpAny_newList ?_ (by rw [hvl]; exact hL))
  have hoL : (s1.heap.push (seqObj "list" vs.toArray 0)).get? s1.heap.objs.size = some (seqObj "list" vs.toArray 0) := Heap.get?_push_size _ rfl
  refine wpAny_bind (wpAny_holding (wpAny_call_entry slot_list_sort ⟨_, hoL, rfl⟩ entry_list_sort (list_sort_treeKAny strKind_oneLt hoL hS.keysOf (fun v₁ v₂ rest e => keyKind_strs (by rw [← e]; exact hS)) (by rw [hvl]; exact hL) fun st' hp hs => ⟨_, rfl, ?_⟩) (args_list_sort _)))
  obtain ⟨ys, y1, y2, y3⟩ := sorted_out_str hS hp hs
  obtain ⟨c, hc⟩ := sortedHeap_at (vs := vs) (out := (arrOf st').map (·.2)) hoL
  refine wpAny_pure ⟨_, rfl, hQ _ s1.heap.objs.size _ c ys (fun b u e => ?_) g1 o1 hz hc y1 (y2.trans pk) y3⟩
  have q := k1 b u e
  have hlt := Heap.lt_size q
  show (sortedHeap (s1.heap.push (seqObj "list" vs.toArray 0)) s1.heap.objs.size vs _).get? b = some u
  rw [sortedHeap_old (Nat.ne_of_lt hlt) (by rw [size_push']; exact Nat.lt_succ_of_lt hlt)]
  exact Heap.get?_push_of_some _ q
end
end PC
set_option linter.all false
set_option maxRecDepth 100000
set_option maxHeartbeats 3200000
set_option autoImplicit false
/-! PC, part xc: sorted(set(e)), e a list of texts. -/
namespace PC
open PySem PySem.Spec PyProof.Rows L2
def tSS (K : PySem.W.Frag) (ta : TA) : TE := fun σ H Q => ta σ H fun vs H1 => ∃ (a : Addr) (ss : List Str), vs = [.ref a] ∧ SqL K H1 a (ss.map V.str) ∧ ss.length < 64 ∧
  ∀ (p : Addr) (zs : List Str), H1 p = none → zs.Nodup → (∀ x, x ∈ zs ↔ x ∈ ss) → zs.length ≤ ss.length → sortedS zs = true → Q (.ref p) (upd H1 p (.lst (zs.map V.str)))
theorem pe_setSorted {X : Cx} {e : Expr} {ta : TA} {p p2 pos pos2 : Pos} (hc : X.calm = true) (gd : Gl X "sorted") (md : X.mg "sorted" = none) (gz : Gl X "set") (mz : X.mg "set" = none) (ha : PA X [e] ta) (hs : starEach [e] X.env = (false, eval e X.env) :: starEach [] X.env) :
    PE X (.Call (.Name "sorted" p) [.Call (.Name "set" p2) [e] [] pos2] [] pos) (tSS X.K ta) := by
  refine ⟨fun pins s σ H Q I h => Call_ (ld_blt I gd md boot_sorted (PyProof.Rows.callWith_builtin1 (Calls.spliced_cons ?_)))⟩
  refine Call_ (ld_blt I gz mz PyProof.Rows.boot_set (PyProof.Rows.callWith_type1 (thn (ha.run pos2 pins s σ H _ I h) fun us s1 ⟨vs, H1, I1, r1, a, ss, ev, ho, h64, q⟩ => ?_) hs rfl))
  subst ev
  rw [Vals.ref1 r1]
  obtain ⟨its, v1, p1, z1⟩ := I1.list ho
  have zl : ss.length + 1 < scanBound := Nat.lt_trans (Nat.succ_lt_succ h64) (by decide)
  refine call_set_strs (I1.ok.hd hc) (b := a) p1.isList v1 zl fun h' tk l' hS hm hl kp => Calls.spliced_nil ?_
  have le : s1.heap.objs.size ≤ h'.objs.size := by
    obtain ⟨⟨es, ep, t, hx, _⟩, _⟩ := hS
    exact Nat.le_of_lt (Heap.lt_size hx)
  refine sorted_setS (s := { s1 with heap := h', toks := tk }) hS (I1.ok.hd hc) (Nat.le_trans (Nat.le_of_lt (Nat.lt_of_le_of_lt hl h64)) (by decide)) (by omega) fun s' p out c zs k g o hp hg hi pm hsrt => ?_
  have hp1 : s1.heap.objs.size ≤ p := Nat.le_trans le hp
  have hn : H1 p = none := I1.hok.fresh hp1
  have kk : ∀ b o, s1.heap.get? b = some o → s'.heap.get? b = some o := fun b o e => k b o (kp b o e)
  have zz : zs.length ≤ ss.length := by rw [pm.length_eq]; exact hl
  have hlen : (zs.map V.str).length ≤ sizeLine := by rw [List.length_map]; exact Nat.le_trans (Nat.le_of_lt (Nat.lt_of_le_of_lt zz h64)) (by decide)
  have J : Inv X pins σ (upd H1 p (.lst (zs.map V.str))) { s1 with heap := s'.heap, gens := s'.gens, drawn := s'.drawn, toks := s'.toks } := I1.call (ch := []) (Un.laid kk hp1 hn) (I1.hok.laid kk hp1 ⟨hlen, out.toList, c, vals_of_strs hi, hg⟩) (by rw [g]; exact I1.bare) (fun _ z => nomatch z)
  have e : s' = { s1 with heap := s'.heap, gens := s'.gens, drawn := s'.drawn, toks := s'.toks } := by
    cases s'; cases s1; cases o; rfl
  rw [e]
  exact ⟨.ref p, _, J, rfl, q p zs hn (pm.nodup_iff.mpr hS.nd) (fun x => by rw [pm.mem_iff]; exact hm x) zz hsrt⟩
end PC
set_option autoImplicit true
set_option linter.all false
set_option maxRecDepth 100000
/-! PC, part a: a small core of Python over tree values, and its evaluator. No program in sight. -/
namespace PC
open PySem
abbrev Key := Int ⊕ Str
/-- tree values; rf: a shared mutable list by its number in the store -/
inductive PV where
  | non | bl (b : Bool) | int (i : Int) | str (s : Str)
  | tup (xs : List PV) | lst (xs : List PV) | dct (kvs : List (Key × PV))
  | rf (k : Nat)
deriving Inhabited
/-- the shared mutable lists -/
abbrev Store := List (List PV)
inductive R (α : Type) where
  | ok (a : α) (st : Store) | exc (c : Str) (fs : List (Str × PV)) (st : Store) | bad
def R.bind {α β : Type} (r : R α) (f : α → Store → R β) : R β := match r with
  | .ok a st => f a st
  | .exc c fs st => .exc c fs st
  | .bad => .bad
/-- a name's value: a plain one, or a list or dict of which nobody else knows -/
inductive Slot where
  | val (v : PV) | own (v : PV)
abbrev Env := List (Option Slot)
/-- one-argument built-ins -/
inductive B1 where
  | len | all | any | tuple | list | sorted | dict | int | setSorted | bool | set
deriving DecidableEq
inductive B2 where
  | max | zipDict
deriving DecidableEq
/-- what a loop's target stores: one name, or the parts of a pair, .. -/
inductive Tg where
  | one (i : Nat) | many (is : List Nat)
mutual
inductive CE where
  | var (i : Nat) | con (v : PV)
  | tup (es : CA) | lst (es : CA) | dsp (es : CA)
  | bin (op : Operator) (a b : CE) | cmp (op : CmpOp) (a b : CE) | neg (a : CE)
  | not (a : CE) | and (a b : CE) | or (a b : CE) | ifx (t a b : CE)
  | sub (a i : CE) | slc (a : CE) (lo hi : CO)
  | call (f : Str) (es : CA) | b1 (f : B1) (a : CE) | b2 (f : B2) (a b : CE)
  | isi (a : CE) (ts : List String)
  | get2 (o k d : CE)
  | lc (own : List Nat) (tg : Tg) (src : CS) (c : CO) (elt : CE)
  | dc (own : List Nat) (tg : Tg) (src : CS) (c : CO) (k v : CE)
  | part (c fld : Str) (body : CE)
inductive CA where
  | nil | cons (e : CE) (r : CA) | star (e : CE) (r : CA)
inductive CO where
  | no | some (e : CE)
inductive CS where
  | of (a : CE) | keys (i : Nat) | range (a : CE) | zip (a b : CE) | enum (a : CE)
end
/-! ### operations by values -/
def big : Nat := 16777216
mutual
def PV.data : PV → Option PyData
  | .non => some .none
  | .bl b => some (.bool b)
  | .int i => some (.int i)
  | .str s => some (.str s)
  | .tup xs => (PV.dataL xs).map .tuple
  | .lst xs => (PV.dataL xs).map .list
  | .dct _ => none
  | .rf _ => none
def PV.dataL : List PV → Option (List PyData)
  | [] => some []
  | x :: xs => match PV.data x, PV.dataL xs with
    | some d, some ds => some (d :: ds)
    | _, _ => none
end
def eqP (a b : PV) : Option Bool := match a.data, b.data with
  | some d, some e => if SeqAt.shaped d = true ∧ SeqAt.shaped e = true then some (PyData.eqv d e) else none
  | _, _ => none
def kP : Key → PV
  | .inl i => .int i
  | .inr x => .str x
def toKey : PV → Option Key
  | .int i => some (.inl i)
  | .str x => some (.inr x)
  | _ => none
def dget (kvs : List (Key × PV)) (k : Key) : Option PV := (kvs.find? fun kv => decide (kv.1 = k)).map (·.2)
def dput (kvs : List (Key × PV)) (k : Key) (v : PV) : List (Key × PV) :=
  if (kvs.any fun kv => decide (kv.1 = k)) = true then kvs.map fun kv => if kv.1 = k then (kv.1, v) else kv else kvs ++ [(k, v)]
def dmerge (kvs more : List (Key × PV)) : List (Key × PV) := more.foldl (fun acc kv => dput acc kv.1 kv.2) kvs
def flatP : PV → Bool
  | .non => true
  | .bl _ => true
  | .int _ => true
  | .str _ => true
  | _ => false
/-- == of flat values -/
def eqF : PV → PV → Bool
  | .non, .non => true
  | .bl a, .bl b => a == b
  | .bl a, .int b => (if a then 1 else 0) == b
  | .int a, .bl b => a == (if b then 1 else 0)
  | .int a, .int b => a == b
  | .str a, .str b => a == b
  | _, _ => false
def inF (x : PV) (xs : List PV) : Bool := xs.any fun y => eqF y x
def atP (xs : List PV) (i : Int) : Option PV := if 0 ≤ i then (if i < xs.length then xs[i.toNat]? else none) else if -(xs.length : Int) ≤ i then xs[(i + xs.length).toNat]? else none
def binP (op : Operator) (x y : PV) : Option PV := match op, x, y with
  | .Add, .int i, .int j => some (.int (i + j))
  | .Add, .str a, .str b => if a.length + b.length ≤ big then some (.str (a ++ b)) else none
  | .Add, .lst a, .lst b => if a.length + b.length ≤ big then some (.lst (a ++ b)) else none
  | .Add, .tup a, .tup b => if a.length + b.length ≤ big then some (.tup (a ++ b)) else none
  | .Sub, .int i, .int j => some (.int (i - j))
  | .Mult, .int i, .int j => if (-(2 ^ 64) < i ∧ i < 2 ^ 64) ∨ (-(2 ^ 64) < j ∧ j < 2 ^ 64) then some (.int (i * j)) else none
  | .FloorDiv, .int i, .int j => if 0 < j ∧ j < 1073741824 then some (.int (i / j)) else none
  | .Mod, .int i, .int j => if 0 < j then some (.int (i % j)) else none
  | .Pow, .int i, .int j => if 0 ≤ j ∧ j ≤ 1000000 ∧ i.natAbs < 2 ^ 64 then some (.int (i ^ j.toNat)) else none
  | _, _, _ => none
def isin (x : PV) (y : PV) : Option Bool := match y with
  | .lst ys => if flatP x = true ∧ ys.all flatP = true then some (inF x ys) else none
  | .tup ys => if flatP x = true ∧ ys.all flatP = true then some (inF x ys) else none
  | .dct kvs => (toKey x).map fun k => (dget kvs k).isSome
  | _ => none
def cmpP (op : CmpOp) (x y : PV) : Option Bool := match op with
  | .Eq => eqP x y
  | .NotEq => (eqP x y).map (!·)
  | .Lt => match x, y with | .int i, .int j => some (decide (i < j)) | _, _ => none
  | .LtE => match x, y with | .int i, .int j => some (decide (i ≤ j)) | _, _ => none
  | .Gt => match x, y with | .int i, .int j => some (decide (j < i)) | _, _ => none
  | .GtE => match x, y with | .int i, .int j => some (decide (j ≤ i)) | _, _ => none
  | .In => isin x y
  | .NotIn => (isin x y).map (!·)
  | _ => none
def ins {α : Type} (le : α → α → Bool) (a : α) : List α → List α
  | [] => [a]
  | b :: r => if le a b = true then a :: b :: r else b :: ins le a r
def isort {α : Type} (le : α → α → Bool) : List α → List α
  | [] => []
  | a :: r => ins le a (isort le r)
def leI (a b : Int) : Bool := decide (a ≤ b)
def leS (a b : Str) : Bool := !PySem.Spec.ltCps b.cps.toList a.cps.toList
def sortI : List Int → List Int := isort leI
def sortS : List Str → List Str := isort leS
def intsP : List PV → Option (List Int)
  | [] => some []
  | .int i :: r => (intsP r).map (i :: ·)
  | _ => none
def strsP : List PV → Option (List Str)
  | [] => some []
  | .str i :: r => (strsP r).map (i :: ·)
  | _ => none
def boolsP : List PV → Option (List Bool)
  | [] => some []
  | .bl i :: r => (boolsP r).map (i :: ·)
  | _ => none
def pairOf : PV → Option (Key × PV)
  | .tup xs => (match xs with
    | [k, v] => (toKey k).map fun k => (k, v)
    | _ => none)
  | _ => none
def pairsP : List PV → Option (List (Key × PV))
  | [] => some []
  | d :: r => match pairOf d, pairsP r with
    | some p, some r => some (p :: r)
    | _, _ => none
def keysI (kvs : List (Key × PV)) : Option (List Int) := intsP (kvs.map fun kv => kP kv.1)
def keysS (kvs : List (Key × PV)) : Option (List Str) := strsP (kvs.map fun kv => kP kv.1)
/-- the things in a row, sorted, each once -/
def sortL (xs : List PV) : Option PV := match intsP xs with
  | some is => some (.lst ((sortI is).map .int))
  | none => match strsP xs with
    | some ss => if ss.length < 64 then some (.lst ((sortS ss).map .str)) else none
    | none => none
def b1P (f : B1) (x : PV) : Option PV := match f, x with
  | .len, .lst xs => some (.int xs.length)
  | .len, .tup xs => some (.int xs.length)
  | .len, .dct kvs => some (.int kvs.length)
  | .all, .lst xs => (boolsP xs).map fun bs => .bl (bs.all id)
  | .any, .lst xs => (boolsP xs).map fun bs => .bl (bs.any id)
  | .tuple, .lst xs => some (.tup xs)
  | .tuple, .tup xs => some (.tup xs)
  | .list, .lst xs => some (.lst xs)
  | .list, .tup xs => some (.lst xs)
  | .int, .int i => some (.int i)
  | .int, .bl b => some (.int (if b then 1 else 0))
  | .sorted, .lst xs => sortL xs
  | .sorted, .dct kvs => if kvs.length < 64 then sortL (kvs.map fun kv => kP kv.1) else none
  | .dict, .lst xs => (pairsP xs).map fun kvs => .dct (dmerge [] kvs)
  | .dict, .dct kvs => some (.dct kvs)
  | .setSorted, .lst xs => match strsP xs with
    | some ss => if ss.length < 64 then some (.lst ((sortS ss.eraseDups).map .str)) else none
    | none => none
  | _, _ => none
def b2P (f : B2) (x y : PV) : Option PV := match f, x, y with
  | .max, .int i, .int j => some (.int (if j > i then j else i))
  | .zipDict, .lst xs, .tup ys => match strsP xs with
    | some ss => some (.dct (dmerge [] ((ss.map Sum.inr).zip ys)))
    | none => none
  | _, _, _ => none
def cutP (xs : List PV) (lo hi : Option Int) : List PV := (xs.drop (HT.sIx xs.length 0 lo)).take (HT.sIx xs.length xs.length hi - HT.sIx xs.length 0 lo)
def slcP (x : PV) (lo hi : Option Int) : Option PV := match x with
  | .tup xs => some (.tup (cutP xs lo hi))
  | .lst xs => some (.lst (cutP xs lo hi))
  | _ => none
def tyOf : PV → Option String
  | .non => some "NoneType"
  | .bl _ => some "bool"
  | .int _ => some "int"
  | .str _ => some "str"
  | .tup _ => some "tuple"
  | .lst _ => some "list"
  | .dct _ => some "dict"
  | .rf _ => none
/-- isinstance of built-in types -/
def isiP (t : String) (ts : List String) : Bool := ts.any fun u => u == t || (t == "bool" && u == "int")
def subP (st : Store) (x i : PV) : Option PV := match x, i with
  | .tup xs, .int i => atP xs i
  | .lst xs, .int i => atP xs i
  | .rf k, .int i => match st[k]? with | some xs => atP xs i | none => none
  | .dct kvs, k => (toKey k).bind fun k => dget kvs k
  | _, _ => none
def iterP : PV → Option (List PV)
  | .lst xs => some xs
  | .tup xs => some xs
  | _ => none
def kvPairs : List PV → Option (List (Key × PV))
  | [] => some []
  | k :: v :: r => match toKey k, kvPairs r with
    | some k, some r => some ((k, v) :: r)
    | _, _ => none
  | _ => none
/-- what a target stores -/
def Tg.put (t : Tg) (v : PV) (ρ : Env) : Option Env := match t, v with
  | .one i, v => some (ρ.set i (some (.val v)))
  | .many is, .tup vs => if is.length = vs.length then some ((is.zip vs).foldl (fun ρ p => ρ.set p.1 (some (.val p.2))) ρ) else none
  | _, _ => none
def wipeE (ρ : Env) : List Nat → Env
  | [] => ρ
  | v :: vs => (wipeE ρ vs).set v none
def R.of {α : Type} (o : Option α) (st : Store) : R α := match o with
  | some a => .ok a st
  | none => .bad
/-- a value that is only looked at -/
def vw (c : CE) (ρ : Env) (st : Store) (r : R PV) : R PV := match c with
  | .var i => match ρ[i]? with
    | some (some (.val v)) => .ok v st
    | some (some (.own v)) => .ok v st
    | _ => .bad
  | _ => r
/-- nothing is told of an error within a comprehension -/
def R.quiet {α : Type} : R α → R α
  | .ok a st => .ok a st
  | _ => .bad
def addO (y : Option PV) (ys : List PV) : List PV := match y with
  | some y => y :: ys
  | none => ys
def addD (y : Option (Key × PV)) (acc : List (Key × PV)) : List (Key × PV) := match y with
  | some kv => dput acc kv.1 kv.2
  | none => acc
/-- the turns of a comprehension: f gives what is added, if anything -/
def turns (f : PV → Store → R (Option PV)) : List PV → Store → R (List PV)
  | [], st => .ok [] st
  | x :: xs, st => (f x st).quiet.bind fun y st => (turns f xs st).bind fun ys st => .ok (addO y ys) st
def turnsD (f : PV → Store → R (Option (Key × PV))) : List PV → List (Key × PV) → Store → R (List (Key × PV))
  | [], acc, st => .ok acc st
  | x :: xs, acc, st => (f x st).quiet.bind fun y st => turnsD f xs (addD y acc) st
/-- a test's answer where a test is wanted (only truth values are tested) -/
def fin (t : Bool) (v : PV) (st : Store) : R PV := if t then (match v with | .bl b => .ok (.bl b) st | _ => .bad) else .ok v st
/-- what is told of a deed that may raise a c: its field, or a text -/
def partR (c fld : Str) : R PV → R PV
  | .ok _ st => .ok (.str "none") st
  | .exc c' [(f, v)] st => if c' = c ∧ f = fld then .ok v st else .bad
  | _ => .bad
abbrev Ops := Str → List PV → Store → R PV
mutual
def ev (G : Ops) : CE → Bool → Env → Store → R PV
  | .var i, t, ρ, st => match ρ[i]? with
    | some (some (.val v)) => fin t v st
    | _ => .bad
  | .con v, t, _, st => fin t v st
  | .tup es, t, ρ, st => if t then .bad else (evA G es ρ st).bind fun xs st => if xs.length ≤ big then .ok (.tup xs) st else .bad
  | .lst es, t, ρ, st => if t then .bad else (evA G es ρ st).bind fun xs st => if xs.length ≤ big then .ok (.lst xs) st else .bad
  | .dsp es, t, ρ, st => if t then .bad else (evA G es ρ st).bind fun xs st => match kvPairs xs with
    | some kvs => if kvs.length ≤ 15 then .ok (.dct (dmerge [] kvs)) st else .bad
    | none => .bad
  | .bin op a b, t, ρ, st => if t then .bad else (vw a ρ st (ev G a false ρ st)).bind fun x st => (vw b ρ st (ev G b false ρ st)).bind fun y st => R.of (binP op x y) st
  | .cmp op a b, _, ρ, st => (vw a ρ st (ev G a false ρ st)).bind fun x st => (vw b ρ st (ev G b false ρ st)).bind fun y st => R.of ((cmpP op x y).map .bl) st
  | .neg a, t, ρ, st => if t then .bad else (ev G a false ρ st).bind fun x st => match x with
    | .int i => .ok (.int (-i)) st
    | _ => .bad
  | .not a, t, ρ, st => (ev G a t ρ st).bind fun x st => match x with
    | .bl b => .ok (.bl (!b)) st
    | _ => .bad
  | .and a b, t, ρ, st => (ev G a t ρ st).bind fun x st => match x with
    | .bl true => ev G b t ρ st
    | .bl false => .ok (.bl false) st
    | _ => .bad
  | .or a b, t, ρ, st => (ev G a t ρ st).bind fun x st => match x with
    | .bl true => .ok (.bl true) st
    | .bl false => ev G b t ρ st
    | _ => .bad
  | .ifx c a b, t, ρ, st => if t then .bad else (ev G c true ρ st).bind fun x st => match x with
    | .bl true => ev G a false ρ st
    | .bl false => ev G b false ρ st
    | _ => .bad
  | .sub a i, t, ρ, st => (vw a ρ st (ev G a false ρ st)).bind fun x st => (ev G i false ρ st).bind fun y st => match subP st x y with
    | some v => fin t v st
    | none => .bad
  | .slc a lo hi, t, ρ, st => if t then .bad else (vw a ρ st (ev G a false ρ st)).bind fun x st => (evO G lo ρ st).bind fun l st => (evO G hi ρ st).bind fun h st => R.of (slcP x l h) st
  | .call f es, t, ρ, st => (evA G es ρ st).bind fun xs st => (G f xs st).bind fun v st => fin t v st
  | .b1 f a, t, ρ, st => (vw a ρ st (ev G a false ρ st)).bind fun x st => match b1P f x with
    | some v => fin t v st
    | none => .bad
  | .b2 f a b, t, ρ, st => (vw a ρ st (ev G a false ρ st)).bind fun x st => (vw b ρ st (ev G b false ρ st)).bind fun y st => match b2P f x y with
    | some v => fin t v st
    | none => .bad
  | .isi a ts, _, ρ, st => (vw a ρ st (ev G a false ρ st)).bind fun x st => match tyOf x with
    | some u => .ok (.bl (isiP u ts)) st
    | none => .bad
  | .get2 o k d, t, ρ, st => if t then .bad else (vw o ρ st (ev G o false ρ st)).bind fun x st => match x with
    | .dct kvs => (ev G k false ρ st).bind fun y st => (ev G d false ρ st).bind fun z st => match toKey y with
      | some k => .ok ((dget kvs k).getD z) st
      | none => .bad
    | _ => .bad
  | .lc own tg src c elt, t, ρ, st => if t then .bad else (evS G src ρ st).bind fun xs st =>
      (turns (fun x st => match tg.put x (wipeE ρ own) with
        | none => .bad
        | some ρ' => (evC G c ρ' st).bind fun b st => if b then (ev G elt false ρ' st).bind fun y st => .ok (some y) st else .ok none st) xs st).bind fun ys st => .ok (.lst ys) st
  | .dc own tg src c k v, t, ρ, st => if t then .bad else (evS G src ρ st).bind fun xs st =>
      (turnsD (fun x st => match tg.put x (wipeE ρ own) with
        | none => .bad
        | some ρ' => (evC G c ρ' st).bind fun b st => if b then (ev G k false ρ' st).bind fun y st => (ev G v false ρ' st).bind fun z st => match toKey y with
          | some k => .ok (some (k, z)) st
          | none => .bad
          else .ok none st) xs [] st).bind fun kvs st => .ok (.dct kvs) st
  | .part c fld body, t, ρ, st => if t then .bad else partR c fld (ev G body false ρ st)
def evA (G : Ops) : CA → Env → Store → R (List PV)
  | .nil, _, st => .ok [] st
  | .cons e r, ρ, st => (ev G e false ρ st).bind fun x st => (evA G r ρ st).bind fun xs st => .ok (x :: xs) st
  | .star e r, ρ, st => (vw e ρ st (ev G e false ρ st)).bind fun x st => match iterP x with
    | some ys => (evA G r ρ st).bind fun xs st => .ok (ys ++ xs) st
    | none => .bad
def evO (G : Ops) : CO → Env → Store → R (Option Int)
  | .no, _, st => .ok none st
  | .some e, ρ, st => (ev G e false ρ st).bind fun x st => match x with
    | .int i => .ok (some i) st
    | _ => .bad
def evC (G : Ops) : CO → Env → Store → R Bool
  | .no, _, st => .ok true st
  | .some e, ρ, st => (ev G e true ρ st).bind fun x st => match x with
    | .bl b => .ok b st
    | _ => .bad
def evS (G : Ops) : CS → Env → Store → R (List PV)
  | .of a, ρ, st => (ev G a false ρ st).bind fun x st => R.of (iterP x) st
  | .keys i, ρ, st => (match ρ[i]? with
    | some (some (.val (.dct kvs))) => .ok (kvs.map fun kv => kP kv.1) st
    | _ => .bad)
  | .range a, ρ, st => (ev G a false ρ st).bind fun x st => match x with
    | .int n => if -4611686018427387904 ≤ n ∧ n ≤ big then .ok ((List.range n.toNat).map fun (i : Nat) => .int (i : Int)) st else .bad
    | _ => .bad
  | .zip a b, ρ, st => (ev G a false ρ st).bind fun x st => (ev G b false ρ st).bind fun y st => match x, y with
    | .lst xs, .tup ys => .ok (List.zipWith (fun a b => .tup [a, b]) xs ys) st
    | _, _ => .bad
  | .enum a, ρ, st => (ev G a false ρ st).bind fun x st => match x with
    | .lst xs => .ok (List.zipWith (fun (i : Nat) b => .tup [.int i, b]) (List.range xs.length) xs) st
    | _ => .bad
end
/-! ### statements -/
mutual
inductive CT where
  | expr (e : CE) | set (i : Nat) (e : CE) | newD (i : Nat) | newL (i : Nat) (es : CA) | ref (i : Nat) (es : CA)
  | setT (is : List Nat) (e : CE) | par (is : List Nat) (es : CA)
  | frz (i : Nat)
  | app (i : Nat) (e : CE) | dset (i : Nat) (k v : CE) | upd (i : Nat) (e : CE) | aug (i : Nat) (op : Operator) (e : CE)
  | rfadd (o idx e : CE)
  | ite (t : CE) (a b : CB) | for_ (tg : Tg) (src : CS) (body : CB) | while_ (t : CE) (body : CB)
  | ret (e : CE) | retN | raise (c : Str) (fld : Str) (e : CE)
  | pass | brk | cont
inductive CB where
  | nil | cons (s : CT) (r : CB)
end
inductive Fl where
  | nx (ρ : Env) (st : Store) | rt (v : PV) (st : Store) | bk (ρ : Env) (st : Store) | ct (ρ : Env) (st : Store) | ex (c : Str) (fs : List (Str × PV)) (ρ : Env) (st : Store) | bad
def R.fl {α : Type} (r : R α) (ρ : Env) (f : α → Store → Fl) : Fl := match r with
  | .ok a st => f a st
  | .exc c fs st => .ex c fs ρ st
  | .bad => .bad
/-- a for over known items -/
def forF (put : PV → Env → Option Env) (body : Env → Store → Fl) : List PV → Env → Store → Fl
  | [], ρ, st => .nx ρ st
  | x :: xs, ρ, st => match put x ρ with
    | none => .bad
    | some ρ => match body ρ st with
      | .nx ρ st => forF put body xs ρ st
      | .ct ρ st => forF put body xs ρ st
      | .bk ρ st => .nx ρ st
      | r => r
def whileF (test : Env → Store → R PV) (body : Env → Store → Fl) : Nat → Env → Store → Fl
  | 0, _, _ => .bad
  | n + 1, ρ, st => (test ρ st).fl ρ fun b st => match b with
    | .bl true => (match body ρ st with
      | .nx ρ st => whileF test body n ρ st
      | .ct ρ st => whileF test body n ρ st
      | .bk ρ st => .nx ρ st
      | r => r)
    | .bl false => .nx ρ st
    | _ => .bad
def fuel : Nat := 100000
mutual
def evT (G : Ops) : CT → Env → Store → Fl
  | .expr e, ρ, st => (ev G e false ρ st).fl ρ fun _ st => .nx ρ st
  | .set i e, ρ, st => (ev G e false ρ st).fl ρ fun v st => .nx (ρ.set i (some (.val v))) st
  | .newD i, ρ, st => .nx (ρ.set i (some (.own (.dct [])))) st
  | .newL i es, ρ, st => (evA G es ρ st).fl ρ fun vs st => if vs.length ≤ big then .nx (ρ.set i (some (.own (.lst vs)))) st else .bad
  | .ref i es, ρ, st => (evA G es ρ st).fl ρ fun xs st => if xs.length ≤ big then .nx (ρ.set i (some (.val (.rf st.length)))) (st ++ [xs]) else .bad
  | .setT is e, ρ, st => (ev G e false ρ st).fl ρ fun v st => match Tg.put (.many is) v ρ with
    | some ρ => .nx ρ st
    | none => .bad
  | .par is es, ρ, st => (evA G es ρ st).fl ρ fun vs st => if is.length = vs.length ∧ vs.length ≤ big then .nx ((is.zip vs).foldl (fun ρ p => ρ.set p.1 (some (.val p.2))) ρ) st else .bad
  | .frz i, ρ, st => match ρ[i]? with
    | some (some (.own v)) => .nx (ρ.set i (some (.val v))) st
    | _ => .bad
  | .app i e, ρ, st => match ρ[i]? with
    | some (some (.own (.lst xs))) => (ev G e false ρ st).fl ρ fun v st => if xs.length < big then .nx (ρ.set i (some (.own (.lst (xs ++ [v]))))) st else .bad
    | _ => .bad
  | .dset i k v, ρ, st => (ev G v false ρ st).fl ρ fun v st => (ev G k false ρ st).fl ρ fun k st => match ρ[i]?, toKey k with
    | some (some (.own (.dct kvs))), some k => if kvs.length < big then .nx (ρ.set i (some (.own (.dct (dput kvs k v))))) st else .bad
    | _, _ => .bad
  | .upd i e, ρ, st => match ρ[i]? with
    | some (some (.own (.dct kvs))) => (ev G e false ρ st).fl ρ fun v st => match v with
      | .dct more => if kvs.length + more.length ≤ big then .nx (ρ.set i (some (.own (.dct (dmerge kvs more))))) st else .bad
      | _ => .bad
    | _ => .bad
  | .aug i op e, ρ, st => match ρ[i]? with
    | some (some (.val x)) => (ev G e false ρ st).fl ρ fun y st => match binP op x y with
      | some z => .nx (ρ.set i (some (.val z))) st
      | none => .bad
    | _ => .bad
  | .rfadd o idx e, ρ, st => (ev G o false ρ st).fl ρ fun x st => (ev G idx false ρ st).fl ρ fun i st => match x, i with
    | .rf k, .int i => (match (st[k]?).bind fun xs => if 0 ≤ i ∧ i < xs.length then xs[i.toNat]? else none with
      | some (.int a) => (ev G e false ρ st).fl ρ fun y st => match y, st[k]? with
        | .int b, some xs => if i < xs.length then .nx ρ (st.set k (xs.set i.toNat (.int (a + b)))) else .bad
        | _, _ => .bad
      | _ => .bad)
    | _, _ => .bad
  | .ite t a b, ρ, st => (ev G t true ρ st).fl ρ fun x st => match x with
    | .bl true => evB G a ρ st
    | .bl false => evB G b ρ st
    | _ => .bad
  | .for_ tg src body, ρ, st => (evS G src ρ st).fl ρ fun xs st => forF tg.put (evB G body) xs ρ st
  | .while_ t body, ρ, st => whileF (ev G t true) (evB G body) fuel ρ st
  | .ret e, ρ, st => (ev G e false ρ st).fl ρ fun v st => .rt v st
  | .retN, _, st => .rt .non st
  | .raise c fld e, ρ, st => (ev G e false ρ st).fl ρ fun v st => .ex c [(fld, v)] ρ st
  | .pass, ρ, st => .nx ρ st
  | .brk, ρ, st => .bk ρ st
  | .cont, ρ, st => .ct ρ st
def evB (G : Ops) : CB → Env → Store → Fl
  | .nil, ρ, st => .nx ρ st
  | .cons s r, ρ, st => match evT G s ρ st with
    | .nx ρ st => evB G r ρ st
    | f => f
end
/-- a def: its name, its parameters' number, its slots' number, its defaults, its body -/
structure Fn where
  name : Str
  arity : Nat
  slots : Nat
  dfl : List PV := []
  body : CB
def bodyR (G : Ops) (f : Fn) (vs : List PV) (st : Store) : R PV := match evB G f.body (vs.map (fun v => some (.val v)) ++ List.replicate (f.slots - vs.length) none) st with
  | .nx _ st => .ok .non st
  | .rt v st => .ok v st
  | .ex c fs _ st => .exc c fs st
  | _ => .bad
/-- a call n calls deep -/
def call (T : List Fn) : Nat → Ops
  | 0, _, _, _ => .bad
  | n + 1, f, vs, st => match T.find? fun g => g.name == f with
    | none => .bad
    | some g => if g.arity < vs.length ∨ vs.length + g.dfl.length < g.arity then .bad else bodyR (call T n) g (vs ++ g.dfl.drop (vs.length + g.dfl.length - g.arity)) st
end PC
set_option linter.all false
set_option maxRecDepth 100000
set_option maxHeartbeats 1000000
set_option autoImplicit false
/-! PC, part b: tree values over the abstract heap. -/
namespace PC
open PySem PySem.Spec PyProof.Rows L2
mutual
inductive Rv (K : PySem.W.Frag) (F : Hp) (m : List Addr) : V → PV → Prop
  | non : Rv K F m .non .non
  | bl (b : Bool) : Rv K F m (.bl b) (.bl b)
  | int (i : Int) : Rv K F m (.int i) (.int i)
  | str (x : Str) : Rv K F m (.str x) (.str x)
  | tup {a : Addr} {xs : List V} {ds : List PV} : SqT K F a xs → RvL K F m xs ds → ds.length ≤ big → Rv K F m (.ref a) (.tup ds)
  | lst {a : Addr} {xs : List V} {ds : List PV} : SqL K F a xs → RvL K F m xs ds → ds.length ≤ big → Rv K F m (.ref a) (.lst ds)
  | dct {a : Addr} {kvs : List (L2.Key × V)} {ds : List (Key × PV)} : F a = some (.dK kvs) → RvD K F m kvs ds → ds.length ≤ big → Rv K F m (.ref a) (.dct ds)
  | rf {a : Addr} {k : Nat} : m[k]? = some a → Rv K F m (.ref a) (.rf k)
inductive RvL (K : PySem.W.Frag) (F : Hp) (m : List Addr) : List V → List PV → Prop
  | nil : RvL K F m [] []
  | cons {v : V} {vs : List V} {d : PV} {ds : List PV} : Rv K F m v d → RvL K F m vs ds → RvL K F m (v :: vs) (d :: ds)
inductive RvD (K : PySem.W.Frag) (F : Hp) (m : List Addr) : List (L2.Key × V) → List (Key × PV) → Prop
  | nil : RvD K F m [] []
  | cons {k : L2.Key} {v : V} {vs : List (L2.Key × V)} {d : PV} {ds : List (Key × PV)} : Rv K F m v d → RvD K F m vs ds → RvD K F m ((k, v) :: vs) ((k, d) :: ds)
end
section
variable {K : PySem.W.Frag} {F F' H H' : Hp} {m m' : List Addr}
def Le (F F' : Hp) : Prop := ∀ a o, F a = some o → F' a = some o
theorem Le.sqt {a : Addr} {xs : List V} (l : Le F F') (h : SqT K F a xs) : SqT K F' a xs := by
  rcases h with (h | ⟨o, h⟩) | h
  · exact .inl (.inl (l _ _ h))
  · exact .inl (.inr ⟨o, l _ _ h⟩)
  · exact .inr h
theorem Le.sql {a : Addr} {xs : List V} (l : Le F F') (h : SqL K F a xs) : SqL K F' a xs := Same.seq l h
theorem Le.refl : Le F F := fun _ _ h => h
theorem Le.trans {F'' : Hp} (a : Le F F') (b : Le F' F'') : Le F F'' := fun c o h => b c o (a c o h)
def Pre (m m' : List Addr) : Prop := ∃ more, m' = m ++ more
theorem Pre.refl : Pre m m := ⟨[], by simp⟩
theorem Pre.trans {m'' : List Addr} (a : Pre m m') (b : Pre m' m'') : Pre m m'' := by
  obtain ⟨x, rfl⟩ := a
  obtain ⟨y, rfl⟩ := b
  exact ⟨x ++ y, by simp⟩
theorem Pre.get {k : Nat} {a : Addr} (p : Pre m m') (h : m[k]? = some a) : m'[k]? = some a := by
  obtain ⟨x, rfl⟩ := p
  rw [List.getElem?_append_left (List.getElem?_eq_some_iff.mp h).1]
  exact h
mutual
theorem Rv.mono (l : Le F F') (p : Pre m m') : ∀ {d : PV} {v : V}, Rv K F m v d → Rv K F' m' v d
  | .non, _, .non => .non
  | .bl _, _, .bl b => .bl b
  | .int _, _, .int i => .int i
  | .str _, _, .str x => .str x
  | .tup _, _, .tup h r z => .tup (l.sqt h) (RvL.mono l p r) z
  | .lst _, _, .lst h r z => .lst (l.sql h) (RvL.mono l p r) z
  | .dct _, _, .dct h r z => .dct (l _ _ h) (RvD.mono l p r) z
  | .rf _, _, .rf h => .rf (p.get h)
theorem RvL.mono (l : Le F F') (p : Pre m m') : ∀ {d : List PV} {v : List V}, RvL K F m v d → RvL K F' m' v d
  | [], _, .nil => .nil
  | _ :: _, _, .cons h r => .cons (Rv.mono l p h) (RvL.mono l p r)
theorem RvD.mono (l : Le F F') (p : Pre m m') : ∀ {d : List (Key × PV)} {v : List (L2.Key × V)}, RvD K F m v d → RvD K F' m' v d
  | [], _, .nil => .nil
  | _ :: _, _, .cons h r => .cons (Rv.mono l p h) (RvD.mono l p r)
end
theorem RvL.length : ∀ {ds : List PV} {vs : List V}, RvL K F m vs ds → vs.length = ds.length
  | _, _, .nil => rfl
  | _, _, .cons _ r => congrArg (· + 1) (RvL.length r)
theorem RvD.length : ∀ {ds : List (Key × PV)} {vs : List (L2.Key × V)}, RvD K F m vs ds → vs.length = ds.length
  | _, _, .nil => rfl
  | _, _, .cons _ r => congrArg (· + 1) (RvD.length r)
theorem RvL.append : ∀ {ds es : List PV} {vs us : List V}, RvL K F m vs ds → RvL K F m us es → RvL K F m (vs ++ us) (ds ++ es)
  | _, _, _, _, .nil, s => s
  | _, _, _, _, .cons h r, s => .cons h (RvL.append r s)
theorem RvL.get {d : PV} : ∀ {ds : List PV} {vs : List V} {i : Nat}, RvL K F m vs ds → ds[i]? = some d → ∃ v, vs[i]? = some v ∧ Rv K F m v d
  | _, _, _, .nil, e => by simp at e
  | _, _, 0, .cons h _, e => by
    simp at e
    subst e
    exact ⟨_, rfl, h⟩
  | _, _, i + 1, .cons _ r, e => by
    obtain ⟨v, h1, h2⟩ := RvL.get (i := i) (d := d) r (by simpa using e)
    exact ⟨v, by simpa using h1, h2⟩
theorem RvL.take : ∀ {ds : List PV} {vs : List V} (n : Nat), RvL K F m vs ds → RvL K F m (vs.take n) (ds.take n)
  | _, _, 0, _ => .nil
  | _, _, _ + 1, .nil => .nil
  | _, _, n + 1, .cons h r => .cons h (RvL.take n r)
theorem RvL.drop : ∀ {ds : List PV} {vs : List V} (n : Nat), RvL K F m vs ds → RvL K F m (vs.drop n) (ds.drop n)
  | _, _, 0, r => r
  | _, _, _ + 1, .nil => .nil
  | _, _, n + 1, .cons h r => RvL.drop n r
theorem RvL.set {v : V} {d : PV} (h : Rv K F m v d) : ∀ {ds : List PV} {vs : List V} (i : Nat), RvL K F m vs ds → RvL K F m (vs.set i v) (ds.set i d)
  | _, _, _, .nil => .nil
  | _, _, 0, .cons _ r => .cons h r
  | _, _, i + 1, .cons q r => .cons q (RvL.set h i r)
/-- the frozen heap lies in the heap (a dict may be locked) -/
def Sub (F H : Hp) : Prop := ∀ a o, F a = some o → H a = some o ∨ ∃ kvs od, o = .dK kvs ∧ H a = some (.frz od (.dK kvs))
theorem Sub.sqt {a : Addr} {xs : List V} (l : Sub F H) (h : SqT K F a xs) : SqT K H a xs := by
  rcases h with (h | ⟨o, h⟩) | h
  · rcases l _ _ h with q | ⟨_, _, e, _⟩
    · exact .inl (.inl q)
    · cases e
  · rcases l _ _ h with q | ⟨_, _, e, _⟩
    · exact .inl (.inr ⟨o, q⟩)
    · cases e
  · exact .inr h
theorem Sub.sql {a : Addr} {xs : List V} (l : Sub F H) (h : SqL K F a xs) : SqL K H a xs := by
  rcases h with (h | ⟨o, h⟩) | h
  · rcases l _ _ h with q | ⟨_, _, e, _⟩
    · exact .inl (.inl q)
    · cases e
  · rcases l _ _ h with q | ⟨_, _, e, _⟩
    · exact .inl (.inr ⟨o, q⟩)
    · cases e
  · exact .inr h
theorem Sub.dk {a : Addr} {kvs : List (L2.Key × V)} (l : Sub F H) (h : F a = some (.dK kvs)) : L2.Rd H a (.dK kvs) := by
  rcases l _ _ h with q | ⟨kvs', od, e, q⟩
  · exact .inl q
  · cases e
    exact .inr ⟨od, q⟩
theorem Sub.no {a : Addr} (l : Sub F H) (h : H a = none) : F a = none := by
  cases e : F a with
  | none => rfl
  | some o =>
    rcases l _ _ e with q | ⟨_, _, _, q⟩ <;> rw [h] at q <;> cases q
/-- the defs that hold lambdas; the tables of their code objects -/
def lamDefs : List Str := ["law"]
def tabsK (K : PySem.W.Frag) : List (Addr × Str) := lamDefs.map fun x => ((He.cT K (x, none)).2, (x ++ ".<locals>.") ++ "<lambda>")
/-- the shared lists stand -/
structure SR (K : PySem.W.Frag) (F : Hp) (m : List Addr) (st : Store) (H : Hp) : Prop where
  sub : Sub F H
  nt : ∀ a ps, F a ≠ some (.tbl ps)
  tab : LamX.Tabs (tabsK K) H
  nd : m.Nodup
  len : m.length = st.length
  cell : ∀ (k : Nat) (a : Addr) (xs : List PV), m[k]? = some a → st[k]? = some xs → F a = none ∧ (∃ vs, H a = some (.lst vs) ∧ RvL K F m vs xs) ∧ xs.length ≤ big
def NoT (o : HO) : Prop := ∀ ps, o ≠ .tbl ps
/-- nothing but a table -/
def Nn (H : Hp) (a : Addr) : Prop := ∀ o, H a = some o → ¬ NoT o
theorem Nn.none {a : Addr} (h : H a = none) : Nn H a := fun o e => by
  rw [h] at e
  cases e
theorem Nn.ne {a b : Addr} {o : HO} (h : H a = some o) (t : NoT o) (n : Nn H b) : a ≠ b := fun z => by
  subst z
  exact n o h t
theorem not_lst {vs : List V} : NoT (.lst vs) := fun _ z => by cases z
theorem not_dK {vs : List (L2.Key × V)} : NoT (.dK vs) := fun _ z => by cases z
theorem not_frz {o : Obj} {u : HO} : NoT (.frz o u) := fun _ z => by cases z
/-- from one state to a later one -/
structure Stp (F : Hp) (m : List Addr) (H : Hp) (F' : Hp) (m' : List Addr) (H' : Hp) : Prop where
  le : Le F F'
  new : ∀ a o, F' a = some o → F a = some o ∨ Nn H a
  keep : ∀ a o, H a = some o → a ∉ m → NoT o → H' a = some o
  there : ∀ a o, H a = some o → NoT o → ∃ o', H' a = some o' ∧ NoT o'
  pre : Pre m m'
  preN : ∀ a ∈ m', a ∈ m ∨ Nn H a
theorem Stp.refl : Stp F m H F m H := ⟨.refl, fun _ _ h => .inl h, fun _ _ h _ _ => h, fun _ o h t => ⟨o, h, t⟩, .refl, fun _ h => .inl h⟩
theorem Stp.back (s : Stp F m H F' m' H') {a : Addr} (n : Nn H' a) : Nn H a := fun o h t => by
  obtain ⟨o', q, t'⟩ := s.there a o h t
  exact n o' q t'
theorem Stp.trans {F1 F2 : Hp} {m1 m2 : List Addr} {H1 H2 : Hp} (a : Stp F m H F1 m1 H1) (b : Stp F1 m1 H1 F2 m2 H2) : Stp F m H F2 m2 H2 where
  le := a.le.trans b.le
  new := fun c o h => by
    rcases b.new c o h with h | h
    · exact a.new c o h
    · exact .inr (a.back h)
  keep := fun c o h n t => b.keep c o (a.keep c o h n t) (fun z => (a.preN c z).elim n fun e => e o h t) t
  there := fun c o h t => by
    obtain ⟨o', q, t'⟩ := a.there c o h t
    exact b.there c o' q t'
  pre := a.pre.trans b.pre
  preN := fun c h => by
    rcases b.preN c h with h | h
    · exact a.preN c h
    · exact .inr (a.back h)
theorem Stp.rv (s : Stp F m H F' m' H') {d : PV} {v : V} (h : Rv K F m v d) : Rv K F' m' v d := h.mono s.le s.pre
theorem Stp.rvl (s : Stp F m H F' m' H') {d : List PV} {v : List V} (h : RvL K F m v d) : RvL K F' m' v d := h.mono s.le s.pre
theorem Stp.rvd (s : Stp F m H F' m' H') {d : List (Key × PV)} {v : List (L2.Key × V)} (h : RvD K F m v d) : RvD K F' m' v d := h.mono s.le s.pre
theorem le_upd {p : Addr} {o : HO} (h : F p = none) : Le F (upd F p o) := fun a u e => by rw [upd_ne (ne_of_none e h)]; exact e
/-- no table, no code object stands there -/
def Pl (H : Hp) (D : Addr) : Prop := (∀ ps, H D ≠ some (.tbl ps)) ∧ ∀ q, H D ≠ some (LamX.CodeO D q)
theorem tabS_upd {P D : Addr} {q : Str} {o : HO} (t : LamX.TabS H P q) (h : Pl H D) : LamX.TabS (upd H D o) P q := by
  obtain ⟨ps, h1, h2, h3⟩ := t
  have n1 : P ≠ D := fun z => by
    subst z
    exact h.1 ps h1
  refine ⟨ps, by rw [upd_ne n1]; exact h1, h2, fun pos cv hc => ?_⟩
  obtain ⟨c, e1, e2⟩ := h3 pos cv hc
  have n2 : c ≠ D := fun z => by
    subst z
    exact h.2 q e2
  exact ⟨c, e1, by rw [upd_ne n2]; exact e2⟩
theorem tabs_upd {T : List (Addr × Str)} {D : Addr} {o : HO} (t : LamX.Tabs T H) (h : Pl H D) : LamX.Tabs T (upd H D o) := fun p hp => tabS_upd (t p hp) h
theorem Pl.none {D : Addr} (h : H D = none) : Pl H D := ⟨(fun _ z => by rw [h] at z; cases z), (fun _ z => by rw [h] at z; cases z)⟩
theorem Pl.lst {D : Addr} {vs : List V} (h : H D = some (.lst vs)) : Pl H D := ⟨(fun _ z => by rw [h] at z; cases z), (fun _ z => by rw [h] at z; unfold LamX.CodeO at z; cases z)⟩
theorem Pl.dK {D : Addr} {vs : List (L2.Key × V)} (h : H D = some (.dK vs)) : Pl H D := ⟨(fun _ z => by rw [h] at z; cases z), (fun _ z => by rw [h] at z; unfold LamX.CodeO at z; cases z)⟩
theorem Pl.frz {D : Addr} {o : Obj} {u : HO} (h : H D = some (.frz o u)) : Pl H D := ⟨(fun _ z => by rw [h] at z; cases z), (fun _ z => by rw [h] at z; unfold LamX.CodeO at z; cases z)⟩
/-- what a block leaves of the frozen -/
structure Stq (F : Hp) (m : List Addr) (H : Hp) (F' : Hp) (m' : List Addr) (H' : Hp) : Prop where
  le : Le F F'
  pre : Pre m m'
  keep : ∀ a o, F a ≠ none → H a = some o → NoT o → H' a = some o
theorem Stq.refl : Stq F m H F m H := ⟨.refl, .refl, fun _ _ _ h _ => h⟩
theorem Stq.trans {F1 F2 : Hp} {m1 m2 : List Addr} {H1 H2 : Hp} (a : Stq F m H F1 m1 H1) (b : Stq F1 m1 H1 F2 m2 H2) : Stq F m H F2 m2 H2 := ⟨a.le.trans b.le, a.pre.trans b.pre, fun c o n h t => b.keep c o (fun z => by
  cases e : F c with
  | none => exact n e
  | some u => rw [a.le _ _ e] at z; cases z) (a.keep c o n h t) t⟩
theorem SR.fm {st : Store} (s : SR K F m st H) {a : Addr} (h : F a ≠ none) : a ∉ m := fun z => by
  obtain ⟨k, hk⟩ := List.getElem?_of_mem z
  have hl : k < st.length := by rw [← s.len]; exact (List.getElem?_eq_some_iff.mp hk).1
  exact h (s.cell k a st[k] hk (List.getElem?_eq_getElem hl)).1
theorem Stp.weak {st : Store} (s : Stp F m H F' m' H') (r : SR K F m st H) : Stq F m H F' m' H' := ⟨s.le, s.pre, fun a o n h t => s.keep a o h (r.fm n) t⟩
/-- a new object, frozen at once -/
theorem Stp.alloc (sub : Sub F H) {p : Addr} {o : HO} (h : H p = none) : Stp F m H (upd F p o) m (upd H p o) where
  le := le_upd (sub.no h)
  new := fun a u e => by
    by_cases q : a = p
    · exact .inr (by rw [q]; exact .none h)
    · rw [upd_ne q] at e
      exact .inl e
  keep := fun a u e _ _ => by rw [upd_ne (ne_of_none e h)]; exact e
  there := fun a u e t => ⟨u, by rw [upd_ne (ne_of_none e h)]; exact e, t⟩
  pre := .refl
  preN := fun _ h => .inl h
theorem Sub.alloc (sub : Sub F H) {p : Addr} {o : HO} (h : H p = none) : Sub (upd F p o) (upd H p o) := fun a u e => by
  by_cases q : a = p
  · subst q
    rw [upd_same] at e
    exact .inl (by rw [upd_same]; exact e)
  · rw [upd_ne q] at e
    rcases sub a u e with z | ⟨k, od, e1, z⟩
    · exact .inl (by rw [upd_ne q]; exact z)
    · exact .inr ⟨k, od, e1, by rw [upd_ne q]; exact z⟩
theorem nt_upd {p : Addr} {o : HO} (n : ∀ a ps, F a ≠ some (.tbl ps)) (t : ∀ ps, o ≠ .tbl ps) : ∀ a ps, upd F p o a ≠ some (.tbl ps) := fun a ps z => by
  by_cases q : a = p
  · subst q
    rw [upd_same] at z
    exact t ps (Option.some.inj z)
  · rw [upd_ne q] at z
    exact n a ps z
theorem SR.alloc {st : Store} (s : SR K F m st H) {p : Addr} {o : HO} (h : H p = none) (t : ∀ ps, o ≠ .tbl ps := by intro _ z; cases z) : SR K (upd F p o) m st (upd H p o) where
  sub := s.sub.alloc h
  nt := nt_upd s.nt t
  tab := tabs_upd s.tab (.none h)
  nd := s.nd
  len := s.len
  cell := fun k a xs e1 e2 => by
    obtain ⟨q1, ⟨vs, q2, q3⟩, q4⟩ := s.cell k a xs e1 e2
    have ne : a ≠ p := ne_of_none q2 h
    exact ⟨by rw [upd_ne ne]; exact q1, ⟨vs, by rw [upd_ne ne]; exact q2, q3.mono (le_upd (s.sub.no h)) .refl⟩, q4⟩
/-- a new object, nobody's yet -/
theorem Stp.lay {p : Addr} {o : HO} (h : H p = none) : Stp F m H F m (upd H p o) where
  le := .refl
  new := fun _ _ e => .inl e
  keep := fun a u e _ _ => by rw [upd_ne (ne_of_none e h)]; exact e
  there := fun a u e t => ⟨u, by rw [upd_ne (ne_of_none e h)]; exact e, t⟩
  pre := .refl
  preN := fun _ h => .inl h
theorem Sub.lay (sub : Sub F H) {p : Addr} {o : HO} (h : F p = none) : Sub F (upd H p o) := fun a u e => by
  have q : a ≠ p := ne_of_none e h
  rw [upd_ne q]
  exact sub a u e
theorem SR.notin {st : Store} (s : SR K F m st H) {p : Addr} (h : H p = none) : p ∉ m := fun z => by
  obtain ⟨k, hk⟩ := List.getElem?_of_mem z
  have hl : k < st.length := by rw [← s.len]; exact (List.getElem?_eq_some_iff.mp hk).1
  obtain ⟨_, ⟨vs, q, _⟩, _⟩ := s.cell k p st[k] hk (List.getElem?_eq_getElem hl)
  rw [h] at q
  cases q
theorem SR.lay {st : Store} (s : SR K F m st H) {p : Addr} {o : HO} (hp : H p = none) : SR K F m st (upd H p o) where
  sub := s.sub.lay (s.sub.no hp)
  nt := s.nt
  tab := tabs_upd s.tab (.none hp)
  nd := s.nd
  len := s.len
  cell := fun k a xs e1 e2 => by
    obtain ⟨q1, ⟨vs, q2, q3⟩, q4⟩ := s.cell k a xs e1 e2
    have ne : a ≠ p := fun z => s.notin hp (z ▸ List.mem_of_getElem? e1)
    exact ⟨q1, ⟨vs, by rw [upd_ne ne]; exact q2, q3⟩, q4⟩
/-- what an own list or dict is -/
def OwnR (K : PySem.W.Frag) (F : Hp) (m : List Addr) (H : Hp) (a : Addr) : PV → Prop
  | .lst ds => ∃ vs, H a = some (.lst vs) ∧ RvL K F m vs ds ∧ ds.length ≤ big
  | .dct ds => ∃ kvs, H a = some (.dK kvs) ∧ RvD K F m kvs ds ∧ ds.length ≤ big
  | _ => False
theorem OwnR.is {a : Addr} {d : PV} (h : OwnR K F m H a d) : ∃ o, H a = some o := by
  cases d with
  | lst ds => obtain ⟨vs, q, _⟩ := h; exact ⟨_, q⟩
  | dct ds => obtain ⟨vs, q, _⟩ := h; exact ⟨_, q⟩
  | _ => exact h.elim
theorem OwnR.pl {a : Addr} {d : PV} (h : OwnR K F m H a d) : Pl H a := by
  cases d with
  | lst ds => obtain ⟨vs, q, _⟩ := h; exact .lst q
  | dct ds => obtain ⟨vs, q, _⟩ := h; exact .dK q
  | _ => exact h.elim
theorem OwnR.mono {a : Addr} {d : PV} (h : OwnR K F m H a d) (l : Le F F') (p : Pre m m') (e : ∀ o, H a = some o → (∀ ps, o ≠ .tbl ps) → H' a = some o) : OwnR K F' m' H' a d := by
  cases d with
  | lst ds => obtain ⟨vs, q, r, z⟩ := h; exact ⟨vs, e _ q (fun _ z => by cases z), r.mono l p, z⟩
  | dct ds => obtain ⟨vs, q, r, z⟩ := h; exact ⟨vs, e _ q (fun _ z => by cases z), r.mono l p, z⟩
  | _ => exact h.elim
/-- a value that is looked at: frozen, or an own one -/
def RvW (K : PySem.W.Frag) (F : Hp) (m : List Addr) (H : Hp) (v : V) (d : PV) : Prop := Rv K F m v d ∨ ∃ a, v = .ref a ∧ F a = none ∧ a ∉ m ∧ OwnR K F m H a d
theorem OwnR.is' {a : Addr} {d : PV} (h : OwnR K F m H a d) : ∃ o, H a = some o ∧ NoT o := by
  cases d with
  | lst ds => obtain ⟨vs, q, _⟩ := h; exact ⟨_, q, not_lst⟩
  | dct ds => obtain ⟨vs, q, _⟩ := h; exact ⟨_, q, not_dK⟩
  | _ => exact h.elim
theorem Stp.own (s : Stp F m H F' m' H') {a : Addr} {d : PV} (h1 : F a = none) (h2 : a ∉ m) (h3 : OwnR K F m H a d) : F' a = none ∧ a ∉ m' ∧ OwnR K F' m' H' a d := by
  obtain ⟨o, ho, t⟩ := h3.is'
  refine ⟨?_, fun z => ?_, h3.mono s.le s.pre fun o q t => s.keep a o q h2 t⟩
  · cases e : F' a with
    | none => rfl
    | some u =>
      rcases s.new a u e with q | q
      · rw [h1] at q; cases q
      · exact (q o ho t).elim
  · rcases s.preN a z with q | q
    · exact h2 q
    · exact q o ho t
theorem Stp.own1 {D : Addr} {o : HO} (s : Stp F m H F' m' H') (h : F D = none ∧ D ∉ m ∧ H D = some o) (t : NoT o := by intro _ z; cases z) : F' D = none ∧ D ∉ m' ∧ H' D = some o := by
  refine ⟨?_, fun z => ?_, s.keep D _ h.2.2 h.2.1 t⟩
  · cases e : F' D with
    | none => rfl
    | some u =>
      rcases s.new D u e with z | z
      · rw [h.1] at z; cases z
      · exact (z o h.2.2 t).elim
  · rcases s.preN D z with z | z
    · exact h.2.1 z
    · exact z o h.2.2 t
theorem Stp.rvw (s : Stp F m H F' m' H') {d : PV} {v : V} (h : RvW K F m H v d) : RvW K F' m' H' v d := by
  rcases h with h | ⟨a, e, h1, h2, h3⟩
  · exact .inl (s.rv h)
  · obtain ⟨q1, q2, q3⟩ := s.own h1 h2 h3
    exact .inr ⟨a, e, q1, q2, q3⟩
/-- the slots -/
structure ER (K : PySem.W.Frag) (F : Hp) (m : List Addr) (H : Hp) (σ : L2.St) (ρ : Env) : Prop where
  val : ∀ (i : Nat) (d : PV), ρ[i]? = some (some (.val d)) → ∃ v, σ[i]? = some (some v) ∧ Rv K F m v d
  own : ∀ (i : Nat) (d : PV), ρ[i]? = some (some (.own d)) → ∃ a, σ[i]? = some (some (.ref a)) ∧ F a = none ∧ a ∉ m ∧ OwnR K F m H a d
  sep : ∀ (i j : Nat) (d e : PV) (a : Addr), i ≠ j → ρ[i]? = some (some (.own d)) → ρ[j]? = some (some (.own e)) → σ[i]? = some (some (.ref a)) → σ[j]? ≠ some (some (.ref a))
  len : ρ.length = σ.length
theorem ER.step {σ : L2.St} {ρ : Env} (r : ER K F m H σ ρ) (s : Stp F m H F' m' H') : ER K F' m' H' σ ρ where
  val := fun i d e => by
    obtain ⟨v, q, h⟩ := r.val i d e
    exact ⟨v, q, s.rv h⟩
  own := fun i d e => by
    obtain ⟨a, q, h1, h2, h3⟩ := r.own i d e
    exact ⟨a, q, s.own h1 h2 h3⟩
  sep := r.sep
  len := r.len
/-- a slot is stored -/
theorem ER.set {σ : L2.St} {ρ : Env} (r : ER K F m H σ ρ) {i : Nat} {v : V} {d : PV} (h : Rv K F m v d) : ER K F m H (σ.set i (some v)) (ρ.set i (some (.val d))) where
  val := fun j e q => by
    by_cases z : j = i
    · subst z
      have hl : j < ρ.length := by
        have := (List.getElem?_eq_some_iff.mp q).1
        simpa using this
      rw [List.getElem?_set_self hl] at q
      cases q
      exact ⟨v, List.getElem?_set_self (by rw [← r.len]; exact hl), h⟩
    · rw [List.getElem?_set_ne (Ne.symm z)] at q
      obtain ⟨w, q2, h2⟩ := r.val j e q
      exact ⟨w, by rw [List.getElem?_set_ne (Ne.symm z)]; exact q2, h2⟩
  own := fun j e q => by
    by_cases z : j = i
    · subst z
      have hl : j < ρ.length := by
        have := (List.getElem?_eq_some_iff.mp q).1
        simpa using this
      rw [List.getElem?_set_self hl] at q
      cases q
    · rw [List.getElem?_set_ne (Ne.symm z)] at q
      obtain ⟨w, q2, h2⟩ := r.own j e q
      exact ⟨w, by rw [List.getElem?_set_ne (Ne.symm z)]; exact q2, h2⟩
  sep := fun j k e f a n q1 q2 => by
    have nj : j ≠ i := fun z => by
      subst z
      have hl : j < ρ.length := by
        have := (List.getElem?_eq_some_iff.mp q1).1
        simpa using this
      rw [List.getElem?_set_self hl] at q1
      cases q1
    have nk : k ≠ i := fun z => by
      subst z
      have hl : k < ρ.length := by
        have := (List.getElem?_eq_some_iff.mp q2).1
        simpa using this
      rw [List.getElem?_set_self hl] at q2
      cases q2
    rw [List.getElem?_set_ne (Ne.symm nj)] at q1 ⊢
    rw [List.getElem?_set_ne (Ne.symm nk)] at q2 ⊢
    exact r.sep j k e f a n q1 q2
  len := by simp [r.len]
theorem ER.wipe {σ : L2.St} {ρ : Env} (r : ER K F m H σ ρ) : ∀ vs : List Nat, ER K F m H (wipe σ vs) (wipeE ρ vs)
  | [] => r
  | i :: vs => by
    have q := ER.wipe r vs
    show ER K F m H ((L2.wipe σ vs).set i none) ((wipeE ρ vs).set i none)
    have get : ∀ j s, ((wipeE ρ vs).set i none)[j]? = some (some s) → j ≠ i ∧ (wipeE ρ vs)[j]? = some (some s) := fun j s e => by
      by_cases z : j = i
      · subst z
        have hl : j < (wipeE ρ vs).length := by
          have := (List.getElem?_eq_some_iff.mp e).1
          simpa using this
        rw [List.getElem?_set_self hl] at e
        cases e
      · rw [List.getElem?_set_ne (Ne.symm z)] at e
        exact ⟨z, e⟩
    refine ⟨fun j d e => ?_, fun j d e => ?_, fun j k d e a n q1 q2 => ?_, by simp [q.len]⟩
    · obtain ⟨z, e⟩ := get j _ e
      obtain ⟨v, h1, h2⟩ := q.val j d e
      exact ⟨v, by rw [List.getElem?_set_ne (Ne.symm z)]; exact h1, h2⟩
    · obtain ⟨z, e⟩ := get j _ e
      obtain ⟨v, h1, h2⟩ := q.own j d e
      exact ⟨v, by rw [List.getElem?_set_ne (Ne.symm z)]; exact h1, h2⟩
    · obtain ⟨z1, q1⟩ := get j _ q1
      obtain ⟨z2, q2⟩ := get k _ q2
      rw [List.getElem?_set_ne (Ne.symm z1), List.getElem?_set_ne (Ne.symm z2)]
      exact q.sep j k d e a n q1 q2
end
end PC
set_option linter.all false
set_option maxRecDepth 100000
set_option maxHeartbeats 1000000
set_option autoImplicit false
/-! PC, part c: operations by values. -/
namespace PC
open PySem PySem.Spec PyProof.Rows L2
section
variable {K : PySem.W.Frag} {F F' H H' : Hp} {m m' : List Addr} {v w : V}
theorem big_eq : big = sizeLine := by rw [sizeLine_eq]; rfl
theorem RvW.int {i : Int} (h : RvW K F m H v (.int i)) : v = .int i := by
  rcases h with h | ⟨a, _, _, _, h⟩
  · cases h; rfl
  · exact h.elim
theorem RvW.str {i : Str} (h : RvW K F m H v (.str i)) : v = .str i := by
  rcases h with h | ⟨a, _, _, _, h⟩
  · cases h; rfl
  · exact h.elim
theorem RvW.bl {i : Bool} (h : RvW K F m H v (.bl i)) : v = .bl i := by
  rcases h with h | ⟨a, _, _, _, h⟩
  · cases h; rfl
  · exact h.elim
theorem RvW.non (h : RvW K F m H v .non) : v = .non := by
  rcases h with h | ⟨a, _, _, _, h⟩
  · cases h; rfl
  · exact h.elim
theorem RvW.lst {ds : List PV} (s : Sub F H) (h : RvW K F m H v (.lst ds)) : ∃ a xs, v = .ref a ∧ SqL K H a xs ∧ RvL K F m xs ds ∧ ds.length ≤ big := by
  rcases h with h | ⟨a, e, _, _, h⟩
  · cases h with | lst q r z => exact ⟨_, _, rfl, s.sql q, r, z⟩
  · obtain ⟨vs, q, r, z⟩ := h
    exact ⟨a, vs, e, .of q, r, z⟩
theorem RvW.tup {ds : List PV} (s : Sub F H) (h : RvW K F m H v (.tup ds)) : ∃ a xs, v = .ref a ∧ SqT K H a xs ∧ RvL K F m xs ds ∧ ds.length ≤ big := by
  rcases h with h | ⟨a, e, _, _, h⟩
  · cases h with | tup q r z => exact ⟨_, _, rfl, s.sqt q, r, z⟩
  · exact h.elim
theorem RvW.tupR {ds : List PV} (h : RvW K F m H v (.tup ds)) : Rv K F m v (.tup ds) := by
  rcases h with h | ⟨a, e, _, _, h⟩
  · exact h
  · exact h.elim
theorem RvW.dct {ds : List (Key × PV)} (s : Sub F H) (h : RvW K F m H v (.dct ds)) : ∃ a xs, v = .ref a ∧ L2.Rd H a (.dK xs) ∧ RvD K F m xs ds ∧ ds.length ≤ big := by
  rcases h with h | ⟨a, e, _, _, h⟩
  · cases h with | dct q r z => exact ⟨_, _, rfl, s.dk q, r, z⟩
  · obtain ⟨vs, q, r, z⟩ := h
    exact ⟨a, vs, e, .of q, r, z⟩
/-- what a binary operation asks -/
def rO {α : Type} (K : PySem.W.Frag) (g : PV → PV → Option α) (A : Hp → List Addr → V → α → Prop) : R2 := fun x y H Q => ∃ F m st d e z, SR K F m st H ∧ RvW K F m H x d ∧ RvW K F m H y e ∧ g d e = some z ∧
  ∀ F' v H', Stp F m H F' m H' → SR K F' m st H' → A F' m v z → Q v H'
abbrev rB (K : PySem.W.Frag) (op : Operator) : R2 := rO K (binP op) (Rv K)
end
section
variable {X : Cx}
theorem add_two {prog : Program} {w : PySem.World} {A : Around} {E : Value → Shared → Prop} {s : Shared} {l b : Addr} {vs ws : List Value} {Q : Value → Shared → Prop} (hl : s.heap.IsList l vs.toArray) (hb : s.heap.IsList b ws.toArray)
    (h : Q (.ref s.heap.objs.size) { s with heap := s.heap.push { cls := .type "list", data := .seq (vs ++ ws).toArray } }) (hsz : vs.length + ws.length ≤ sizeLine) :
    wpAny (model prog w) A (binaryOp .Add (.ref l) (.ref b)) Q E s := by
  obtain ⟨⟨cls, dd, data, sl⟩, ho, hc, n, hd⟩ := id hl
  obtain ⟨⟨cls2, dd2, data2, sl2⟩, ho2, hc2, n2, hd2⟩ := id hb
  simp only at hc hd hc2 hd2
  subst hc hd hc2 hd2
  have e : vs.toArray ++ ws.toArray = (vs ++ ws).toArray := by simp
  refine concat_meets ⟨_, ho, rfl⟩ ⟨_, ho2, rfl⟩ noFill_list_add seq_list_add PySem.F.slot_list_add PySem.F.entry_list_add (PySem.F.args_list_add_2 _ _) (list_addW l b vs.toArray ws.toArray n n2 dd dd2 sl sl2 (by simpa using hsz)) ⟨ho, ho2, ?_⟩
  rw [e]
  exact h
theorem rel_same {K : PySem.W.Frag} {F H : Hp} {m : List Addr} {st : Store} {Q : VK} {z : PV} {A : Hp → List Addr → V → PV → Prop} {v : V} (s : SR K F m st H) (h : ∀ F' v H', Stp F m H F' m H' → SR K F' m st H' → A F' m v z → Q v H') (q : A F m v z) : Q v H := h F v H .refl s q
theorem op_bin (op : Operator) : OpR X (binaryOp op) (rB X.K op) := by
  intro pins s σ H x y v u Q I rx ry ⟨F, m, st, d, e, z, sr, hx, hy, hz, k⟩
  cases op with
  | Add =>
    cases d with
    | int i =>
      cases e with
      | int j =>
        cases hz
        exact op_add pins s σ H x y v u Q I rx ry ⟨i, j, hx.int, hy.int, k F _ H .refl sr (.int _)⟩
      | _ => cases hz
    | str i =>
      cases e with
      | str j =>
        unfold binP at hz
        simp only at hz
        split at hz
        · rename_i hl
          cases hz
          exact op_add_str pins s σ H x y v u Q I rx ry ⟨i, j, hx.str, hy.str, by rw [← big_eq]; exact hl, k F _ H .refl sr (.str _)⟩
        · cases hz
      | _ => cases hz
    | lst i =>
      cases e with
      | lst j =>
        unfold binP at hz
        simp only at hz
        split at hz
        · rename_i hl
          cases hz
          obtain ⟨a, xs, rfl, h1, r1, _⟩ := hx.lst sr.sub
          obtain ⟨b, ys, rfl, h2, r2, _⟩ := hy.lst sr.sub
          cases rx
          cases ry
          obtain ⟨its, q1, p1, _⟩ := I.list h1
          obtain ⟨its2, q2, p2, _⟩ := I.list h2
          have hlen : xs.length + ys.length ≤ sizeLine := by rw [r1.length, r2.length, ← big_eq]; exact hl
          have hf : H s.heap.objs.size = none := I.hok.fresh (Nat.le_refl _)
          refine add_two p1.isList p2.isList ⟨.ref s.heap.objs.size, upd H s.heap.objs.size (.lst (xs ++ ys)), I.laid (t' := s.toks) (fun b u e => Heap.get?_push_of_some _ e) (Nat.le_refl _) ?_, rfl, k _ _ _ (.alloc sr.sub hf) (sr.alloc hf) (.lst (.of upd_same) ((r1.append r2).mono (le_upd (sr.sub.no hf)) .refl) (by rw [List.length_append]; exact hl))⟩ (by rw [← q1.length, ← q2.length]; exact hlen)
          exact ⟨by rw [List.length_append]; exact hlen, its ++ its2, 0, q1.append q2, Heap.get?_push_size _ rfl⟩
        · cases hz
      | _ => cases hz
    | tup i =>
      cases e with
      | tup j =>
        unfold binP at hz
        simp only at hz
        split at hz
        · rename_i hl
          cases hz
          obtain ⟨a, xs, rfl, h1, r1, _⟩ := hx.tup sr.sub
          obtain ⟨b, ys, rfl, h2, r2, _⟩ := hy.tup sr.sub
          have n1 := r1.length
          have n2 := r2.length
          refine op_catA pins s σ H _ _ v u Q I rx ry ⟨a, b, xs, ys, rfl, rfl, h1, h2, by rw [n1, n2, ← big_eq]; exact hl, fun z => ?_, fun _ z => ?_, fun _ _ p hp => ?_⟩
          · subst z
            cases r1
            exact k F _ H .refl sr hy.tupR
          · subst z
            cases r2
            rw [List.append_nil] at k
            exact k F _ H .refl sr hx.tupR
          · exact k _ _ _ (.alloc sr.sub hp) (sr.alloc hp) (.tup (.of upd_same) ((r1.append r2).mono (le_upd (sr.sub.no hp)) .refl) (by rw [List.length_append]; exact hl))
        · cases hz
      | _ => cases hz
    | _ => cases hz
  | Sub =>
    cases d with
    | int i =>
      cases e with
      | int j =>
        cases hz
        exact op_sub pins s σ H x y v u Q I rx ry ⟨i, j, hx.int, hy.int, k F _ H .refl sr (.int _)⟩
      | _ => cases hz
    | _ => cases hz
  | Mult =>
    cases d with
    | int i =>
      cases e with
      | int j =>
        unfold binP at hz
        simp only at hz
        split at hz
        · rename_i hl
          cases hz
          exact op_mul pins s σ H x y v u Q I rx ry ⟨i, j, hx.int, hy.int, hl, k F _ H .refl sr (.int _)⟩
        · cases hz
      | _ => cases hz
    | _ => cases hz
  | FloorDiv =>
    cases d with
    | int i =>
      cases e with
      | int j =>
        unfold binP at hz
        simp only at hz
        split at hz
        · rename_i hl
          cases hz
          exact op_fdiv pins s σ H x y v u Q I rx ry ⟨i, j, hx.int, hy.int, hl, k F _ H .refl sr (.int _)⟩
        · cases hz
      | _ => cases hz
    | _ => cases hz
  | Mod =>
    cases d with
    | int i =>
      cases e with
      | int j =>
        unfold binP at hz
        simp only at hz
        split at hz
        · rename_i hl
          cases hz
          exact op_mod pins s σ H x y v u Q I rx ry ⟨i, j, hx.int, hy.int, hl, k F _ H .refl sr (.int _)⟩
        · cases hz
      | _ => cases hz
    | _ => cases hz
  | Pow =>
    cases d with
    | int i =>
      cases e with
      | int j =>
        unfold binP at hz
        simp only at hz
        split at hz
        · rename_i hl
          cases hz
          exact op_pow pins s σ H x y v u Q I rx ry ⟨i, j, hx.int, hy.int, hl, k F _ H .refl sr (.int _)⟩
        · cases hz
      | _ => cases hz
    | _ => cases hz
  | _ => cases hz
end
end PC
set_option linter.all false
set_option maxRecDepth 100000
set_option maxHeartbeats 1000000
set_option autoImplicit false
/-! PC, part d: comparisons, subscripts, slices, built-ins by values. -/
namespace PC
open PySem PySem.Spec PyProof.Rows L2
section
variable {K : PySem.W.Frag} {F F' H H' : Hp} {m m' : List Addr} {v w : V}
mutual
theorem Rv.dp (s : Sub F H) : ∀ {d : PV} {v : V} {e : PyData}, Rv K F m v d → d.data = some e → Dp K H v e
  | .non, _, _, .non, h => by cases h; exact .non
  | .bl _, _, _, .bl b, h => by cases h; exact .bl b
  | .int _, _, _, .int i, h => by cases h; exact .int i
  | .str _, _, _, .str x, h => by cases h; exact .str x
  | .tup ds, _, _, .tup q r _, h => by
    have h1 : (PV.dataL ds).map PyData.tuple = some _ := h
    cases e : PV.dataL ds with
    | none => rw [e] at h1; cases h1
    | some es =>
      rw [e] at h1
      cases h1
      exact .tup (s.sqt q) (RvL.dp s r e)
  | .lst ds, _, _, .lst q r _, h => by
    have h1 : (PV.dataL ds).map PyData.list = some _ := h
    cases e : PV.dataL ds with
    | none => rw [e] at h1; cases h1
    | some es =>
      rw [e] at h1
      cases h1
      exact .lst (s.sql q) (RvL.dp s r e)
  | .dct _, _, _, _, h => by cases h
  | .rf _, _, _, _, h => by cases h
theorem RvL.dp (s : Sub F H) : ∀ {d : List PV} {v : List V} {e : List PyData}, RvL K F m v d → PV.dataL d = some e → DpAll K H v e
  | [], _, _, .nil, h => by cases h; exact .nil
  | x :: xs, _, _, .cons q r, h => by
    have h1 : (match PV.data x, PV.dataL xs with
      | some d, some ds => some (d :: ds)
      | _, _ => none) = some _ := h
    cases e1 : PV.data x with
    | none => rw [e1] at h1; cases h1
    | some d =>
      cases e2 : PV.dataL xs with
      | none => rw [e1, e2] at h1; cases h1
      | some ds =>
        rw [e1, e2] at h1
        cases h1
        exact .cons (Rv.dp s q e1) (RvL.dp s r e2)
end
theorem RvW.dp {d : PV} {e : PyData} (s : Sub F H) (h : RvW K F m H v d) (q : d.data = some e) : Dp K H v e := by
  rcases h with h | ⟨a, e1, _, _, h⟩
  · exact h.dp s q
  · subst e1
    cases d with
    | lst ds =>
      obtain ⟨vs, h1, h2, _⟩ := h
      have h1' : (PV.dataL ds).map PyData.list = some _ := q
      cases e : PV.dataL ds with
      | none => rw [e] at h1'; cases h1'
      | some es =>
        rw [e] at h1'
        cases h1'
        exact .lst (.of h1) (h2.dp s e)
    | dct ds => cases q
    | _ => exact h.elim
theorem Rv.flat {d : PV} (h : Rv K F m v d) (f : flatP d = true) : flatV v = true := by
  cases h <;> first | rfl | exact nomatch f
theorem Rv.eqv {d e : PV} (h : Rv K F m v d) (h' : Rv K F m w e) (f : flatP d = true) (f' : flatP e = true) : eqV v w = eqF d e := by
  cases h <;> cases h' <;> rfl
theorem RvL.flats : ∀ {ds : List PV} {vs : List V}, RvL K F m vs ds → ds.all flatP = true → vs.all flatV = true
  | _, _, .nil, _ => rfl
  | _, _, .cons h r, f => by
    rw [List.all_cons, Bool.and_eq_true] at f ⊢
    exact ⟨h.flat f.1, RvL.flats r f.2⟩
theorem RvL.inv {d : PV} (h : Rv K F m v d) (f : flatP d = true) : ∀ {ds : List PV} {vs : List V}, RvL K F m vs ds → ds.all flatP = true → inV v vs = inF d ds
  | _, _, .nil, _ => rfl
  | _, _, .cons q r, g => by
    rw [List.all_cons, Bool.and_eq_true] at g
    have ih := RvL.inv h f r g.2
    unfold inV inF at ih ⊢
    rw [List.any_cons, List.any_cons, ih, q.eqv h g.1 f]
theorem RvW.flat {d : PV} (h : RvW K F m H v d) (f : flatP d = true) : Rv K F m v d := by
  rcases h with h | ⟨a, e1, _, _, h⟩
  · exact h
  · cases d <;> first | exact h.elim | exact nomatch f
theorem toKey_eq {d : PV} {k : Key} (e : toKey d = some k) : d = kP k := by
  cases d <;> cases e <;> rfl
theorem Rv.key {k : Key} (h : Rv K F m v (kP k)) : v = kV k := by
  cases k with
  | inl i => cases h; rfl
  | inr i => cases h; rfl
theorem kP_flat (k : Key) : flatP (kP k) = true := by cases k <;> rfl
theorem RvD.val : ∀ {ds : List (Key × PV)} {vs : List (L2.Key × V)} (k : Key), RvD K F m vs ds → (valV vs k = none ∧ dget ds k = none) ∨ ∃ x d, valV vs k = some x ∧ dget ds k = some d ∧ Rv K F m x d
  | _, _, _, .nil => .inl ⟨rfl, rfl⟩
  | (k', d) :: ds, (_, x) :: vs, k, .cons h r => by
    by_cases e : k' = k
    · exact .inr ⟨x, d, valV_pos e, by simp [dget, List.find?_cons, e], h⟩
    · have e2 : dget ((k', d) :: ds) k = dget ds k := by simp [dget, List.find?_cons, e]
      rw [valV_neg (p := (k', x)) e, e2]
      exact RvD.val k r
abbrev isB : Hp → List Addr → V → Bool → Prop := fun _ _ v b => v = .bl b
end
section
variable {X : Cx}
theorem op_cmp (hu : X.A.units + 64 < cLine) (op : CmpOp) : OpR X (compareOp op) (rO X.K (cmpP op) isB) := by
  intro pins s σ H x y v u Q I rx ry ⟨F, m, st, d, e, z, sr, hx, hy, hz, k⟩
  have fin : Q (.bl z) H := k F _ H .refl sr rfl
  cases op with
  | Eq =>
    have hz : eqP d e = some z := hz
    unfold eqP at hz
    cases e1 : d.data with
    | none => rw [e1] at hz; cases hz
    | some pd =>
      cases e2 : e.data with
      | none => rw [e1, e2] at hz; cases hz
      | some pe =>
        rw [e1, e2] at hz
        simp only at hz
        split at hz
        · rename_i sh
          cases hz
          exact op_eqD hu pins s σ H x y v u Q I rx ry ⟨pd, pe, hx.dp sr.sub e1, hy.dp sr.sub e2, sh.1, sh.2, fin⟩
        · cases hz
  | NotEq =>
    have hz : (eqP d e).map (!·) = some z := hz
    unfold eqP at hz
    cases e1 : d.data with
    | none => rw [e1] at hz; cases hz
    | some pd =>
      cases e2 : e.data with
      | none => rw [e1, e2] at hz; cases hz
      | some pe =>
        rw [e1, e2] at hz
        simp only at hz
        split at hz
        · rename_i sh
          cases hz
          exact op_neD hu pins s σ H x y v u Q I rx ry ⟨pd, pe, hx.dp sr.sub e1, hy.dp sr.sub e2, sh.1, sh.2, fin⟩
        · cases hz
  | Lt =>
    cases d with
    | int i =>
      cases e with
      | int j => cases hz; exact op_lt pins s σ H x y v u Q I rx ry ⟨i, j, hx.int, hy.int, fin⟩
      | _ => cases hz
    | _ => cases hz
  | LtE =>
    cases d with
    | int i =>
      cases e with
      | int j => cases hz; exact op_le pins s σ H x y v u Q I rx ry ⟨i, j, hx.int, hy.int, fin⟩
      | _ => cases hz
    | _ => cases hz
  | Gt =>
    cases d with
    | int i =>
      cases e with
      | int j => cases hz; exact op_gt pins s σ H x y v u Q I rx ry ⟨i, j, hx.int, hy.int, fin⟩
      | _ => cases hz
    | _ => cases hz
  | GtE =>
    cases d with
    | int i =>
      cases e with
      | int j => cases hz; exact op_ge pins s σ H x y v u Q I rx ry ⟨i, j, hx.int, hy.int, fin⟩
      | _ => cases hz
    | _ => cases hz
  | In =>
    cases e with
    | lst ys =>
      have hz : (if flatP d = true ∧ ys.all flatP = true then some (inF d ys) else none) = some z := hz
      split at hz
      · rename_i f
        cases hz
        obtain ⟨a, xs, rfl, h2, r2, _⟩ := hy.lst sr.sub
        have hd := hx.flat f.1
        exact op_in_seq pins s σ H x _ v u Q I rx ry ⟨a, xs, rfl, .inl h2, hd.flat f.1, r2.flats f.2, by rw [if_neg (by decide), RvL.inv hd f.1 r2 f.2]; exact fin⟩
      · cases hz
    | tup ys =>
      have hz : (if flatP d = true ∧ ys.all flatP = true then some (inF d ys) else none) = some z := hz
      split at hz
      · rename_i f
        cases hz
        obtain ⟨a, xs, rfl, h2, r2, _⟩ := hy.tup sr.sub
        have hd := hx.flat f.1
        exact op_in_seq pins s σ H x _ v u Q I rx ry ⟨a, xs, rfl, .inr h2, hd.flat f.1, r2.flats f.2, by rw [if_neg (by decide), RvL.inv hd f.1 r2 f.2]; exact fin⟩
      · cases hz
    | dct kvs =>
      have hz : (toKey d).map (fun k => (dget kvs k).isSome) = some z := hz
      cases e1 : toKey d with
      | none => rw [e1] at hz; cases hz
      | some kk =>
        rw [e1] at hz
        cases hz
        obtain ⟨a, xs, rfl, h2, r2, _⟩ := hy.dct sr.sub
        cases ry
        have e2 := toKey_eq e1
        subst e2
        have hk := (hx.flat (kP_flat kk)).key
        subst hk
        refine d_in (y := kV kk) (o := valV xs kk) (by omega) I (.inl ⟨xs, kk, h2, rfl, rfl⟩) rx fun s' I' => ⟨.bl _, H, I', ?_, fin⟩
        rcases RvD.val kk r2 with ⟨q1, q2⟩ | ⟨x, d, q1, q2, _⟩ <;> simp only [q1, q2] <;> rfl
    | _ => cases hz
  | NotIn =>
    have hz : (isin d e).map (!·) = some z := hz
    cases e with
    | lst ys =>
      have hz : (if flatP d = true ∧ ys.all flatP = true then some (inF d ys) else none).map (!·) = some z := hz
      split at hz
      · rename_i f
        cases hz
        obtain ⟨a, xs, rfl, h2, r2, _⟩ := hy.lst sr.sub
        have hd := hx.flat f.1
        exact op_notIn_seq pins s σ H x _ v u Q I rx ry ⟨a, xs, rfl, .inl h2, hd.flat f.1, r2.flats f.2, by rw [if_pos rfl, RvL.inv hd f.1 r2 f.2]; exact fin⟩
      · cases hz
    | tup ys =>
      have hz : (if flatP d = true ∧ ys.all flatP = true then some (inF d ys) else none).map (!·) = some z := hz
      split at hz
      · rename_i f
        cases hz
        obtain ⟨a, xs, rfl, h2, r2, _⟩ := hy.tup sr.sub
        have hd := hx.flat f.1
        exact op_notIn_seq pins s σ H x _ v u Q I rx ry ⟨a, xs, rfl, .inr h2, hd.flat f.1, r2.flats f.2, by rw [if_pos rfl, RvL.inv hd f.1 r2 f.2]; exact fin⟩
      · cases hz
    | dct kvs =>
      have hz : ((toKey d).map (fun k => (dget kvs k).isSome)).map (!·) = some z := hz
      cases e1 : toKey d with
      | none => rw [e1] at hz; cases hz
      | some kk =>
        rw [e1] at hz
        cases hz
        obtain ⟨a, xs, rfl, h2, r2, _⟩ := hy.dct sr.sub
        cases ry
        have e2 := toKey_eq e1
        subst e2
        have hk := (hx.flat (kP_flat kk)).key
        subst hk
        refine d_notIn (y := kV kk) (o := valV xs kk) (by omega) I (.inl ⟨xs, kk, h2, rfl, rfl⟩) rx fun s' I' => ⟨.bl _, H, I', ?_, fin⟩
        rcases RvD.val kk r2 with ⟨q1, q2⟩ | ⟨x, d, q1, q2, _⟩ <;> simp only [q1, q2] <;> rfl
    | _ => cases hz
  | _ => cases hz
end
end PC
set_option linter.all false
set_option maxRecDepth 100000
set_option maxHeartbeats 1000000
set_option autoImplicit false
/-! PC, part e: sorts, subscripts, slices, built-ins by values. -/
namespace PC
open PySem PySem.Spec PyProof.Rows L2
/-! ### sorting -/
section
variable {α : Type} {le : α → α → Bool}
theorem ins_perm (a : α) : ∀ l : List α, (ins le a l).Perm (a :: l)
  | [] => .refl _
  | b :: r => by
    unfold ins
    split
    · exact .refl _
    · exact ((ins_perm a r).cons b).trans (.swap a b r)
theorem isort_perm : ∀ l : List α, (isort le l).Perm l
  | [] => .refl _
  | a :: r => (ins_perm a _).trans ((isort_perm r).cons a)
theorem ins_sorted (tot : ∀ a b, le a b = true ∨ le b a = true) (tr : ∀ a b c, le a b = true → le b c = true → le a c = true) (a : α) : ∀ l : List α, l.Pairwise (fun x y => le x y = true) → (ins le a l).Pairwise (fun x y => le x y = true)
  | [], _ => List.pairwise_singleton _ _
  | b :: r, h => by
    unfold ins
    split
    · rename_i hab
      refine List.pairwise_cons.mpr ⟨fun c hc => ?_, h⟩
      rcases List.mem_cons.mp hc with rfl | hc
      · exact hab
      · exact tr _ _ _ hab ((List.pairwise_cons.mp h).1 c hc)
    · rename_i hab
      have hba : le b a = true := (tot a b).resolve_left hab
      refine List.pairwise_cons.mpr ⟨fun c hc => ?_, ins_sorted tot tr a r (List.pairwise_cons.mp h).2⟩
      rcases List.mem_cons.mp ((ins_perm a r).mem_iff.mp hc) with rfl | hc
      · exact hba
      · exact (List.pairwise_cons.mp h).1 c hc
theorem isort_sorted (tot : ∀ a b, le a b = true ∨ le b a = true) (tr : ∀ a b c, le a b = true → le b c = true → le a c = true) : ∀ l : List α, (isort le l).Pairwise (fun x y => le x y = true)
  | [] => .nil
  | a :: r => ins_sorted tot tr a _ (isort_sorted tot tr r)
theorem sorted_one (tot : ∀ a b, le a b = true ∨ le b a = true) (tr : ∀ a b c, le a b = true → le b c = true → le a c = true) (anti : ∀ a b, le a b = true → le b a = true → a = b) {l k : List α} (p : k.Perm l) (h : k.Pairwise (fun x y => le x y = true)) :
    k = isort le l := List.Perm.eq_of_pairwise (fun x y _ _ h1 h2 => anti x y h1 h2) h (isort_sorted tot tr l) (p.trans (isort_perm l).symm)
end
theorem sortI_len (l : List Int) : (sortI l).length = l.length := (isort_perm l).length_eq
theorem sortS_len (l : List Str) : (sortS l).length = l.length := (isort_perm l).length_eq
theorem leI_tot (a b : Int) : leI a b = true ∨ leI b a = true := by unfold leI; simp; omega
theorem leI_tr (a b c : Int) : leI a b = true → leI b c = true → leI a c = true := by unfold leI; simp; omega
theorem leI_anti (a b : Int) : leI a b = true → leI b a = true → a = b := by unfold leI; simp; omega
theorem leS_iff (a b : Str) : leS a b = true ↔ a.cps.toList ≤ b.cps.toList := by
  unfold leS
  rw [ltCps_eq]
  simp
theorem leS_tot (a b : Str) : leS a b = true ∨ leS b a = true := by
  rw [leS_iff, leS_iff]
  exact List.le_total _ _
theorem leS_tr (a b c : Str) : leS a b = true → leS b c = true → leS a c = true := by
  rw [leS_iff, leS_iff, leS_iff]
  exact fun h1 h2 => List.le_trans h1 h2
theorem str_ext {a b : Str} (h : a.cps.toList = b.cps.toList) : a = b := by
  obtain ⟨⟨x⟩⟩ := a
  obtain ⟨⟨y⟩⟩ := b
  have h : x = y := h
  rw [h]
theorem leS_anti (a b : Str) : leS a b = true → leS b a = true → a = b := by
  rw [leS_iff, leS_iff]
  exact fun h1 h2 => str_ext (List.le_antisymm h1 h2)
theorem rising_all : ∀ (l : List Str) (p : Str), risingS p l = true → (∀ x ∈ l, leS p x = true) ∧ l.Pairwise (fun x y => leS x y = true)
  | [], _, _ => ⟨(fun _ h => nomatch h), .nil⟩
  | x :: r, p, h => by
    have h1 : (leS p x && risingS x r) = true := h
    rw [Bool.and_eq_true] at h1
    obtain ⟨q1, q2⟩ := rising_all r x h1.2
    refine ⟨fun y hy => ?_, List.pairwise_cons.mpr ⟨q1, q2⟩⟩
    rcases List.mem_cons.mp hy with rfl | hy
    · exact h1.1
    · exact leS_tr _ _ _ h1.1 (q1 y hy)
theorem sortedS_all {l : List Str} (h : sortedS l = true) : l.Pairwise (fun x y => leS x y = true) := by
  cases l with
  | nil => exact .nil
  | cons x r =>
    obtain ⟨q1, q2⟩ := rising_all r x h
    exact List.pairwise_cons.mpr ⟨q1, q2⟩
theorem sortI_one {l k : List Int} (p : k.Perm l) (h : k.Pairwise (· ≤ ·)) : k = sortI l :=
  sorted_one leI_tot leI_tr leI_anti p (h.imp fun {a b} q => by unfold leI; simpa using q)
theorem sortS_one {l k : List Str} (p : k.Perm l) (h : sortedS k = true) : k = sortS l := sorted_one leS_tot leS_tr leS_anti p (sortedS_all h)
section
variable {K : PySem.W.Frag} {F F' H H' : Hp} {m m' : List Addr} {v w : V}
theorem RvL.intsP : ∀ {ds : List PV} {vs : List V} {is : List Int}, RvL K F m vs ds → intsP ds = some is → vs = is.map V.int
  | _, _, _, .nil, h => by cases h; rfl
  | d :: ds, _, _, .cons q r, h => by
    cases q with
    | int i =>
      have h1 : (PC.intsP ds).map (i :: ·) = some _ := h
      cases e : PC.intsP ds with
      | none => rw [e] at h1; cases h1
      | some js =>
        rw [e] at h1
        cases h1
        rw [RvL.intsP r e]
        rfl
    | _ => cases h
theorem RvL.strsP : ∀ {ds : List PV} {vs : List V} {is : List Str}, RvL K F m vs ds → strsP ds = some is → vs = is.map V.str
  | _, _, _, .nil, h => by cases h; rfl
  | d :: ds, _, _, .cons q r, h => by
    cases q with
    | str i =>
      have h1 : (PC.strsP ds).map (i :: ·) = some _ := h
      cases e : PC.strsP ds with
      | none => rw [e] at h1; cases h1
      | some js =>
        rw [e] at h1
        cases h1
        rw [RvL.strsP r e]
        rfl
    | _ => cases h
theorem RvL.boolsP : ∀ {ds : List PV} {vs : List V} {is : List Bool}, RvL K F m vs ds → boolsP ds = some is → vs = is.map V.bl
  | _, _, _, .nil, h => by cases h; rfl
  | d :: ds, _, _, .cons q r, h => by
    cases q with
    | bl i =>
      have h1 : (PC.boolsP ds).map (i :: ·) = some _ := h
      cases e : PC.boolsP ds with
      | none => rw [e] at h1; cases h1
      | some js =>
        rw [e] at h1
        cases h1
        rw [RvL.boolsP r e]
        rfl
    | _ => cases h
theorem RvL.ofInts : ∀ is : List Int, RvL K F m (is.map V.int) (is.map PV.int)
  | [] => .nil
  | i :: r => .cons (.int i) (RvL.ofInts r)
theorem RvL.ofStrs : ∀ is : List Str, RvL K F m (is.map V.str) (is.map PV.str)
  | [] => .nil
  | i :: r => .cons (.str i) (RvL.ofStrs r)
theorem atP_at {ds : List PV} {vs : List V} {i : Int} {d : PV} (r : RvL K F m vs ds) (h : atP ds i = some d) : ∃ x, atI vs i = some x ∧ Rv K F m x d := by
  have hl := r.length
  unfold atP at h
  unfold atI ixN
  rw [hl]
  split at h
  · rename_i h0
    rw [if_pos h0]
    split at h
    · rename_i h1
      rw [if_pos h1]
      exact r.get h
    · cases h
  · rename_i h0
    rw [if_neg h0]
    split at h
    · rename_i h1
      rw [if_pos h1]
      exact r.get h
    · cases h
theorem RvL.cut {ds : List PV} {vs : List V} (r : RvL K F m vs ds) (lo hi : Option Int) : RvL K F m (cutV vs lo hi) (cutP ds lo hi) := by
  unfold cutV cutP
  rw [r.length]
  exact (r.drop _).take _
theorem cutP_length (ds : List PV) (lo hi : Option Int) : (cutP ds lo hi).length ≤ ds.length := by
  unfold cutP
  rw [List.length_take, List.length_drop]
  omega
end
section
variable {X : Cx}
/-- a subscript by values -/
def rSub (K : PySem.W.Frag) : R2 := fun x y H Q => ∃ F m st d e z, SR K F m st H ∧ RvW K F m H x d ∧ Rv K F m y e ∧ subP st d e = some z ∧ ∀ v, Rv K F m v z → Q v H
theorem ix_dict (hu : X.A.units + 1 < cLine) : IxR X (fun x y H Q => ∃ a v, x = .ref a ∧ DGet H a y (some v) ∧ Q v H) := by
  intro value slice pins s σ H x y v u Q I rx ry ⟨a, z, e, g, q⟩ hs
  subst e
  cases rx
  unfold subscriptTail
  have ht := dict_typeIs I g
  refine wpAny_bind ?_
  rw [getitemInPython_of_ne ht.not_modules]
  refine wpAny_bind (wpAny_specialOf ht PySem.F.slot_dict_getitem.lookup ?_)
  have last : wpAny (model X.prog X.w) X.A (subscripted slice false (.ref a) u) (fun r s₃ => wpAny (model X.prog X.w) X.A (letTemporaryGo value (.ref a) r >>= fun _ => pure r) (EP X pins σ Q) X.xe s₃) X.xe s := by
    rw [hs]
    refine wpAny_operating (d_getItem hu I g ry fun w' s3 I3 rw' => ?_)
    exact wpAny_bind (wpAny_letTemporaryGo (wpAny_pure ⟨z, H, I3, rw', q⟩))
  first
    | exact wpAny_pure (wpAny_bind last)
    | exact wpAny_bind (wpAny_pure (wpAny_bind last))
    | exact wpAny_bind last
theorem ix_sub (hu : X.A.units + 1 < cLine) : IxR X (rSub X.K) := by
  intro value slice pins s σ H x y v u Q I rx ry ⟨F, m, st, d, e, z, sr, hx, hy, hz, k⟩ hs
  cases d with
  | tup xs =>
    cases e with
    | int i =>
      obtain ⟨a, vs, rfl, h1, r1, _⟩ := hx.tup sr.sub
      cases hy
      obtain ⟨w, q1, q2⟩ := atP_at r1 hz
      exact ix_tup value slice pins s σ H _ _ v u Q I rx ry ⟨a, vs, i, w, rfl, rfl, h1, q1, k w q2⟩ hs
    | _ => cases hz
  | lst xs =>
    cases e with
    | int i =>
      obtain ⟨a, vs, rfl, h1, r1, _⟩ := hx.lst sr.sub
      cases hy
      obtain ⟨w, q1, q2⟩ := atP_at r1 hz
      exact ix_list value slice pins s σ H _ _ v u Q I rx ry ⟨a, vs, i, w, rfl, rfl, h1, q1, k w q2⟩ hs
    | _ => cases hz
  | rf j =>
    cases e with
    | int i =>
      rcases hx with hx | ⟨_, _, _, _, hx⟩
      · cases hx with
        | @rf a _ hm =>
          cases hy
          have hz : (match st[j]? with | some xs => atP xs i | none => none) = some z := hz
          cases e1 : st[j]? with
          | none => rw [e1] at hz; cases hz
          | some xs =>
            rw [e1] at hz
            obtain ⟨_, ⟨vs, h1, r1⟩, _⟩ := sr.cell j a xs hm e1
            obtain ⟨w, q1, q2⟩ := atP_at r1 hz
            exact ix_list value slice pins s σ H _ _ v u Q I rx ry ⟨a, vs, i, w, rfl, rfl, .of h1, q1, k w q2⟩ hs
      · exact hx.elim
    | _ => cases hz
  | dct kvs =>
    have hz : (toKey e).bind (fun kk => dget kvs kk) = some z := hz
    cases e1 : toKey e with
    | none => rw [e1] at hz; cases hz
    | some kk =>
      rw [e1] at hz
      have hd : dget kvs kk = some z := hz
      obtain ⟨a, xs, rfl, h2, r2, _⟩ := hx.dct sr.sub
      have e2 := toKey_eq e1
      subst e2
      have hk := hy.key
      subst hk
      rcases RvD.val kk r2 with ⟨q1, q2⟩ | ⟨x, d, q1, q2, q3⟩
      · rw [q2] at hd; cases hd
      · rw [q2] at hd
        cases hd
        exact ix_dict hu value slice pins s σ H _ _ v u Q I rx ry ⟨a, x, rfl, .inl ⟨xs, kk, h2, rfl, q1.symm⟩, k x q3⟩ hs
  | _ => cases hz
/-- a slice by values -/
def rSlP (K : PySem.W.Frag) : V → Option Int → Option Int → Hp → VK → Prop := fun x lo hi H Q => ∃ F m st d z, SR K F m st H ∧ RvW K F m H x d ∧ slcP d lo hi = some z ∧ ∀ F' v H', Stp F m H F' m H' → SR K F' m st H' → Rv K F' m v z → Q v H'
theorem sl_P : SlR X (rSlP X.K) := by
  intro pins s σ H x v vl vu lo hi sl Q I rx hs pl pu ⟨F, m, st, d, z, sr, hx, hz, k⟩
  cases d with
  | tup ds =>
    cases hz
    have ht := hx.tupR
    obtain ⟨a, vs, rfl, h1, r1, l1⟩ := hx.tup sr.sub
    refine sl_tupA pins s σ H _ v vl vu lo hi sl Q I rx hs pl pu ⟨a, vs, rfl, h1, fun nw => ?_, fun _ p hp => k _ _ _ (.alloc sr.sub hp) (sr.alloc hp) (.tup (.of upd_same) ((r1.cut lo hi).mono (le_upd (sr.sub.no hp)) .refl) (Nat.le_trans (cutP_length _ _ _) l1))⟩
    rw [r1.length] at nw
    have e : cutP ds lo hi = ds := by
      unfold cutP
      rw [nw.1, nw.2, List.drop_zero, Nat.sub_zero, List.take_length]
    rw [e] at k
    exact k F _ H .refl sr ht
  | lst ds =>
    cases hz
    obtain ⟨a, vs, rfl, h1, r1, l1⟩ := hx.lst sr.sub
    exact sl_list pins s σ H _ v vl vu lo hi sl Q I rx hs pl pu ⟨a, vs, rfl, h1, fun p hp => k _ _ _ (.alloc sr.sub hp) (sr.alloc hp) (.lst (.of upd_same) ((r1.cut lo hi).mono (le_upd (sr.sub.no hp)) .refl) (Nat.le_trans (cutP_length _ _ _) l1))⟩
  | _ => cases hz
end
end PC
set_option linter.all false
set_option maxRecDepth 100000
set_option maxHeartbeats 1000000
set_option autoImplicit false
/-! PC, part f: built-ins by values. -/
namespace PC
open PySem PySem.Spec PyProof.Rows L2
section
variable {K : PySem.W.Frag} {F F' H H' : Hp} {m m' : List Addr} {v w : V}
theorem keys_eq : ∀ {ds : List (Key × PV)} {vs : List (L2.Key × V)}, RvD K F m vs ds → vs.map (·.1) = ds.map (·.1)
  | _, _, .nil => rfl
  | _, _, .cons _ r => by
    rw [List.map_cons, List.map_cons, keys_eq r]
theorem intsP_keys : ∀ {ds : List (Key × PV)} {is : List Int}, intsP (ds.map fun kv => kP kv.1) = some is → ds.map (·.1) = is.map Sum.inl
  | [], _, h => by cases h; rfl
  | (k, d) :: ds, _, h => by
    cases k with
    | inl i =>
      have h1 : (intsP (ds.map fun kv => kP kv.1)).map (i :: ·) = some _ := h
      cases e : intsP (ds.map fun kv => kP kv.1) with
      | none => rw [e] at h1; cases h1
      | some js =>
        rw [e] at h1
        cases h1
        rw [List.map_cons, List.map_cons, intsP_keys e]
    | inr x => cases h
theorem strsP_keys : ∀ {ds : List (Key × PV)} {is : List Str}, strsP (ds.map fun kv => kP kv.1) = some is → ds.map (·.1) = is.map Sum.inr
  | [], _, h => by cases h; rfl
  | (k, d) :: ds, _, h => by
    cases k with
    | inr i =>
      have h1 : (strsP (ds.map fun kv => kP kv.1)).map (i :: ·) = some _ := h
      cases e : strsP (ds.map fun kv => kP kv.1) with
      | none => rw [e] at h1; cases h1
      | some js =>
        rw [e] at h1
        cases h1
        rw [List.map_cons, List.map_cons, strsP_keys e]
    | inl x => cases h
theorem intsP_len : ∀ {ds : List PV} {is : List Int}, intsP ds = some is → is.length = ds.length
  | [], _, h => by cases h; rfl
  | .int i :: ds, _, h => by
    have h1 : (intsP ds).map (i :: ·) = some _ := h
    cases e : intsP ds with
    | none => rw [e] at h1; cases h1
    | some js =>
      rw [e] at h1
      cases h1
      rw [List.length_cons, List.length_cons, intsP_len e]
theorem strsP_len : ∀ {ds : List PV} {is : List Str}, strsP ds = some is → is.length = ds.length
  | [], _, h => by cases h; rfl
  | .str i :: ds, _, h => by
    have h1 : (strsP ds).map (i :: ·) = some _ := h
    cases e : strsP ds with
    | none => rw [e] at h1; cases h1
    | some js =>
      rw [e] at h1
      cases h1
      rw [List.length_cons, List.length_cons, strsP_len e]
/-- dicts put together -/
theorem any_key (k : Key) : ∀ {ds : List (Key × PV)} {vs : List (L2.Key × V)}, RvD K F m vs ds → (vs.any fun kv => decide (kv.1 = k)) = ds.any fun kv => decide (kv.1 = k)
  | _, _, .nil => rfl
  | _, _, .cons _ r => by rw [List.any_cons, List.any_cons, any_key k r]
theorem RvD.repl (k : Key) {d : PV} (h : Rv K F m v d) : ∀ {ds : List (Key × PV)} {vs : List (L2.Key × V)}, RvD K F m vs ds →
    RvD K F m (vs.map fun kv => if kv.1 = k then (kv.1, v) else kv) (ds.map fun kv => if kv.1 = k then (kv.1, d) else kv)
  | _, _, .nil => .nil
  | (k', _) :: _, _, .cons q r => by
    have ih := RvD.repl k h r
    rw [List.map_cons, List.map_cons]
    by_cases e : k' = k
    · simp only [e, if_pos]
      exact .cons h ih
    · simp only [e, if_false]
      exact .cons q ih
theorem RvD.snoc (k : Key) {d : PV} (h : Rv K F m v d) : ∀ {ds : List (Key × PV)} {vs : List (L2.Key × V)}, RvD K F m vs ds → RvD K F m (vs ++ [(k, v)]) (ds ++ [(k, d)])
  | _, _, .nil => .cons h .nil
  | _, _, .cons q r => .cons q (RvD.snoc k h r)
theorem RvD.put (k : Key) {d : PV} (h : Rv K F m v d) {ds : List (Key × PV)} {vs : List (L2.Key × V)} (r : RvD K F m vs ds) : RvD K F m (putK vs k v) (dput ds k d) := by
  unfold putK dput
  rw [any_key k r]
  split
  · exact r.repl k h
  · exact r.snoc k h
theorem RvD.merge : ∀ {more : List (Key × PV)} {mv : List (L2.Key × V)} {ds : List (Key × PV)} {vs : List (L2.Key × V)}, RvD K F m mv more → RvD K F m vs ds → RvD K F m (mergeK vs mv) (dmerge ds more)
  | [], _, _, _, .nil, r => r
  | (k, d) :: more, (_, v) :: mv, ds, vs, .cons h q, r => RvD.merge (ds := dput ds k d) (vs := putK vs k v) q (r.put k h)
theorem dput_len (ds : List (Key × PV)) (k : Key) (d : PV) : (dput ds k d).length ≤ ds.length + 1 := by
  unfold dput
  split
  · rw [List.length_map]; omega
  · rw [List.length_append]; exact Nat.le_refl _
theorem dmerge_len : ∀ (more ds : List (Key × PV)), (dmerge ds more).length ≤ ds.length + more.length
  | [], ds => Nat.le_refl _
  | kv :: more, ds => by
    have h := dmerge_len more (dput ds kv.1 kv.2)
    have h2 := dput_len ds kv.1 kv.2
    show (dmerge (dput ds kv.1 kv.2) more).length ≤ ds.length + (more.length + 1)
    omega
theorem pairOf_is {es : List PV} {kv : Key × PV} (e : pairOf (.tup es) = some kv) : es = [kP kv.1, kv.2] := by
  match es, e with
  | [e1, e2], e =>
    have h2 : (toKey e1).map (fun k => (k, e2)) = some kv := e
    cases ek : toKey e1 with
    | none => rw [ek] at h2; cases h2
    | some k =>
      rw [ek] at h2
      cases h2
      rw [toKey_eq ek]
  | [], h1 => cases h1
  | [_], h1 => cases h1
  | _ :: _ :: _ :: _, h1 => cases h1
theorem pair_of_rv (s : Sub F H) {d : PV} {v : V} {kv : Key × PV} (h : Rv K F m v d) (e : pairOf d = some kv) : ∃ (p : Addr) (x : V), v = .ref p ∧ SqT K H p [kV kv.1, x] ∧ Rv K F m x kv.2 := by
  cases h with
  | @tup a xs es hs hr hl =>
    have e2 := pairOf_is e
    subst e2
    cases hr with
    | cons r1 hr =>
      cases hr with
      | cons r2 hr =>
        cases hr
        have hk := r1.key
        subst hk
        exact ⟨a, _, rfl, s.sqt hs, r2⟩
  | _ => cases e
theorem pairs_of_rv (s : Sub F H) : ∀ {ds : List PV} {vs : List V} {kvs : List (Key × PV)}, RvL K F m vs ds → pairsP ds = some kvs → ∃ (ps : List Addr) (ks : List (L2.Key × V)), vs = ps.map V.ref ∧ Paired (fun p kv => SqT K H p [kV kv.1, kv.2]) ps ks ∧ RvD K F m ks kvs
  | _, _, _, .nil, h => by cases h; exact ⟨[], [], rfl, .nil, .nil⟩
  | d :: ds, _, _, .cons q r, h => by
    have h1 : (match pairOf d, pairsP ds with
      | some p, some r => some (p :: r)
      | _, _ => none) = some _ := h
    cases ek : pairOf d with
    | none => rw [ek] at h1; cases h1
    | some kv =>
      cases er : pairsP ds with
      | none => rw [ek, er] at h1; cases h1
      | some kvs =>
        rw [ek, er] at h1
        cases h1
        obtain ⟨ps, ks, q1, q2, q3⟩ := pairs_of_rv s r er
        obtain ⟨p, x, p1, p2, p3⟩ := pair_of_rv s q ek
        exact ⟨p :: ps, (kv.1, x) :: ks, by rw [p1, q1]; rfl, .cons p2 q2, .cons p3 q3⟩
theorem pairsP_len : ∀ {ds : List PV} {kvs : List (Key × PV)}, pairsP ds = some kvs → kvs.length = ds.length
  | [], _, h => by cases h; rfl
  | d :: ds, _, h => by
    have h1 : (match pairOf d, pairsP ds with
      | some p, some r => some (p :: r)
      | _, _ => none) = some _ := h
    cases ek : pairOf d with
    | none => rw [ek] at h1; cases h1
    | some kv =>
      cases er : pairsP ds with
      | none => rw [ek, er] at h1; cases h1
      | some kvs =>
        rw [ek, er] at h1
        cases h1
        rw [List.length_cons, List.length_cons, pairsP_len er]
/-- a call with one argument, with two -/
def rC1 (K : PySem.W.Frag) (g : PV → Option PV) : List V → Hp → VK → Prop := fun xs H Q => ∃ x, xs = [x] ∧ ∃ F m st d z, SR K F m st H ∧ RvW K F m H x d ∧ g d = some z ∧ ∀ F' v H', Stp F m H F' m H' → SR K F' m st H' → Rv K F' m v z → Q v H'
def rC2 (K : PySem.W.Frag) (g : PV → PV → Option PV) : List V → Hp → VK → Prop := fun xs H Q => ∃ x y, xs = [x, y] ∧ ∃ F m st d e z, SR K F m st H ∧ RvW K F m H x d ∧ RvW K F m H y e ∧ g d e = some z ∧ ∀ F' v H', Stp F m H F' m H' → SR K F' m st H' → Rv K F' m v z → Q v H'
end
/-- what a built-in is -/
def B1.fn : B1 → Option Value
  | .len => some (.builtin "len")
  | .all => some (.builtin "all")
  | .any => some (.builtin "any")
  | .sorted => some (.builtin "sorted")
  | .tuple => some (.type "tuple")
  | .list => some (.type "list")
  | .int => some (.type "int")
  | .dict => some (.type "dict")
  | _ => none
section
variable {X : Cx}
theorem call_b1 (hc : X.calm = true) (f : B1) (u : Value) (hf : f.fn = some u) : CallR X u (rC1 X.K (b1P f)) := by
  intro pins s σ H xs us Q I r ⟨x, e, F, m, st, d, z, sr, hx, hz, k⟩
  subst e
  have new : ∀ (o : HO) (p : Addr), (∀ ps, o ≠ .tbl ps) → H p = none → Rv X.K (upd F p o) m (.ref p) z → Q (.ref p) (upd H p o) := fun o p t hp q => k _ _ _ (.alloc sr.sub hp) (sr.alloc hp t) q
  have lst : ∀ (vs : List V) (ds : List PV) (p : Addr), z = .lst ds → RvL X.K F m vs ds → ds.length ≤ big → H p = none → Q (.ref p) (upd H p (.lst vs)) := fun vs ds p e q l hp => by
    subst e
    exact new _ p (fun _ z => by cases z) hp (.lst (.of upd_same) (q.mono (le_upd (sr.sub.no hp)) .refl) l)
  have srt : ∀ ds vs a, RvL X.K F m vs ds → ds.length ≤ big → sortL ds = some z → x = .ref a → SqL X.K H a vs → u = .builtin "sorted" → wpAny (model X.prog X.w) X.A (PySem.call u us) (EP X pins σ Q) X.xe s := fun ds vs a r1 l1 hz ex h1 eu => by
    subst eu ex
    unfold sortL at hz
    cases e1 : intsP ds with
    | some is =>
      rw [e1] at hz
      cases hz
      have ev := r1.intsP e1
      subst ev
      refine cr_sortedI pins s σ H _ us Q I r ⟨a, is, rfl, h1, fun ns' p hp hs hn => ?_⟩
      have e2 := sortI_one hp hs
      subst e2
      exact lst _ _ p rfl (.ofInts _) (by rw [List.length_map, sortI_len, intsP_len e1]; exact l1) hn
    | none =>
      rw [e1] at hz
      simp only at hz
      cases e2 : strsP ds with
      | none => rw [e2] at hz; cases hz
      | some ss =>
        rw [e2] at hz
        simp only at hz
        split at hz
        · rename_i h64
          cases hz
          have ev := r1.strsP e2
          subst ev
          refine cr_sortedS pins s σ H _ us Q I r ⟨a, ss, rfl, h1, h64, fun ns' p hp hs hn => ?_⟩
          have e3 := sortS_one hp hs
          subst e3
          exact lst _ _ p rfl (.ofStrs _) (by rw [List.length_map, sortS_len, strsP_len e2]; exact l1) hn
        · cases hz
  cases f with
  | len =>
    cases hf
    cases d with
    | lst ds =>
      cases hz
      obtain ⟨a, vs, rfl, h1, r1, _⟩ := hx.lst sr.sub
      exact call_len_seq pins s σ H _ us Q I r ⟨a, vs, rfl, .inl h1, k F _ H .refl sr (by rw [r1.length]; exact .int _)⟩
    | tup ds =>
      cases hz
      obtain ⟨a, vs, rfl, h1, r1, _⟩ := hx.tup sr.sub
      exact call_len_seq pins s σ H _ us Q I r ⟨a, vs, rfl, .inr h1, k F _ H .refl sr (by rw [r1.length]; exact .int _)⟩
    | dct ds =>
      cases hz
      obtain ⟨a, vs, rfl, h1, r1, _⟩ := hx.dct sr.sub
      obtain ⟨u, rfl, ru⟩ := vals1 r
      cases ru
      refine d_len I h1 fun t s' I' => ⟨.int _, H, I', ⟨t, rfl⟩, k F _ H .refl sr (by rw [r1.length]; exact .int _)⟩
    | _ => cases hz
  | all =>
    cases hf
    cases d with
    | lst ds =>
      have hz : (boolsP ds).map (fun bs => PV.bl (bs.all id)) = some z := hz
      cases e : boolsP ds with
      | none => rw [e] at hz; cases hz
      | some bs =>
        rw [e] at hz
        cases hz
        obtain ⟨a, vs, rfl, h1, r1, _⟩ := hx.lst sr.sub
        exact cr_all hc pins s σ H _ us Q I r ⟨a, bs, rfl, by rw [← r1.boolsP e]; exact h1, k F _ H .refl sr (.bl _)⟩
    | _ => cases hz
  | any =>
    cases hf
    cases d with
    | lst ds =>
      have hz : (boolsP ds).map (fun bs => PV.bl (bs.any id)) = some z := hz
      cases e : boolsP ds with
      | none => rw [e] at hz; cases hz
      | some bs =>
        rw [e] at hz
        cases hz
        obtain ⟨a, vs, rfl, h1, r1, _⟩ := hx.lst sr.sub
        exact cr_any hc pins s σ H _ us Q I r ⟨a, bs, rfl, by rw [← r1.boolsP e]; exact h1, k F _ H .refl sr (.bl _)⟩
    | _ => cases hz
  | tuple =>
    cases hf
    cases d with
    | lst ds =>
      cases hz
      obtain ⟨a, vs, rfl, h1, r1, l1⟩ := hx.lst sr.sub
      exact call_tuple_of pins s σ H _ us Q I r ⟨a, vs, rfl, .inl ⟨h1, fun p hp => new _ p (fun _ z => by cases z) hp (.tup (.of upd_same) (r1.mono (le_upd (sr.sub.no hp)) .refl) l1)⟩⟩
    | tup ds =>
      cases hz
      obtain ⟨a, vs, rfl, h1, r1, l1⟩ := hx.tup sr.sub
      exact call_tuple_of pins s σ H _ us Q I r ⟨a, vs, rfl, .inr ⟨h1, k F _ H .refl sr hx.tupR⟩⟩
    | _ => cases hz
  | list =>
    cases hf
    cases d with
    | lst ds =>
      cases hz
      obtain ⟨a, vs, rfl, h1, r1, l1⟩ := hx.lst sr.sub
      exact call_list_of pins s σ H _ us Q I r ⟨a, vs, rfl, .inl h1, fun p hp => lst _ _ p rfl r1 l1 hp⟩
    | tup ds =>
      cases hz
      obtain ⟨a, vs, rfl, h1, r1, l1⟩ := hx.tup sr.sub
      exact call_list_of pins s σ H _ us Q I r ⟨a, vs, rfl, .inr h1, fun p hp => lst _ _ p rfl r1 l1 hp⟩
    | _ => cases hz
  | int =>
    cases hf
    cases d with
    | int i =>
      cases hz
      exact call_int1 pins s σ H _ us Q I r (.inl ⟨i, by rw [hx.int], k F _ H .refl sr (.int _)⟩)
    | bl b =>
      cases hz
      exact call_int1 pins s σ H _ us Q I r (.inr ⟨b, by rw [hx.bl], k F _ H .refl sr (.int _)⟩)
    | _ => cases hz
  | sorted =>
    cases hf
    cases d with
    | lst ds =>
      obtain ⟨a, vs, rfl, h1, r1, l1⟩ := hx.lst sr.sub
      exact srt ds vs a r1 l1 hz rfl h1 rfl
    | dct ds =>
      have hz : (if ds.length < 64 then sortL (ds.map fun kv => kP kv.1) else none) = some z := hz
      split at hz
      · rename_i h64
        obtain ⟨a, vs, rfl, h1, r1, l1⟩ := hx.dct sr.sub
        unfold sortL at hz
        cases e1 : intsP (ds.map fun kv => kP kv.1) with
        | some is =>
          rw [e1] at hz
          cases hz
          have hl := intsP_len e1
          rw [List.length_map] at hl
          refine call_sortedDI hc pins s σ H _ us Q I r ⟨a, vs, is, rfl, h1, (keys_eq r1).trans (intsP_keys e1), by rw [hl]; exact h64, fun ns' p hp hs hn => ?_⟩
          have e2 := sortI_one hp hs
          subst e2
          exact lst _ _ p rfl (.ofInts _) (by rw [List.length_map, sortI_len, hl]; exact l1) hn
        | none =>
          rw [e1] at hz
          simp only at hz
          cases e2 : strsP (ds.map fun kv => kP kv.1) with
          | none => rw [e2] at hz; cases hz
          | some ss =>
            rw [e2] at hz
            simp only at hz
            have hl := strsP_len e2
            rw [List.length_map] at hl
            split at hz
            · cases hz
              refine call_sortedD hc pins s σ H _ us Q I r ⟨a, vs, ss, rfl, h1, (keys_eq r1).trans (strsP_keys e2), by rw [hl]; exact h64, fun ns' p hp hs hn => ?_⟩
              have e3 := sortS_one hp hs
              subst e3
              exact lst _ _ p rfl (.ofStrs _) (by rw [List.length_map, sortS_len, hl]; exact l1) hn
            · cases hz
      · cases hz
    | _ => cases hz
  | dict =>
    cases hf
    cases d with
    | lst ds =>
      have hz : (pairsP ds).map (fun kvs => PV.dct (dmerge [] kvs)) = some z := hz
      cases e : pairsP ds with
      | none => rw [e] at hz; cases hz
      | some kvs =>
        rw [e] at hz
        cases hz
        obtain ⟨a, vs, rfl, h1, r1, l1⟩ := hx.lst sr.sub
        obtain ⟨ps, ks, rfl, q2, q3⟩ := pairs_of_rv sr.sub r1 e
        refine call_dictP hc pins s σ H _ us Q I r ⟨a, ps, ks, rfl, h1, q2, fun p hp => new _ p (fun _ z => by cases z) hp (.dct upd_same ((RvD.merge q3 .nil).mono (le_upd (sr.sub.no hp)) .refl) ?_)⟩
        have q := dmerge_len kvs []
        have q' := pairsP_len e
        rw [List.length_nil] at q
        omega
    | dct ds =>
      cases hz
      obtain ⟨a, vs, rfl, h1, r1, l1⟩ := hx.dct sr.sub
      exact call_dictD pins s σ H _ us Q I r ⟨a, vs, rfl, h1, fun p hp => new _ p (fun _ z => by cases z) hp (.dct upd_same (r1.mono (le_upd (sr.sub.no hp)) .refl) l1)⟩
    | _ => cases hz
  | _ => cases hf
theorem call_max (hc : X.calm = true) : CallR X (.builtin "max") (rC2 X.K (b2P .max)) := by
  intro pins s σ H xs us Q I r ⟨x, y, e, F, m, st, d, e2, z, sr, hx, hy, hz, k⟩
  subst e
  cases d with
  | int i =>
    cases e2 with
    | int j =>
      cases hz
      exact call_max2 hc pins s σ H _ us Q I r ⟨i, j, by rw [hx.int, hy.int], k F _ H .refl sr (.int _)⟩
    | _ => cases hz
  | _ => cases hz
/-! ### isinstance -/
def knownTy : List String := ["int", "bool", "str", "tuple", "list", "dict"]
theorem kit_all : ∀ t ∈ ("NoneType" :: knownTy), ∀ u ∈ knownTy, kitB t u = some (u == t || (t == "bool" && u == "int")) := by decide +kernel
theorem tyX_of {K : PySem.W.Frag} {F H : Hp} {m : List Addr} {x : V} {d : PV} {t : String} (s : Sub F H) (hx : RvW K F m H x d) (h : tyOf d = some t) : TyX K H x (.type t) ∧ t ∈ ("NoneType" :: knownTy) := by
  have sq : ∀ a xs, SqL K H a xs → TyX K H (.ref a) (.type "list") := fun a xs q => by
    rcases q with (q | ⟨o, q⟩) | ⟨o, _, _, q, c, _⟩
    · exact .base (.lst q)
    · exact .base (.frz q)
    · exact .kList q c
  have sq' : ∀ a xs, SqT K H a xs → TyX K H (.ref a) (.type "tuple") := fun a xs q => by
    rcases q with (q | ⟨o, q⟩) | ⟨o, _, _, q, c, _⟩
    · exact .base (.tup q)
    · exact .fTuple q
    · exact .kTuple q c
  cases d with
  | non => cases h; rw [hx.non]; exact ⟨.base .non, by decide⟩
  | bl b => cases h; rw [hx.bl]; exact ⟨.base (.bl b), by decide⟩
  | int b => cases h; rw [hx.int]; exact ⟨.base (.int b), by decide⟩
  | str b => cases h; rw [hx.str]; exact ⟨.base (.str b), by decide⟩
  | tup ds =>
    cases h
    obtain ⟨a, vs, rfl, h1, _, _⟩ := hx.tup s
    exact ⟨sq' a vs h1, by decide⟩
  | lst ds =>
    cases h
    obtain ⟨a, vs, rfl, h1, _, _⟩ := hx.lst s
    exact ⟨sq a vs h1, by decide⟩
  | dct ds =>
    cases h
    obtain ⟨a, vs, rfl, h1, _, _⟩ := hx.dct s
    rcases h1 with h1 | ⟨o, h1⟩
    · exact ⟨.base (.dK h1), by decide⟩
    · exact ⟨.fDict h1, by decide⟩
  | rf k => cases h
end
end PC
set_option linter.all false
set_option maxRecDepth 100000
set_option maxHeartbeats 1000000
set_option autoImplicit false
/-! PC, part g: readings of the core, the context, simple expressions. -/
namespace PC
open PySem PySem.Spec PyProof.Rows L2
/-- an exception in the air: its class by name, its fields -/
def ExcR (K : PySem.W.Frag) (mg : Str → Option Value) (F : Hp) (m : List Addr) (H : Hp) (cv : Value) (d : Option Addr) (c : Str) (fs : List (Str × PV)) : Prop :=
  ∃ (C dd : Addr) (gs : List (Str × V)), mg c = some (.ref C) ∧ cv = .ref C ∧ d = some dd ∧ H dd = some (.xd gs) ∧ gs.map (·.1) = fs.map (·.1) ∧ RvL K F m (gs.map (·.2)) (fs.map (·.2))
/-- what is wanted behind an evaluation -/
def Post {α β : Type} (K : PySem.W.Frag) (mg : Str → Option Value) (W : XK) (F : Hp) (m : List Addr) (H : Hp) (A : Hp → List Addr → Hp → β → α → Prop) (r : R α) (Q : β → Hp → Prop) : Prop := match r with
  | .ok a st => ∀ F' m' H' b, Stp F m H F' m' H' → SR K F' m' st H' → A F' m' H' b a → Q b H'
  | .exc c fs st => ∀ F' m' H' cv d, Stp F m H F' m' H' → SR K F' m' st H' → ExcR K mg F' m' H' cv d c fs → W cv d H'
  | .bad => False
section
variable {α β γ δ : Type} {K : PySem.W.Frag} {mg : Str → Option Value} {W : XK} {F F' H H' : Hp} {m m' : List Addr} {A : Hp → List Addr → Hp → β → α → Prop} {B : Hp → List Addr → Hp → δ → γ → Prop} {r : R α} {Q : β → Hp → Prop} {Q1 : δ → Hp → Prop}
theorem Post.step (s : Stp F m H F' m' H') (h : Post K mg W F m H A r Q) : Post K mg W F' m' H' A r Q := by
  cases r with
  | ok a st => exact fun F2 m2 H2 b s2 => h F2 m2 H2 b (s.trans s2)
  | exc c fs st => exact fun F2 m2 H2 cv d s2 => h F2 m2 H2 cv d (s.trans s2)
  | bad => exact h
theorem Post.bind {f : γ → Store → R α} {q : R γ} (h : Post K mg W F m H A (q.bind f) Q)
    (k : ∀ x st1, q = .ok x st1 → ∀ F1 m1 H1 v, Stp F m H F1 m1 H1 → SR K F1 m1 st1 H1 → B F1 m1 H1 v x → Post K mg W F1 m1 H1 A (f x st1) Q → Q1 v H1) : Post K mg W F m H B q Q1 := by
  cases q with
  | ok x st1 => exact fun F1 m1 H1 v s1 r1 b1 => k x st1 rfl F1 m1 H1 v s1 r1 b1 (Post.step s1 h)
  | exc c fs st => exact h
  | bad => exact h
theorem Post.bad (h : Post K mg W F m H A .bad Q) : False := h
end
abbrev AV (K : PySem.W.Frag) : Hp → List Addr → Hp → V → PV → Prop := fun F m _ => Rv K F m
abbrev AW (K : PySem.W.Frag) : Hp → List Addr → Hp → V → PV → Prop := fun F m H => RvW K F m H
abbrev AL (K : PySem.W.Frag) : Hp → List Addr → Hp → List V → List PV → Prop := fun F m _ => RvL K F m
abbrev AB : Hp → List Addr → Hp → Bool → PV → Prop := fun _ _ _ b d => d = .bl b
/-- the state before an evaluation -/
def At (K : PySem.W.Frag) (σ : L2.St) (H : Hp) (P : Hp → List Addr → Store → Env → Prop) : Prop := ∃ F m st ρ, SR K F m st H ∧ ER K F m H σ ρ ∧ P F m st ρ
def tX (K : PySem.W.Frag) (mg : Str → Option Value) (W : WX) (f : Env → Store → R PV) : TE := fun σ H Q => At K σ H fun F m st ρ => Post K mg (fun c d H' => W c d σ H') F m H (AV K) (f ρ st) Q
def tW (K : PySem.W.Frag) (mg : Str → Option Value) (W : WX) (f : Env → Store → R PV) : TE := fun σ H Q => At K σ H fun F m st ρ => Post K mg (fun c d H' => W c d σ H') F m H (AW K) (f ρ st) Q
def tT (K : PySem.W.Frag) (mg : Str → Option Value) (W : WX) (f : Env → Store → R PV) : TT := fun σ H Q => At K σ H fun F m st ρ => Post K mg (fun c d H' => W c d σ H') F m H AB (f ρ st) Q
def tA (K : PySem.W.Frag) (mg : Str → Option Value) (W : WX) (f : Env → Store → R (List PV)) : TA := fun σ H Q => At K σ H fun F m st ρ => Post K mg (fun c d H' => W c d σ H') F m H (AL K) (f ρ st) Q
/-- a call's promise: what the evaluator says of it -/
def spI (K : PySem.W.Frag) (mg : Str → Option Value) (G : Ops) (f : Str) (ar : Nat) : Sp := fun vs H Q E => vs.length = ar ∧ ∃ F m st ds, SR K F m st H ∧ RvL K F m vs ds ∧ Post K mg E F m H (AV K) (G f ds st) Q
structure CallOk (P : Program) (w : PySem.World) (K : PySem.W.Frag) (mg : Str → Option Value) (base : Heap) (A : Around) (G : Ops) (f : Str) (lo hi : Nat) : Prop where
  ex : ∃ (fa : Addr) (fd : FuncData) (ps : List Str) (k : Nat), mg f = some (.ref fa) ∧ PySem.W.keepIn K (.ref fa) = true ∧ Room k A ∧ FnOk P w K mg base (L2.CX P w) k fa fd ps (spI K mg G f ps.length) ∧
    ∀ n, lo ≤ n → n ≤ hi → ∃ (ds : List Value) (dvs : List V) (dps : List PV), Vals dvs ds ∧ (∀ F m, RvL K F m dvs dps) ∧ Binds K fd ps ds ∧ n + dps.length = ps.length ∧ ∀ xs st, xs.length = n → G f xs st = G f (xs ++ dps) st
def bnames : List Str := ["isinstance", "len", "all", "any", "tuple", "list", "sorted", "dict", "int", "max", "range", "zip", "enumerate", "set", "str", "bool"]
/-- the context of a piece of code whose names the scope sc tells -/
structure Good0 (X : Cx) (sc : Scope) (W : WX) (G : Ops) (fns : List (Str × Nat × Nat)) : Prop where
  calm : X.calm = true
  nd : X.N.Nodup
  vis : ∀ x, Vis sc x → Vis X.env.scope x
  gl : ∀ x, sc.names.lookup x = some .globalImplicit → X.env.kindOf x = some .globalImplicit
  loc : ∀ x, Loc sc x → Loc X.env.scope x ∧ (X.fn x = true ∨ X.env.scope.names.lookup x = some .local)
  cf : ∀ x, sc.names.lookup x = some .cell ∨ sc.names.lookup x = some .free → X.env.scope.names.lookup x = some .cell ∨ X.env.scope.names.lookup x = some .free
  tk : Takes X W
  hu : X.A.units + 64 < cLine
  free : ∀ x ∈ bnames, X.mg x = none
  fns : ∀ f lo hi, (f, lo, hi) ∈ fns → 0 < hi → CallOk X.prog X.w X.K X.mg X.base X.A G f lo hi
def noArgs : Arguments → Bool
  | ⟨[], [], none, [], [], none, []⟩ => true
  | _ => false
abbrev lamMark : Str × Nat × Nat := ("<lambda>", 0, 0)
/-- within a lambda or a comprehension no lambda is told of -/
def lamFns (fns : List (Str × Nat × Nat)) : List (Str × Nat × Nat) := fns.filter fun z => !decide (z = lamMark)
theorem lamFns_no {fns : List (Str × Nat × Nat)} : lamMark ∉ lamFns fns := fun h => by
  have := (List.mem_filter.mp h).2
  simp at this
theorem lamFns_sub {fns : List (Str × Nat × Nat)} {z : Str × Nat × Nat} (h : z ∈ lamFns fns) : z ∈ fns := (List.mem_filter.mp h).1
/-- a lambda handed to the law's def that tells what its deed raises -/
def PartK (X : Cx) (sc : Scope) (W : WX) (G : Ops) (fns : List (Str × Nat × Nat)) : Prop := ∀ (body : Env → Store → R PV) (e : Expr) (ps : Arguments) (scope : Scope) (lpos p pos : Pos), noArgs ps = true → LamX.lamSB sc scope = true → Gl X "_law_part" →
  (∀ (Y : Cx) (E : XK), Y.N = X.N → Y.K = X.K → Y.mg = X.mg → Good0 Y scope (fun c d _ H => E c d H) G fns → PE Y e (tX Y.K Y.mg (fun c d _ H => E c d H) body)) →
    PE X (.Call (.Name "_law_part" p) [.Lambda ps e scope lpos] [] pos) (tX X.K X.mg W fun ρ st => partR "BadTerm" "part" (body ρ st))
structure Good (X : Cx) (sc : Scope) (W : WX) (G : Ops) (fs : List (Str × Nat × Nat)) : Prop extends Good0 X sc W G fs where
  part : lamMark ∈ fs → PartK X sc W G (lamFns fs)
theorem Good0.good {X : Cx} {sc : Scope} {W : WX} {G : Ops} {fns : List (Str × Nat × Nat)} (g : Good0 X sc W G (lamFns fns)) : Good X sc W G (lamFns fns) := { g with part := fun h => absurd h lamFns_no }
/-! ### the checker's small words -/
def notStar : Expr → Bool
  | .Starred .. => false
  | _ => true
def visB (sc : Scope) (x : Str) : Bool := match sc.names.lookup x with
  | some .local => true
  | some .cell => true
  | some .free => true
  | _ => false
def locB (sc : Scope) (x : Str) : Bool := match sc.names.lookup x with
  | some .local => true
  | some .cell => true
  | _ => false
def glB (sc : Scope) (x : Str) : Bool := match sc.names.lookup x with
  | some .globalImplicit => true
  | _ => false
def nameOk (x : Str) : Bool := !(x == ("__debug__" : Str)) && (!(x == ("__classdict__" : Str)) && !(decide (x = ("__name__" : Str))))
def varB (N : List Str) (sc : Scope) (i : Nat) (x : Str) : Bool := decide (N[i]? = some x) && (visB sc x && nameOk x)
def tgtB (N : List Str) (sc : Scope) (i : Nat) (x : Str) : Bool := decide (N[i]? = some x) && locB sc x
theorem visB_ok {sc : Scope} {x : Str} (h : visB sc x = true) : Vis sc x := by
  unfold visB at h
  split at h
  · rename_i e; exact .inl e
  · rename_i e; exact .inr (.inl e)
  · rename_i e; exact .inr (.inr e)
  · cases h
theorem locB_ok {sc : Scope} {x : Str} (h : locB sc x = true) : Loc sc x := by
  unfold locB at h
  split at h
  · rename_i e; exact .inl e
  · rename_i e; exact .inr e
  · cases h
theorem glB_ok {sc : Scope} {x : Str} (h : glB sc x = true) : sc.names.lookup x = some .globalImplicit := by
  unfold glB at h
  split at h
  · rename_i e; exact e
  · cases h
theorem and_ok {a b : Bool} (h : (a && b) = true) : a = true ∧ b = true := by
  rw [Bool.and_eq_true] at h
  exact h
theorem nameOk_ok {x : Str} (h : nameOk x = true) : (x == ("__debug__" : Str)) = false ∧ (x == ("__classdict__" : Str)) = false ∧ x ≠ "__name__" := by
  obtain ⟨h1, h2⟩ := and_ok h
  obtain ⟨h2, h3⟩ := and_ok h2
  exact ⟨by simpa using h1, by simpa using h2, by simpa using h3⟩
theorem starEach_cons {e : Expr} (es : List Expr) (env : PySem.Env) (h : notStar e = true) : starEach (e :: es) env = (false, eval e env) :: starEach es env := by
  cases e <;> first | rfl | cases h
theorem backTo_none (pos : Pos) (env : PySem.Env) : ∀ {es : List Expr}, es.all notStar = true → (backTo pos (starEach es env)).any (·.1) = false
  | [], _ => rfl
  | e :: es, h => by
    rw [List.all_cons] at h
    obtain ⟨h1, h2⟩ := and_ok h
    rw [starEach_cons es env h1]
    exact backTo_none pos env h2
/-! ### simple expressions -/
section
variable {X : Cx} {sc : Scope} {W : WX} {G : Ops} {fns : List (Str × Nat × Nat)} {e : Expr} {t t' : TE}
theorem PE_imp (h : PE X e t) (i : ∀ σ H Q, t' σ H Q → t σ H Q) : PE X e t' := ⟨fun pins s σ H Q I hw => h.run pins s σ H Q I (i σ H Q hw)⟩
theorem PT_imp {u u' : TT} (h : PT X e u) (i : ∀ σ H Q, u' σ H Q → u σ H Q) : PT X e u' := ⟨fun pins s σ H Q I hw => h.run pins s σ H Q I (i σ H Q hw)⟩
theorem PW_imp {u u' : TT} (h : PW X e u) (i : ∀ σ H Q, u' σ H Q → u σ H Q) : PW X e u' := ⟨fun wh pins s σ H Q I hw => h.run wh pins s σ H Q I (i σ H Q hw)⟩
theorem PA_imp {es : List Expr} {u u' : TA} (h : PA X es u) (i : ∀ σ H Q, u' σ H Q → u σ H Q) : PA X es u' := ⟨fun pos pins s σ H Q I hw => h.run pos pins s σ H Q I (i σ H Q hw)⟩
/-- the plain truth of a value that is a bool -/
def plainT (e : Expr) (env : PySem.Env) : Prop := ∀ whole, isTrue e env whole = (do let v ← whole; standAt e.pos; holding [v] (truthy v))
/-- where a test is wanted of a plain value -/
theorem pt_of {f g : Env → Store → R PV} (h : PE X e (tX X.K X.mg W f)) (hp : plainT e X.env) (hg : ∀ ρ st, g ρ st = (f ρ st).bind fun v st => fin true v st) : PT X e (tT X.K X.mg W g) := by
  refine PT_imp (pt_val h hp) fun σ H Q ⟨F, m, st, ρ, s, r, q⟩ => ⟨F, m, st, ρ, s, r, ?_⟩
  dsimp only at q
  rw [hg] at q
  refine Post.bind q fun x st1 _ F1 m1 H1 v s1 r1 b1 q1 => ?_
  cases x with
  | bl b =>
    cases b1
    exact ⟨b, rfl, q1 _ _ _ _ .refl r1 rfl⟩
  | _ => exact q1.elim
theorem pt_bad {g : Env → Store → R PV} (hg : ∀ ρ st, g ρ st = .bad) : PT X e (tT X.K X.mg W g) := ⟨fun pins s σ H Q I ⟨F, m, st, ρ, _, _, q⟩ => by dsimp only at q; rw [hg] at q; exact q.elim⟩
theorem pe_of_w (h : PE X e (tX X.K X.mg W (fun ρ st => .bad))) : True := trivial
/-- a name -/
theorem pe_name (g : Good X sc W G fns) {i : Nat} {x : Str} {p : Pos} (h : varB X.N sc i x = true) : PE X (.Name x p) (tVar i) := by
  obtain ⟨h1, h2⟩ := and_ok h
  obtain ⟨h2, h3⟩ := and_ok h2
  obtain ⟨n1, n2, _⟩ := nameOk_ok h3
  exact pe_var (of_decide_eq_true h1) (g.vis _ (visB_ok h2)) n1 n2
theorem read_var {K : PySem.W.Frag} {F H : Hp} {m : List Addr} {st : Store} {σ : L2.St} {ρ : Env} {i : Nat} {Q : VK} {mg : Str → Option Value} {W : XK} {G : Ops} (s : SR K F m st H) (r : ER K F m H σ ρ)
    (q : Post K mg W F m H (AV K) (ev G (.var i) false ρ st) Q) : tVar i σ H Q := by
  have q : Post K mg W F m H (AV K) (match ρ[i]? with
      | some (some (.val v)) => fin false v st
      | _ => .bad) Q := q
  cases e : ρ[i]? with
  | none => rw [e] at q; exact q.elim
  | some o =>
    cases o with
    | none => rw [e] at q; exact q.elim
    | some sl =>
      cases sl with
      | val d =>
        rw [e] at q
        obtain ⟨v, h1, h2⟩ := r.val i d e
        exact ⟨v, h1, q F m H v .refl s h2⟩
      | own d => rw [e] at q; exact q.elim
theorem look_var {K : PySem.W.Frag} {F H : Hp} {m : List Addr} {st : Store} {σ : L2.St} {ρ : Env} {i : Nat} {Q : VK} {mg : Str → Option Value} {W : XK} (s : SR K F m st H) (r : ER K F m H σ ρ) {z : R PV} (q : Post K mg W F m H (AW K) (vw (.var i) ρ st z) Q) : tVar i σ H Q := by
  have q : Post K mg W F m H (AW K) (match ρ[i]? with
      | some (some (.val v)) => R.ok v st
      | some (some (.own v)) => R.ok v st
      | _ => .bad) Q := q
  cases e : ρ[i]? with
  | none => rw [e] at q; exact q.elim
  | some o =>
    cases o with
    | none => rw [e] at q; exact q.elim
    | some sl =>
      cases sl with
      | val d =>
        rw [e] at q
        obtain ⟨v, h1, h2⟩ := r.val i d e
        exact ⟨v, h1, q F m H v .refl s (.inl h2)⟩
      | own d =>
        rw [e] at q
        obtain ⟨a, h1, h2, h3, h4⟩ := r.own i d e
        exact ⟨.ref a, h1, q F m H _ .refl s (.inr ⟨a, rfl, h2, h3, h4⟩)⟩
/-- looking at a value: the name of an own thing is let through -/
theorem pe_look {c : CE} (hv : ∀ i, c = .var i → ∃ x p, e = .Name x p ∧ PE X e (tVar i)) (h : PE X e (tX X.K X.mg W fun ρ st => ev G c false ρ st)) : PE X e (tW X.K X.mg W fun ρ st => vw c ρ st (ev G c false ρ st)) := by
  cases c with
  | var i =>
    obtain ⟨x, p, rfl, hp⟩ := hv i rfl
    exact PE_imp hp fun σ H Q ⟨F, m, st, ρ, s, r, q⟩ => look_var s r q
  | _ =>
    refine PE_imp h fun σ H Q ⟨F, m, st, ρ, s, r, q⟩ => ⟨F, m, st, ρ, s, r, ?_⟩
    revert q
    unfold vw
    simp only
    generalize ev G _ false ρ st = z
    intro q
    cases z with
    | ok x st1 => exact fun F1 m1 H1 v s1 r1 b1 => q F1 m1 H1 v s1 r1 (.inl b1)
    | exc c fs st => exact q
    | bad => exact q
/-- two in a row, then an operation -/
theorem read_two {K : PySem.W.Frag} {mg : Str → Option Value} {f g : Env → Store → R PV} {α : Type} {op : PV → PV → Option α} {A : Hp → List Addr → V → α → Prop} {back : α → PV} {σ : L2.St} {H : Hp} {Q : VK} (hA : ∀ F m v z, A F m v z → Rv K F m v (back z))
    (h : At K σ H fun F m st ρ => Post K mg (fun c d H' => W c d σ H') F m H (AV K) ((f ρ st).bind fun x st => (g ρ st).bind fun y st => R.of ((op x y).map back) st) Q) :
    tOp (rO K op A) (tW K mg W f) (tW K mg W g) σ H Q := by
  obtain ⟨F, m, st, ρ, s, r, q⟩ := h
  refine ⟨F, m, st, ρ, s, r, Post.bind q fun x st1 _ F1 m1 H1 v s1 r1 b1 q1 => ?_⟩
  refine ⟨F1, m1, st1, ρ, r1, r.step s1, Post.bind q1 fun y st2 _ F2 m2 H2 u s2 r2 b2 q2 => ?_⟩
  cases e : op x y with
  | none => rw [e] at q2; exact q2.elim
  | some z =>
    rw [e] at q2
    exact ⟨F2, m2, st2, x, y, z, r2, s2.rvw b1, b2, e, fun F' v' H' s' r' a' => q2 F' m2 H' v' s' r' (hA _ _ _ _ a')⟩
end
end PC
set_option linter.all false
set_option maxRecDepth 100000
set_option maxHeartbeats 1000000
set_option autoImplicit false
/-! PC, part h: what a loop walks. -/
namespace PC
open PySem PySem.Spec PyProof.Rows L2
/-- J gives the things ds, one a turn, while Gd stands -/
structure Wk (K : PySem.W.Frag) (J : It) (Gd : Hp → List Addr → Hp → Prop) (ds : List PV) : Prop where
  cl : ∀ {F m H F' m' H'}, Gd F m H → Stq F m H F' m' H' → Gd F' m' H'
  goes : ∀ i F m H, i < ds.length → Sub F H → Gd F m H → J.go i H
  stops : ∀ F m H, Sub F H → Gd F m H → J.stop ds.length H
  yields : ∀ i F m st H x H' d, SR K F m st H → Gd F m H → J.yld i H x H' → ds[i]? = some d → ∃ F', Stp F m H F' m H' ∧ SR K F' m st H' ∧ Rv K F' m x d
section
variable {K : PySem.W.Frag} {F F' H H' : Hp} {m m' : List Addr} {v : V}
/-- a list (frozen, or one's own), a tuple -/
def GdW (K : PySem.W.Frag) (v : V) (d : PV) : Hp → List Addr → Hp → Prop := fun F m _ => Rv K F m v d
theorem GdW.w {K : PySem.W.Frag} {F H : Hp} {m : List Addr} {v : V} {d : PV} (h : GdW K v d F m H) : RvW K F m H v d := .inl h
theorem wk_list {a : Addr} {ds : List PV} : Wk K (Itl K a) (GdW K (.ref a) (.lst ds)) ds where
  cl := fun h s => Rv.mono s.le s.pre h
  goes := fun i F m H hi s h => by
    obtain ⟨b, xs, e, h1, r1, _⟩ := h.w.lst s
    cases e
    have hl := r1.length
    exact ⟨xs, xs[i]'(by omega), h1, by simp [show i < xs.length by omega]⟩
  stops := fun F m H s h => by
    obtain ⟨b, xs, e, h1, r1, _⟩ := h.w.lst s
    cases e
    exact ⟨xs, h1, Nat.le_of_eq r1.length⟩
  yields := fun i F m st H x H' d s h y e1 => by
    obtain ⟨b, xs, e, h1, r1, _⟩ := h.w.lst s.sub
    cases e
    obtain ⟨e2, y⟩ := y
    subst e2
    obtain ⟨w, q1, q2⟩ := r1.get e1
    have e3 := y xs h1
    rw [q1] at e3
    cases e3
    exact ⟨F, .refl, s, q2⟩
theorem wk_tup {a : Addr} {ds : List PV} : Wk K (Itt K a) (GdW K (.ref a) (.tup ds)) ds where
  cl := fun h s => Rv.mono s.le s.pre h
  goes := fun i F m H hi s h => by
    obtain ⟨b, xs, e, h1, r1, _⟩ := h.w.tup s
    cases e
    have hl := r1.length
    exact ⟨xs, xs[i]'(by omega), h1, by simp [show i < xs.length by omega]⟩
  stops := fun F m H s h => by
    obtain ⟨b, xs, e, h1, r1, _⟩ := h.w.tup s
    cases e
    exact ⟨xs, h1, Nat.le_of_eq r1.length⟩
  yields := fun i F m st H x H' d s h y e1 => by
    obtain ⟨b, xs, e, h1, r1, _⟩ := h.w.tup s.sub
    cases e
    obtain ⟨e2, y⟩ := y
    subst e2
    obtain ⟨w, q1, q2⟩ := r1.get e1
    have e3 := y xs h1
    rw [q1] at e3
    cases e3
    exact ⟨F, .refl, s, q2⟩
theorem wk_range {n : Nat} : Wk K (Itr 0 n) (fun _ _ _ => True) ((List.range n).map fun (i : Nat) => PV.int (i : Int)) where
  cl := fun h _ => h
  goes := fun i F m H hi _ _ => by
    show i < n
    simpa using hi
  stops := fun F m H _ _ => by
    show n ≤ _
    simp
  yields := fun i F m st H x H' d s _ y e1 => by
    obtain ⟨e2, y⟩ := y
    subst e2 y
    have e4 : d = .int (i : Int) := by
      rw [List.getElem?_map] at e1
      cases e3 : (List.range n)[i]? with
      | none => rw [e3] at e1; cases e1
      | some j =>
        rw [e3] at e1
        have := (List.getElem?_eq_some_iff.mp e3)
        obtain ⟨h1, h2⟩ := this
        rw [List.getElem_range] at h2
        subst h2
        exact (Option.some.inj e1).symm
    subst e4
    refine ⟨F, .refl, s, ?_⟩
    rw [show (0 : Int) + (i : Int) = (i : Int) by omega]
    exact .int _
/-- a new pair -/
theorem new_pair {st : Store} (s : SR K F m st H) {T : Addr} {x y : V} {d e : PV} (hT : H T = none) (hx : Rv K F m x d) (hy : Rv K F m y e) :
    ∃ F', Stp F m H F' m (upd H T (.tup [x, y])) ∧ SR K F' m st (upd H T (.tup [x, y])) ∧ Rv K F' m (.ref T) (.tup [d, e]) := by
  have l := le_upd (o := HO.tup [x, y]) (s.sub.no hT)
  exact ⟨_, .alloc s.sub hT, s.alloc hT, .tup (.of upd_same) (.cons (hx.mono l .refl) (.cons (hy.mono l .refl) .nil)) (by show 2 ≤ big; unfold big; decide)⟩
theorem wk_enum {a : Addr} {ds : List PV} : Wk K (Ite K a) (GdW K (.ref a) (.lst ds)) (List.zipWith (fun (i : Nat) b => PV.tup [.int i, b]) (List.range ds.length) ds) where
  cl := fun h s => Rv.mono s.le s.pre h
  goes := fun i F m H hi s h => by
    obtain ⟨b, xs, e, h1, r1, _⟩ := h.w.lst s
    cases e
    have hl := r1.length
    have hi : i < ds.length := by simpa using hi
    exact ⟨xs, xs[i]'(by omega), h1, by simp [show i < xs.length by omega]⟩
  stops := fun F m H s h => by
    obtain ⟨b, xs, e, h1, r1, _⟩ := h.w.lst s
    cases e
    refine ⟨xs, h1, ?_⟩
    have hl := r1.length
    simp only [List.length_zipWith, List.length_range]
    omega
  yields := fun i F m st H x H' d s h y e1 => by
    obtain ⟨b, xs, e, h1, r1, _⟩ := h.w.lst s.sub
    cases e
    obtain ⟨T, z, rfl, hT, rfl, hz⟩ := y
    have e3 := hz xs h1
    have hi : i < ds.length := by
      have := (List.getElem?_eq_some_iff.mp e3).1
      rw [r1.length] at this
      exact this
    obtain ⟨w, q1, q2⟩ := r1.get (List.getElem?_eq_getElem hi)
    rw [e3] at q1
    cases q1
    have e4 : d = .tup [.int (i : Int), ds[i]] := by
      rw [List.getElem?_zipWith, List.getElem?_eq_getElem hi, List.getElem?_eq_getElem (by simpa using hi), List.getElem_range] at e1
      exact (Option.some.inj e1).symm
    subst e4
    exact new_pair s hT (.int _) q2
/-- a dict's keys, the dict locked -/
def GdK (a : Addr) (od : Obj) (kvs : List (L2.Key × V)) : Hp → List Addr → Hp → Prop := fun F m H => F a ≠ none ∧ H a = some (.frz od (.dK kvs))
theorem wk_keys {a : Addr} {od : Obj} {kvs : List (L2.Key × V)} {ds : List (Key × PV)} (hk : kvs.map (·.1) = ds.map (·.1)) : Wk K (Itk a od kvs) (GdK a od kvs) (ds.map fun kv => kP kv.1) where
  cl := fun {F m H F' m' H'} h s => by
    refine ⟨fun z => ?_, s.keep a _ h.1 h.2 (fun _ z => by cases z)⟩
    cases e : F a with
    | none => exact h.1 e
    | some u =>
      rw [s.le _ _ e] at z
      cases z
  goes := fun i F m H hi s h => ⟨h.2, by
    have := congrArg List.length hk
    simp only [List.length_map] at this hi
    omega⟩
  stops := fun F m H s h => ⟨h.2, by
    have := congrArg List.length hk
    simp only [List.length_map] at this ⊢
    omega⟩
  yields := fun i F m st H x H' d s h y e1 => by
    obtain ⟨rfl, k, w, e2, rfl⟩ := y
    have e3 : (ds.map (·.1))[i]? = some k := by
      rw [← hk, List.getElem?_map, e2]
      rfl
    have e4 : d = kP k := by
      rw [List.getElem?_map] at e1 e3
      cases e5 : ds[i]? with
      | none => rw [e5] at e1; cases e1
      | some kv =>
        rw [e5] at e1 e3
        cases e3
        exact (Option.some.inj e1).symm
    subst e4
    refine ⟨F, .refl, s, ?_⟩
    cases k with
    | inl i => exact .int i
    | inr z => exact .str z
end
/-- what a source asks -/
def tI (K : PySem.W.Frag) (mg : Str → Option Value) (W : WX) (f : Env → Store → R (List PV)) : TI := fun σ H Q => At K σ H fun F m st ρ => Post (β := It × (Hp → List Addr → Hp → Prop)) K mg (fun c d H' => W c d σ H') F m H (fun F m H J ds => Wk K J.1 J.2 ds ∧ J.2 F m H ∧ ds.length ≤ big) (f ρ st) (fun J H => Q J.1 H)
/-- the slots of a target -/
def Tg.slots : Tg → List Nat
  | .one i => [i]
  | .many is => is
/-- what a target stores -/
def tG (K : PySem.W.Frag) (put : PV → Env → Option Env) (sl : List Nat) : TG := fun v σ H Q => ∃ F m st d ρ ρ', SR K F m st H ∧ ER K F m H σ ρ ∧ Rv K F m v d ∧ put d ρ = some ρ' ∧ ∀ σ', ER K F m H σ' ρ' → σ'.length = σ.length → (∀ j, j ∉ sl → σ'[j]? = σ[j]?) → Q σ' H
section
variable {X : Cx} {sc : Scope} {W : WX} {G : Ops} {fns : List (Str × Nat × Nat)}
theorem PI_imp {tg iter : Expr} {t t' : TI} (h : PI X tg iter t) (i : ∀ σ H Q, t' σ H Q → t σ H Q) : PI X tg iter t' := ⟨fun pins s σ H R I hw => h.run pins s σ H R I (i σ H R hw)⟩
theorem PG_imp {tg : Expr} {t t' : TG} (h : PG X tg t) (i : ∀ v σ H Q, t' v σ H Q → t v σ H Q) : PG X tg t' := ⟨fun pins s σ H v u Q I r hw => h.run pins s σ H v u Q I r (i v σ H Q hw)⟩
/-- names to be stored one after another -/
def tgsB (N : List Str) (sc : Scope) : List Nat → List Expr → Bool
  | [], [] => true
  | i :: is, .Name x _ :: es => tgtB N sc i x && tgsB N sc is es
  | _, _ => false
def tgB (N : List Str) (sc : Scope) : Tg → Expr → Bool
  | .one i, .Name x _ => tgtB N sc i x
  | .many is, .Tuple es _ _ => tgsB N sc is es
  | _, _ => false
theorem pg_nm (g : Good X sc W G fns) {i : Nat} {x : Str} {p : Pos} (h : tgtB X.N sc i x = true) : PG X (.Name x p) (gName i) := by
  obtain ⟨h1, h2⟩ := and_ok h
  obtain ⟨l1, l2⟩ := g.loc _ (locB_ok h2)
  exact pg_name g.nd (of_decide_eq_true h1) l1 l2
def gsets : List Nat → TGs
  | [] => gNil
  | i :: is => gCons (gName i) (gsets is)
theorem assignEach_names {N : List Str} {sc : Scope} (env : PySem.Env) : ∀ {is : List Nat} {es : List Expr}, tgsB N sc is es = true → (assignEach es env).map (·.2) = es.map (fun e => assign e env) ∧ (assignEach es env).length = is.length ∧ (assignEach es env).findIdx? (·.1) = none
  | [], [], _ => ⟨rfl, rfl, rfl⟩
  | i :: is, .Name x p :: es, h => by
    obtain ⟨_, h2⟩ := and_ok h
    obtain ⟨q1, q2, q3⟩ := assignEach_names env h2
    have e : assignEach (.Name x p :: es) env = (false, assign (.Name x p) env) :: assignEach es env := rfl
    rw [e]
    refine ⟨by rw [List.map_cons, List.map_cons, q1], by rw [List.length_cons, List.length_cons, q2], ?_⟩
    rw [List.findIdx?_cons, q3]
    rfl
  | [], _ :: _, h => by cases h
  | _ :: _, [], h => by cases h
  | i :: is, .Constant .. :: es, h => by cases h
  | i :: is, .Tuple .. :: es, h => by cases h
  | i :: is, .Attribute .. :: es, h => by cases h
  | i :: is, .Subscript .. :: es, h => by cases h
  | i :: is, .Starred .. :: es, h => by cases h
  | i :: is, .List .. :: es, h => by cases h
  | i :: is, .BoolOp .. :: es, h => by cases h
  | i :: is, .NamedExpr .. :: es, h => by cases h
  | i :: is, .BinOp .. :: es, h => by cases h
  | i :: is, .UnaryOp .. :: es, h => by cases h
  | i :: is, .Lambda .. :: es, h => by cases h
  | i :: is, .IfExp .. :: es, h => by cases h
  | i :: is, .Dict .. :: es, h => by cases h
  | i :: is, .Set .. :: es, h => by cases h
  | i :: is, .ListComp .. :: es, h => by cases h
  | i :: is, .SetComp .. :: es, h => by cases h
  | i :: is, .DictComp .. :: es, h => by cases h
  | i :: is, .GeneratorExp .. :: es, h => by cases h
  | i :: is, .Await .. :: es, h => by cases h
  | i :: is, .Yield .. :: es, h => by cases h
  | i :: is, .YieldFrom .. :: es, h => by cases h
  | i :: is, .Compare .. :: es, h => by cases h
  | i :: is, .Call .. :: es, h => by cases h
  | i :: is, .FormattedValue .. :: es, h => by cases h
  | i :: is, .JoinedStr .. :: es, h => by cases h
  | i :: is, .Slice .. :: es, h => by cases h
theorem tgs_name {N : List Str} {sc : Scope} {i : Nat} {is : List Nat} {e : Expr} {es : List Expr} (h : tgsB N sc (i :: is) (e :: es) = true) : ∃ x p, e = .Name x p ∧ tgtB N sc i x = true ∧ tgsB N sc is es = true := by
  cases e <;> first | exact ⟨_, _, rfl, and_ok h⟩ | cases h
theorem pgs_nms (g : Good X sc W G fns) : ∀ {is : List Nat} {es : List Expr}, tgsB X.N sc is es = true → PGs X es (gsets is)
  | [], [], _ => pgs_nil
  | i :: is, e :: es, h => by
    obtain ⟨x, p, rfl, h1, h2⟩ := tgs_name h
    exact pgs_cons (pg_nm g h1) (pgs_nms g h2) (by rfl)
  | [], _ :: _, h => by cases h
  | _ :: _, [], h => by cases h
theorem gsets_read {K : PySem.W.Frag} {F H : Hp} {m : List Addr} {σ0 : L2.St} {sl : List Nat} {Q : L2.St → Hp → Prop} : ∀ {is : List Nat} {ds : List PV} {vs : List V} {σ : L2.St} {ρ : Env}, is.length = ds.length → RvL K F m vs ds → ER K F m H σ ρ → (∀ i ∈ is, i ∈ sl) → σ.length = σ0.length → (∀ j, j ∉ sl → σ[j]? = σ0[j]?) →
    (∀ σ', ER K F m H σ' ((is.zip ds).foldl (fun ρ p => ρ.set p.1 (some (.val p.2))) ρ) → σ'.length = σ0.length → (∀ j, j ∉ sl → σ'[j]? = σ0[j]?) → Q σ' H) → gsets is vs σ H Q
  | [], [], _, σ, ρ, _, .nil, r, _, e1, e2, q => ⟨rfl, q σ r e1 e2⟩
  | i :: is, d :: ds, _, σ, ρ, hl, .cons (v := v) (vs := vs) h hs, r, hi, e1, e2, q => ⟨v, vs, rfl, gsets_read (is := is) (ds := ds) (by simpa using hl) hs (r.set h) (fun j hj => hi j (List.mem_cons_of_mem _ hj)) (by simpa using e1)
      (fun j hj => (List.getElem?_set_ne (fun (z : i = j) => hj (by rw [← z]; exact hi i List.mem_cons_self))).trans (e2 j hj)) q⟩
  | [], _ :: _, _, _, _, hl, _, _, _, _, _, _ => by cases hl
  | _ :: _, [], _, _, _, hl, _, _, _, _, _, _ => by cases hl
theorem pg_tg (g : Good X sc W G fns) {t : Tg} {e : Expr} (h : tgB X.N sc t e = true) : PG X e (tG X.K t.put t.slots) := by
  cases t with
  | one i =>
    cases e with
    | Name x p =>
      refine PG_imp (pg_nm g h) fun v σ H Q ⟨F, m, st, d, ρ, ρ', s, r, hv, hp, k⟩ => ?_
      cases hp
      exact k _ (r.set hv) (by simp) fun j hj => List.getElem?_set_ne (fun z => hj (by rw [z]; exact List.mem_singleton.mpr rfl))
    | _ => cases h
  | many is =>
    cases e with
    | Tuple es kk p =>
      have h : tgsB X.N sc is es = true := h
      obtain ⟨q1, q2, q3⟩ := assignEach_names X.env h
      refine PG_imp (pg_tup g.calm (pgs_nms g h) q2 q3) fun v σ H Q ⟨F, m, st, d, ρ, ρ', s, r, hv, hp, k⟩ => ?_
      cases hv with
      | @tup a xs ds hs hr hl =>
        have hp : (if is.length = ds.length then some ((is.zip ds).foldl (fun ρ p => ρ.set p.1 (some (.val p.2))) ρ) else none) = some ρ' := hp
        split at hp
        · rename_i hlen
          cases hp
          exact ⟨a, xs, rfl, s.sub.sqt hs, by rw [hr.length, hlen], gsets_read hlen hr r (fun _ h => h) rfl (fun _ _ => rfl) k⟩
        · cases hp
      | _ => cases hp
    | _ => cases h
end
end PC
set_option linter.all false
set_option maxRecDepth 100000
set_option maxHeartbeats 1000000
set_option autoImplicit false
/-! PC, part i: comprehensions and displays. -/
namespace PC
open PySem PySem.Spec PyProof.Rows L2
section
variable {α β γ δ : Type} {K : PySem.W.Frag} {mg : Str → Option Value} {W : XK} {F F' H H' F0 H0 : Hp} {m m' m0 : List Addr} {A : Hp → List Addr → Hp → β → α → Prop} {B : Hp → List Addr → Hp → δ → γ → Prop} {r : R α} {Q : β → Hp → Prop} {Q1 : δ → Hp → Prop}
/-- the wish stays at the state where it was made -/
theorem Post.bindB {f : γ → Store → R α} {q : R γ} (s0 : Stp F0 m0 H0 F m H) (h : Post K mg W F0 m0 H0 A (q.bind f) Q)
    (k : ∀ x st1 F1 m1 H1 v, Stp F m H F1 m1 H1 → SR K F1 m1 st1 H1 → B F1 m1 H1 v x → Post K mg W F0 m0 H0 A (f x st1) Q → Q1 v H1) : Post K mg W F m H B q Q1 := by
  cases q with
  | ok x st1 => exact fun F1 m1 H1 v s1 r1 b1 => k x st1 F1 m1 H1 v s1 r1 b1 h
  | exc c fs st => exact fun F1 m1 H1 cv d s1 => h F1 m1 H1 cv d (s0.trans s1)
  | bad => exact h
/-- .. of what must not raise -/
theorem Post.bindQ {f : γ → Store → R α} {q : R γ} {W' : XK} (s0 : Stp F0 m0 H0 F m H) (h : Post K mg W F0 m0 H0 A (q.quiet.bind f) Q)
    (k : ∀ x st1 F1 m1 H1 v, Stp F m H F1 m1 H1 → SR K F1 m1 st1 H1 → B F1 m1 H1 v x → Post K mg W F0 m0 H0 A (f x st1) Q → Q1 v H1) : Post K mg W' F m H B q Q1 := by
  cases q with
  | ok x st1 => exact fun F1 m1 H1 v s1 r1 b1 => k x st1 F1 m1 H1 v s1 r1 b1 h
  | exc c fs st => exact h.elim
  | bad => exact h
theorem Stp.freeze {D : Addr} {o : HO} (s : Stp F0 m0 H0 F m H) (h0 : Nn H0 D) (hF : F D = none) : Stp F0 m0 H0 (upd F D o) m H where
  le := s.le.trans (le_upd hF)
  new := fun a u e => by
    by_cases q : a = D
    · exact .inr (by rw [q]; exact h0)
    · rw [upd_ne q] at e
      exact s.new a u e
  keep := s.keep
  there := s.there
  pre := s.pre
  preN := s.preN
theorem SR.freeze {D : Addr} {o : HO} {st : Store} (s : SR K F m st H) (hF : F D = none) (hD : H D = some o) (hm : D ∉ m) (t : ∀ ps, o ≠ .tbl ps := by intro _ z; cases z) : SR K (upd F D o) m st H where
  nt := nt_upd s.nt t
  tab := s.tab
  sub := fun a u e => by
    by_cases q : a = D
    · subst q
      rw [upd_same] at e
      exact .inl (by rw [hD]; exact e)
    · rw [upd_ne q] at e
      exact s.sub a u e
  nd := s.nd
  len := s.len
  cell := fun k a xs e1 e2 => by
    obtain ⟨q1, ⟨vs, q2, q3⟩, q4⟩ := s.cell k a xs e1 e2
    have ne : a ≠ D := fun z => hm (z ▸ List.mem_of_getElem? e1)
    exact ⟨by rw [upd_ne ne]; exact q1, ⟨vs, q2, q3.mono (le_upd hF) .refl⟩, q4⟩
/-- an own thing is changed -/
theorem Stp.write {D : Addr} {o : HO} (s : Stp F0 m0 H0 F m H) (h0 : Nn H0 D) (t : NoT o := by intro _ z; cases z) : Stp F0 m0 H0 F m (upd H D o) where
  le := s.le
  new := s.new
  keep := fun a u e n t => by
    have q : a ≠ D := Nn.ne e t h0
    rw [upd_ne q]
    exact s.keep a u e n t
  there := fun a u e t' => by
    have q : a ≠ D := Nn.ne e t' h0
    obtain ⟨o', z, t2⟩ := s.there a u e t'
    exact ⟨o', by rw [upd_ne q]; exact z, t2⟩
  pre := s.pre
  preN := s.preN
end
theorem wipe_get (σ : L2.St) (j : Nat) : ∀ vs : List Nat, (L2.wipe σ vs)[j]? = if j ∈ vs then (if j < σ.length then some none else none) else σ[j]?
  | [] => by simp [L2.wipe]
  | v :: vs => by
    show ((L2.wipe σ vs).set v none)[j]? = _
    rw [List.getElem?_set, wipe_get σ j vs, wipe_length]
    by_cases e : v = j
    · subst e
      simp
    · rw [if_neg e]
      have e2 : (j ∈ v :: vs) ↔ j ∈ vs := by
        rw [List.mem_cons]
        exact ⟨fun h => h.resolve_left (fun z => e z.symm), .inr⟩
      simp only [e2]
theorem wipe_same {σ σ' : L2.St} {sl vs : List Nat} (hs : ∀ i ∈ sl, i ∈ vs) (hl : σ'.length = (L2.wipe σ vs).length) (h : ∀ j, j ∉ sl → σ'[j]? = (L2.wipe σ vs)[j]?) : L2.wipe σ' vs = L2.wipe σ vs := by
  refine List.ext_getElem? fun j => ?_
  rw [wipe_length] at hl
  rw [wipe_get, wipe_get, hl]
  by_cases e : j ∈ vs
  · rw [if_pos e, if_pos e]
  · rw [if_neg e, if_neg e, h j (fun z => e (hs j z)), wipe_get, if_neg e]
theorem fin_none (T : Store → R (List PV)) (acc : List PV) (st : Store) : ((R.ok none st : R (Option PV)).quiet.bind fun x st => ((T st).bind fun ys st => R.ok (addO x ys) st).bind fun ys st => R.ok (PV.lst (acc ++ ys)) st) = (T st).bind fun ys st => R.ok (PV.lst (acc ++ ys)) st := by
  show ((T st).bind fun ys st => R.ok ys st).bind _ = _
  cases T st <;> rfl
theorem fin_some (T : Store → R (List PV)) (acc : List PV) (y : PV) (st : Store) : ((R.ok (some y) st : R (Option PV)).quiet.bind fun x st => ((T st).bind fun ys st => R.ok (addO x ys) st).bind fun ys st => R.ok (PV.lst (acc ++ ys)) st) = (T st).bind fun ys st => R.ok (PV.lst ((acc ++ [y]) ++ ys)) st := by
  show ((T st).bind fun ys st => R.ok (y :: ys) st).bind _ = _
  cases T st with
  | ok ys st => 
    show R.ok _ _ = R.ok _ _
    rw [List.append_assoc]
    rfl
  | exc => rfl
  | bad => rfl
/-- a clause's test -/
def tCo (K : PySem.W.Frag) (mg : Str → Option Value) (W : WX) (f : Env → Store → R Bool) : TT := fun σ H Q => At K σ H fun F m st ρ => Post K mg (fun c d H' => W c d σ H') F m H (fun _ _ _ b c => b = c) (f ρ st) Q
abbrev W0 : WX := fun _ _ _ _ => False
section
variable {K : PySem.W.Frag} {mg : Str → Option Value} {W : WX} {σ : L2.St} {H : Hp} {Q : VK}
theorem lc_read {own : List Nat} {t : Tg} {src : Env → Store → R (List PV)} {c : Env → Store → R Bool} {elt : Env → Store → R PV} {wi : TI} (hs : ∀ i ∈ t.slots, i ∈ own) (hw : ∀ R, tI K mg W src σ H R → wi σ H R)
    (h : At K σ H fun F m st ρ => Post K mg (fun c d H' => W c d σ H') F m H (AV K) ((src ρ st).bind fun xs st =>
      (turns (fun x st => match t.put x (wipeE ρ own) with
        | none => .bad
        | some ρ' => (c ρ' st).bind fun b st => if b then (elt ρ' st).bind fun y st => .ok (some y) st else .ok none st) xs st).bind fun ys st => .ok (.lst ys) st) Q) :
    tLc wi (tG K t.put t.slots) (tCo K mg W0 c) (tX K mg W0 elt) own σ H Q := by
  obtain ⟨F, m, st, ρ, s, r, q⟩ := h
  refine hw _ ⟨F, m, st, ρ, s, r, Post.bind q fun ds st1 _ F1 m1 H1 J s1 r1 ⟨wk, g0, hbig⟩ q1 => ?_⟩
  intro D hD
  have D1 : F1 D = none := r1.sub.no hD
  have Dm : D ∉ m1 := r1.notin hD
  refine ⟨fun i n H2 => n = ds.length - i ∧ i ≤ ds.length ∧ ∃ F2 m2 st2 acc vs, SR K F2 m2 st2 H2 ∧ ER K F2 m2 H2 (L2.wipe σ own) (wipeE ρ own) ∧ J.2 F2 m2 H2 ∧ Stp F1 m1 H1 F2 m2 H2 ∧ F2 D = none ∧ D ∉ m2 ∧ H2 D = some (.lst vs) ∧ RvL K F2 m2 vs acc ∧ acc.length ≤ i ∧
    Post K mg (fun c d H' => W c d σ H') F1 m1 H1 (AV K) ((turns (fun x st => match t.put x (wipeE ρ own) with
        | none => .bad
        | some ρ' => (c ρ' st).bind fun b st => if b then (elt ρ' st).bind fun y st => .ok (some y) st else .ok none st) (ds.drop i) st2).bind fun ys st => .ok (.lst (acc ++ ys)) st) Q, ⟨ds.length, by simp, Nat.zero_le _, ?_⟩, ?_⟩
  · have sl : Stp F1 m1 H1 F1 m1 (upd H1 D (.lst [])) := .lay hD
    refine ⟨F1, m1, st1, [], [], r1.lay hD, ((r.step s1).wipe own).step sl, wk.cl g0 (sl.weak r1), sl, D1, Dm, upd_same, .nil, Nat.le_refl _, ?_⟩
    rw [List.drop_zero]
    simpa using q1
  · rintro i n H2 ⟨rfl, hi, F2, m2, st2, acc, vs, r2, e2, g2, s2, hF, hm, hv, ha, hl, q2⟩
    by_cases hlt : i < ds.length
    · refine .inr ⟨wk.goes i F2 m2 H2 hlt r2.sub g2, fun H' => ∃ n', n' < ds.length - i ∧ n' = ds.length - (i + 1) ∧ i + 1 ≤ ds.length ∧ ∃ F2 m2 st2 acc vs, SR K F2 m2 st2 H' ∧ ER K F2 m2 H' (L2.wipe σ own) (wipeE ρ own) ∧ J.2 F2 m2 H' ∧ Stp F1 m1 H1 F2 m2 H' ∧ F2 D = none ∧ D ∉ m2 ∧ H' D = some (.lst vs) ∧ RvL K F2 m2 vs acc ∧ acc.length ≤ i + 1 ∧
        Post K mg (fun c d H' => W c d σ H') F1 m1 H1 (AV K) ((turns (fun x st => match t.put x (wipeE ρ own) with
        | none => .bad
        | some ρ' => (c ρ' st).bind fun b st => if b then (elt ρ' st).bind fun y st => .ok (some y) st else .ok none st) (ds.drop (i + 1)) st2).bind fun ys st => .ok (.lst (acc ++ ys)) st) Q, fun H' ⟨n', h1, h2⟩ => ⟨n', h1, h2⟩, fun x H' hy => ?_⟩
      have edrop : ds.drop i = ds[i] :: ds.drop (i + 1) := List.drop_eq_getElem_cons hlt
      rw [edrop] at q2
      obtain ⟨F3, s3, r3, hx⟩ := wk.yields i F2 m2 st2 H2 x H' ds[i] r2 g2 hy (List.getElem?_eq_getElem hlt)
      -- the turn's result
      unfold turns at q2
      cases ep : t.put ds[i] (wipeE ρ own) with
      | none =>
        rw [ep] at q2
        exact q2.elim
      | some ρ' =>
        rw [ep] at q2
        refine ⟨F3, m2, st2, ds[i], _, ρ', r3, e2.step s3, hx, ep, fun σ' e3 l3 o3 => ⟨wipe_same hs l3 o3, ?_⟩⟩
        refine ⟨F3, m2, st2, ρ', r3, e3, ?_⟩
        -- the test
        have sB : Stp F1 m1 H1 F3 m2 H' := s2.trans s3
        have assoc : ∀ {α β γ : Type} (a : R α) (f : α → Store → R β) (g : β → Store → R γ), (a.bind f).bind g = a.bind fun x st => (f x st).bind g := fun a f g => by cases a <;> rfl
        have quietB : ∀ {α β : Type} (a : R α) (f : α → Store → R β), (a.bind f).quiet = a.quiet.bind fun x st => (f x st).quiet := fun a f => by cases a <;> rfl
        simp only at q2
        rw [quietB, assoc, assoc] at q2
        refine Post.bindQ sB q2 fun b st3 F4 m4 H4 b' s4 r4 hb q3 => ?_
        subst hb
        have own3 : F3 D = none ∧ D ∉ m2 ∧ H' D = some (.lst vs) := s3.own1 ⟨hF, hm, hv⟩
        have own4 : F4 D = none ∧ D ∉ m4 ∧ H4 D = some (.lst vs) := s4.own1 own3
        cases b' with
        | false =>
          simp only [Bool.false_eq_true, if_false] at q3 ⊢
          refine ⟨_, by omega, rfl, hlt, F4, m4, st3, acc, vs, r4, (e2.step s3).step s4, wk.cl (wk.cl g2 (s3.weak r2)) (s4.weak r3), sB.trans s4, own4.1, own4.2.1, own4.2.2, (s4.rvl (s3.rvl ha)), Nat.le_succ_of_le hl, ?_⟩
          rw [fin_none] at q3
          exact q3
        | true =>
          simp only [if_true] at q3 ⊢
          refine ⟨F4, m4, st3, ρ', r4, e3.step s4, ?_⟩
          rw [quietB, assoc] at q3
          refine Post.bindQ (sB.trans s4) q3 fun y st4 F5 m5 H5 w s5 r5 hw q4 => ?_
          have own5 : F5 D = none ∧ D ∉ m5 ∧ H5 D = some (.lst vs) := s5.own1 own4
          have ha5 : RvL K F5 m5 vs acc := s5.rvl (s4.rvl (s3.rvl ha))
          have s15 : Stp F1 m1 H1 F5 m5 H5 := (sB.trans s4).trans s5
          refine ⟨vs, own5.2.2, ?_, _, by omega, rfl, hlt, F5, m5, st4, acc ++ [y], vs ++ [w], ?_, ?_, ?_, ?_, own5.1, own5.2.1, upd_same, ha5.append (.cons hw .nil), by rw [List.length_append]; exact Nat.succ_le_succ hl, ?_⟩
          · rw [ha.length]
            have := hbig
            rw [big_eq] at this
            omega
          · exact ⟨fun a u e => by
              have ne : a ≠ D := fun z => by rw [z, own5.1] at e; cases e
              rw [upd_ne ne]
              exact r5.sub a u e, r5.nt, tabs_upd r5.tab (.lst own5.2.2), r5.nd, r5.len, fun k a xs e1 e2 => by
              obtain ⟨z1, ⟨us, z2, z3⟩, z4⟩ := r5.cell k a xs e1 e2
              have ne : a ≠ D := fun z => own5.2.1 (z ▸ List.mem_of_getElem? e1)
              exact ⟨z1, ⟨us, by rw [upd_ne ne]; exact z2, z3⟩, z4⟩⟩
          · exact ((r.step s1).wipe own).step (s15.write (.none hD))
          · exact wk.cl g0 ((s15.write (.none hD)).weak r1)
          · exact s15.write (.none hD)
          · rw [fin_some] at q4
            exact q4
    · have e : i = ds.length := by omega
      subst e
      rw [List.drop_length] at q2
      have q2 : Post K mg (fun c d H' => W c d σ H') F1 m1 H1 (AV K) (.ok (.lst (acc ++ [])) st2) Q := q2
      rw [List.append_nil] at q2
      exact .inl ⟨wk.stops F2 m2 H2 r2.sub g2, q2 _ m2 H2 (.ref D) (s2.freeze (.none hD) hF) (r2.freeze hF hv hm) (.lst (.of upd_same) (ha.mono (le_upd hF) .refl) (Nat.le_trans hl hbig))⟩
end
end PC
set_option linter.all false
set_option maxRecDepth 100000
set_option maxHeartbeats 1000000
set_option autoImplicit false
/-! PC, part j: dict comprehensions, dict displays. -/
namespace PC
open PySem PySem.Spec PyProof.Rows L2
section
variable {K : PySem.W.Frag} {F F' H H' F0 H0 : Hp} {m m' m0 : List Addr}
theorem SR.write {D : Addr} {o : HO} {st : Store} (s : SR K F m st H) (hF : F D = none) (hm : D ∉ m) (pl : Pl H D) : SR K F m st (upd H D o) where
  nt := s.nt
  tab := tabs_upd s.tab pl
  sub := fun a u e => by
    have ne : a ≠ D := fun z => by rw [z, hF] at e; cases e
    rw [upd_ne ne]
    exact s.sub a u e
  nd := s.nd
  len := s.len
  cell := fun k a xs e1 e2 => by
    obtain ⟨z1, ⟨us, z2, z3⟩, z4⟩ := s.cell k a xs e1 e2
    have ne : a ≠ D := fun z => hm (z ▸ List.mem_of_getElem? e1)
    exact ⟨z1, ⟨us, by rw [upd_ne ne]; exact z2, z3⟩, z4⟩
end
theorem R.assoc {α β γ : Type} (a : R α) (f : α → Store → R β) (g : β → Store → R γ) : (a.bind f).bind g = a.bind fun x st => (f x st).bind g := by cases a <;> rfl
theorem R.quietB {α β : Type} (a : R α) (f : α → Store → R β) : (a.bind f).quiet = a.quiet.bind fun x st => (f x st).quiet := by cases a <;> rfl
/-- one turn of a dict comprehension -/
def dcTurn (t : Tg) (own : List Nat) (ρ : Env) (c : Env → Store → R Bool) (kx vx : Env → Store → R PV) (x : PV) (st : Store) : R (Option (Key × PV)) := match t.put x (wipeE ρ own) with
  | none => .bad
  | some ρ' => (c ρ' st).bind fun b st => if b then (kx ρ' st).bind fun y st => (vx ρ' st).bind fun z st => match toKey y with
      | some k => .ok (some (k, z)) st
      | none => .bad
    else .ok none st
section
variable {K : PySem.W.Frag} {mg : Str → Option Value} {W : WX} {σ : L2.St} {H : Hp} {Q : VK}
theorem dc_read {own : List Nat} {t : Tg} {src : Env → Store → R (List PV)} {c : Env → Store → R Bool} {kx vx : Env → Store → R PV} {wi : TI} (hs : ∀ i ∈ t.slots, i ∈ own) (hw : ∀ R, tI K mg W src σ H R → wi σ H R)
    (h : At K σ H fun F m st ρ => Post K mg (fun c d H' => W c d σ H') F m H (AV K) ((src ρ st).bind fun xs st => (turnsD (dcTurn t own ρ c kx vx) xs [] st).bind fun kvs st => .ok (.dct kvs) st) Q) :
    tDc wi (tG K t.put t.slots) (tCo K mg W0 c) (tX K mg W0 kx) (tX K mg W0 vx) own σ H Q := by
  obtain ⟨F, m, st, ρ, s, r, q⟩ := h
  refine hw _ ⟨F, m, st, ρ, s, r, Post.bind q fun ds st1 _ F1 m1 H1 J s1 r1 ⟨wk, g0, hbig⟩ q1 => ?_⟩
  intro D hD
  have D1 : F1 D = none := r1.sub.no hD
  have Dm : D ∉ m1 := r1.notin hD
  let Wi : Nat → Hp → Prop := fun i H2 => i ≤ ds.length ∧ ∃ F2 m2 st2 acc vs, SR K F2 m2 st2 H2 ∧ ER K F2 m2 H2 (L2.wipe σ own) (wipeE ρ own) ∧ J.2 F2 m2 H2 ∧ Stp F1 m1 H1 F2 m2 H2 ∧ (F2 D = none ∧ D ∉ m2 ∧ H2 D = some (.dK vs)) ∧ RvD K F2 m2 vs acc ∧ acc.length ≤ i ∧
    Post K mg (fun c d H' => W c d σ H') F1 m1 H1 (AV K) ((turnsD (dcTurn t own ρ c kx vx) (ds.drop i) acc st2).bind fun kvs st => .ok (.dct kvs) st) Q
  refine ⟨fun i n H2 => n = ds.length - i ∧ Wi i H2, ⟨ds.length, by simp, Nat.zero_le _, ?_⟩, ?_⟩
  · have sl : Stp F1 m1 H1 F1 m1 (upd H1 D (.dK [])) := .lay hD
    refine ⟨F1, m1, st1, [], [], r1.lay hD, ((r.step s1).wipe own).step sl, wk.cl g0 (sl.weak r1), sl, ⟨D1, Dm, upd_same⟩, .nil, Nat.le_refl _, ?_⟩
    rw [List.drop_zero]
    exact q1
  · rintro i n H2 ⟨rfl, hi, F2, m2, st2, acc, vs, r2, e2, g2, s2, own2, ha, hl, q2⟩
    by_cases hlt : i < ds.length
    · refine .inr ⟨wk.goes i F2 m2 H2 hlt r2.sub g2, fun H' => Wi (i + 1) H', fun H' h2 => ⟨ds.length - (i + 1), by omega, rfl, h2⟩, fun x H' hy => ?_⟩
      have edrop : ds.drop i = ds[i] :: ds.drop (i + 1) := List.drop_eq_getElem_cons hlt
      rw [edrop] at q2
      obtain ⟨F3, s3, r3, hx⟩ := wk.yields i F2 m2 st2 H2 x H' ds[i] r2 g2 hy (List.getElem?_eq_getElem hlt)
      unfold turnsD dcTurn at q2
      cases ep : t.put ds[i] (wipeE ρ own) with
      | none =>
        rw [ep] at q2
        exact q2.elim
      | some ρ' =>
        rw [ep] at q2
        refine ⟨F3, m2, st2, ds[i], _, ρ', r3, e2.step s3, hx, ep, fun σ' e3 l3 o3 => ⟨wipe_same hs l3 o3, ?_⟩⟩
        refine ⟨F3, m2, st2, ρ', r3, e3, ?_⟩
        have sB : Stp F1 m1 H1 F3 m2 H' := s2.trans s3
        simp only at q2
        rw [R.quietB, R.assoc, R.assoc] at q2
        refine Post.bindQ sB q2 fun b st3 F4 m4 H4 b' s4 r4 hb q3 => ?_
        subst hb
        have own4 := s4.own1 (s3.own1 own2)
        cases b' with
        | false =>
          simp only [Bool.false_eq_true, if_false] at q3 ⊢
          exact ⟨hlt, F4, m4, st3, acc, vs, r4, (e2.step s3).step s4, wk.cl (wk.cl g2 (s3.weak r2)) (s4.weak r3), sB.trans s4, own4, s4.rvd (s3.rvd ha), Nat.le_succ_of_le hl, q3⟩
        | true =>
          simp only [if_true] at q3 ⊢
          refine ⟨F4, m4, st3, ρ', r4, e3.step s4, ?_⟩
          rw [R.quietB, R.assoc] at q3
          refine Post.bindQ (sB.trans s4) q3 fun y st4 F5 m5 H5 w s5 r5 hw q4 => ?_
          have own5 := s5.own1 own4
          refine ⟨F5, m5, st4, ρ', r5, (e3.step s4).step s5, ?_⟩
          rw [R.quietB, R.assoc] at q4
          refine Post.bindQ ((sB.trans s4).trans s5) q4 fun z st5 F6 m6 H6 u s6 r6 hu q5 => ?_
          have own6 := s6.own1 own5
          cases ek : toKey y with
          | none =>
            rw [ek] at q5
            exact q5.elim
          | some k =>
            rw [ek] at q5
            have ey := toKey_eq ek
            subst ey
            have hk := hw.key
            have ha6 : RvD K F6 m6 vs acc := s6.rvd (s5.rvd (s4.rvd (s3.rvd ha)))
            have s16 : Stp F1 m1 H1 F6 m6 H6 := ((sB.trans s4).trans s5).trans s6
            refine ⟨vs, k, hk, own6.2.2, ?_, hlt, F6, m6, st5, dput acc k z, putK vs k u, r6.write own6.1 own6.2.1 (.dK own6.2.2), ((r.step s1).wipe own).step (s16.write (.none hD)), wk.cl g0 ((s16.write (.none hD)).weak r1), s16.write (.none hD), ⟨own6.1, own6.2.1, upd_same⟩, ha6.put k hu, Nat.le_trans (dput_len _ _ _) (Nat.succ_le_succ hl), q5⟩
            rw [ha.length]
            have := hbig
            rw [big_eq] at this
            omega
    · have e : i = ds.length := by omega
      subst e
      rw [List.drop_length] at q2
      have q2 : Post K mg (fun c d H' => W c d σ H') F1 m1 H1 (AV K) (.ok (.dct acc) st2) Q := q2
      exact .inl ⟨wk.stops F2 m2 H2 r2.sub g2, q2 _ m2 H2 (.ref D) (s2.freeze (.none hD) own2.1) (r2.freeze own2.1 own2.2.2 own2.2.1) (.dct upd_same (ha.mono (le_upd own2.1) .refl) (Nat.le_trans hl hbig))⟩
/-! ### a dict display -/
/-- the parts of a display, in a row -/
def flatPs : List (V × V) → List V
  | [] => []
  | (a, b) :: r => a :: b :: flatPs r
theorem kv_read {F : Hp} {m : List Addr} : ∀ {ps : List (V × V)} {ds : List PV} {kvs : List (Key × PV)}, RvL K F m (flatPs ps) ds → kvPairs ds = some kvs → ∃ ks : List (L2.Key × V), ps = ks.map (fun kv => (kV kv.1, kv.2)) ∧ RvD K F m ks kvs
  | [], [], _, _, h => by cases h; exact ⟨[], rfl, .nil⟩
  | (a, b) :: r, [], _, h, _ => by cases h
  | (a, b) :: r, [_], _, h, _ => by cases h with | cons _ h => cases h
  | (a, b) :: r, d :: e :: ds, _, .cons h1 (.cons h2 h3), h => by
    have h' : (match toKey d, kvPairs ds with
      | some k, some r => some ((k, e) :: r)
      | _, _ => none) = some _ := h
    cases ek : toKey d with
    | none => rw [ek] at h'; cases h'
    | some k =>
      cases er : kvPairs ds with
      | none => rw [ek, er] at h'; cases h'
      | some kvs =>
        rw [ek, er] at h'
        cases h'
        have ey := toKey_eq ek
        subst ey
        have hk := h1.key
        subst hk
        obtain ⟨ks, q1, q2⟩ := kv_read h3 er
        exact ⟨(k, b) :: ks, by rw [q1]; rfl, .cons h2 q2⟩
end
end PC
set_option linter.all false
set_option maxRecDepth 100000
set_option maxHeartbeats 2000000
set_option autoImplicit false
/-! PC, part k: the checker, and what it shows: an expression does what the evaluator says. -/
namespace PC
open PySem PySem.Spec PyProof.Rows L2
def conB : PV → Const → Bool
  | .int i, .int j => decide (i = j)
  | .str a, .str b => decide (a = b)
  | .bl a, .bool b => decide (a = b)
  | .non, .none => true
  | _, _ => false
def B1.name : B1 → Str
  | .len => "len"
  | .all => "all"
  | .any => "any"
  | .sorted => "sorted"
  | .tuple => "tuple"
  | .list => "list"
  | .int => "int"
  | .dict => "dict"
  | .setSorted => "sorted"
  | .bool => "bool"
  | .set => "set"
def isSlice : Expr → Bool
  | .Slice .. => true
  | _ => false
def isSet : Expr → Bool
  | .Set .. => true
  | _ => false
def isLc : Expr → Bool
  | .ListComp .. => true
  | .SetComp .. => true
  | .DictComp .. => true
  | _ => false
def tysB (ts : List String) (sc : Scope) : Expr → Bool
  | .Name x _ => (match ts with
    | [t] => glB sc x && (decide (x = Str.ofString t) && knownTy.contains t)
    | _ => false)
  | .Tuple es _ _ => decide (1 < ts.length ∧ ts.length ≤ 4) && (ts.all knownTy.contains && decide (es.map (fun e => match e with
      | .Name x _ => if glB sc x = true then some x else none
      | _ => none) = ts.map fun t => some (Str.ofString t)))
  | _ => false
def isSuper : Expr → Bool
  | .Call .. => true
  | _ => false
/-- y(e, e') -/
def zipArgs : Expr → Option (Str × Expr × Expr)
  | .Call (.Name y _) [e, e'] [] _ => some (y, e, e')
  | _ => none
theorem zipArgs_ok {z : Expr} {y : Str} {e e' : Expr} (h : zipArgs z = some (y, e, e')) : ∃ p pos, z = .Call (.Name y p) [e, e'] [] pos := by
  unfold zipArgs at h
  split at h
  · cases h
    exact ⟨_, _, rfl⟩
  · cases h
def B1.isSS : B1 → Bool
  | .setSorted => true
  | _ => false
theorem B1.isSS_ok {f : B1} (h : f.isSS = true) : f = .setSorted := by
  cases f <;> first | rfl | cases h
/-- y(e) -/
def oneArg : Expr → Option (Str × Expr)
  | .Call (.Name y _) [e] [] _ => some (y, e)
  | _ => none
theorem oneArg_ok {z : Expr} {y : Str} {e : Expr} (h : oneArg z = some (y, e)) : ∃ p pos, z = .Call (.Name y p) [e] [] pos := by
  unfold oneArg at h
  split at h
  · cases h
    exact ⟨_, _, rfl⟩
  · cases h
mutual
def okE (N : List Str) (fns : List (Str × Nat × Nat)) : CE → Scope → Expr → Bool
  | .var i, sc, .Name x _ => varB N sc i x
  | .con v, _, .Constant c _ _ => conB v c
  | .tup es, sc, .Tuple xs _ _ => okA N fns es sc xs
  | .lst es, sc, .List xs _ => okA N fns es sc xs
  | .dsp es, sc, .Dict ks vs _ => decide (ks.length ≤ 15) && okD N fns es sc ks vs
  | .bin op a b, sc, .BinOp x o y _ => decide (op = o) && (okE N fns a sc x && okE N fns b sc y)
  | .cmp op a b, sc, .Compare x [o] [y] _ => decide (op = o) && (!isSet y && (okE N fns a sc x && okE N fns b sc y))
  | .neg a, sc, .UnaryOp .USub x _ => okE N fns a sc x
  | .not a, sc, .UnaryOp .Not x _ => okE N fns a sc x
  | .and a b, sc, .BoolOp .And (x :: y :: r) p => okE N fns a sc x && (match r with
    | [] => okE N fns b sc y
    | z :: r => okE N fns b sc (.BoolOp .And (y :: z :: r) p))
  | .or a b, sc, .BoolOp .Or (x :: y :: r) p => okE N fns a sc x && (match r with
    | [] => okE N fns b sc y
    | z :: r => okE N fns b sc (.BoolOp .Or (y :: z :: r) p))
  | .ifx c a b, sc, .IfExp x y z _ => okE N fns c sc x && (okE N fns a sc y && okE N fns b sc z)
  | .sub a i, sc, .Subscript x y _ => !isSlice y && (okE N fns a sc x && okE N fns i sc y)
  | .slc a lo hi, sc, .Subscript x (.Slice l h none _) _ => okE N fns a sc x && (okO N fns lo sc l && okO N fns hi sc h)
  | .call f es, sc, .Call (.Name x _) (e :: xs) [] _ => (decide (x = f) && glB sc x) && ((nameOk x && (notStar e && xs.all notStar)) && ((fns.any fun g => decide (g.1 = f) && (decide (g.2.1 ≤ xs.length + 1) && decide (xs.length + 1 ≤ g.2.2))) && okA N fns es sc (e :: xs)))
  | .b1 f a, sc, .Call (.Name x _) [e] [] _ => ((decide (x = f.name) && (f.fn.isSome && glB sc x)) && (notStar e && okE N fns a sc e)) || (match oneArg e with
    | some (y, e') => ((decide (x = "sorted" ∧ y = "set") && glB sc x) && (glB sc y && f.isSS)) && (notStar e' && okE N fns a sc e')
    | none => false)
  | .b2 .max a b, sc, .Call (.Name x _) [e, e'] [] _ => (decide (x = "max") && glB sc x) && ((notStar e && notStar e') && (okE N fns a sc e && okE N fns b sc e'))
  | .b2 .zipDict a b, sc, .Call (.Name x _) [z] [] _ => match zipArgs z with
    | some (y, e, e') => ((decide (x = "dict" ∧ y = "zip") && glB sc x) && glB sc y) && ((notStar e && notStar e') && (okE N fns a sc e && okE N fns b sc e'))
    | none => false
  | .isi a ts, sc, .Call (.Name x _) [e, t] [] _ => (decide (x = "isinstance") && glB sc x) && ((notStar e && notStar t) && (okE N fns a sc e && tysB ts sc t))
  | .get2 o k d, sc, .Call (.Attribute x nm apos) [e, e'] [] cpos => (decide (nm = "get") && (!isSuper x && decide (apos.endLine = cpos.line))) && ((notStar e && notStar e') && (okE N fns o sc x && (okE N fns k sc e && okE N fns d sc e')))
  | .lc own tg src c elt, sc, .ListComp e [⟨te, it, ifs, z⟩] scope _ => decide (z = 0) && (blkC N sc scope (own.filterMap fun i => (N[i]?).map fun x => (x, i)) && ((own.all (fun i => decide (i < N.length)) && (tg.slots.all own.contains && tgB N scope tg te)) && ((!isSet it && okS N fns src sc te it) && (okC N (lamFns fns) c scope ifs && okE N (lamFns fns) elt scope e))))
  | .dc own tg src c k v, sc, .DictComp e e' [⟨te, it, ifs, z⟩] scope _ => decide (z = 0) && (blkC N sc scope (own.filterMap fun i => (N[i]?).map fun x => (x, i)) && ((own.all (fun i => decide (i < N.length)) && (tg.slots.all own.contains && tgB N scope tg te)) && ((!isSet it && okS N fns src sc te it) && (okC N (lamFns fns) c scope ifs && (okE N (lamFns fns) k scope e && okE N (lamFns fns) v scope e')))))
  | .part c fld body, sc, .Call (.Name x _) [.Lambda ps e scope _] [] _ => (decide (x = "_law_part" ∧ c = "BadTerm" ∧ fld = "part") && (glB sc x && fns.any fun z => decide (z = lamMark))) && ((noArgs ps && LamX.lamSB sc scope) && okE N (lamFns fns) body scope e)
  | _, _, _ => false
def okA (N : List Str) (fns : List (Str × Nat × Nat)) : CA → Scope → List Expr → Bool
  | .nil, _, [] => true
  | .cons a r, sc, e :: es => notStar e && (okE N fns a sc e && okA N fns r sc es)
  | .star a r, sc, .Starred e _ :: es => okE N fns a sc e && okA N fns r sc es
  | _, _, _ => false
def okD (N : List Str) (fns : List (Str × Nat × Nat)) : CA → Scope → List (Option Expr) → List Expr → Bool
  | .nil, _, [], [] => true
  | .cons a (.cons b r), sc, some k :: ks, v :: vs => okE N fns a sc k && (okE N fns b sc v && okD N fns r sc ks vs)
  | _, _, _, _ => false
def okO (N : List Str) (fns : List (Str × Nat × Nat)) : CO → Scope → Option Expr → Bool
  | .no, _, none => true
  | .some a, sc, some e => okE N fns a sc e
  | _, _, _ => false
def okC (N : List Str) (fns : List (Str × Nat × Nat)) : CO → Scope → List Expr → Bool
  | .no, _, [] => true
  | .some a, sc, [e] => okE N fns a sc e
  | _, _, _ => false
def okS (N : List Str) (fns : List (Str × Nat × Nat)) : CS → Scope → Expr → Expr → Bool
  | .of a, sc, _, e => okE N fns a sc e
  | .keys i, sc, _, .Name x _ => varB N sc i x
  | .range a, sc, _, .Call (.Name x _) [e] [] _ => (decide (x = "range") && glB sc x) && (notStar e && okE N fns a sc e)
  | .zip a b, sc, .Tuple .., .Call (.Name x _) [e, e'] [] _ => (decide (x = "zip") && glB sc x) && ((notStar e && notStar e') && (okE N fns a sc e && okE N fns b sc e'))
  | .enum a, sc, .Tuple .., .Call (.Name x _) [e] [] _ => (decide (x = "enumerate") && glB sc x) && (notStar e && okE N fns a sc e)
  | _, _, _, _ => false
end
end PC
set_option linter.all false
set_option maxRecDepth 100000
set_option maxHeartbeats 2000000
set_option autoImplicit false
/-! PC, part l: soundness of expressions. -/
namespace PC
open PySem PySem.Spec PyProof.Rows L2
theorem boot_b1 : ∀ f : B1, ∀ u, f.fn = some u → bootBuiltins f.name = some u ∧ f.name ∈ bnames ∧ f.name ≠ "__name__" ∧ (f.name == ("__debug__" : Str)) = false := by
  intro f u h
  cases f <;> first | (cases h; exact ⟨by decide +kernel, by decide +kernel, by decide +kernel, by decide +kernel⟩) | cases h
section
variable {X : Cx} {sc : Scope} {W : WX} {G : Ops} {fns : List (Str × Nat × Nat)} {e : Expr}
abbrev isBO (e : Expr) : Prop := ∃ op vs p, e = .BoolOp op vs p
/-- what is shown of each expression -/
structure Snd (X : Cx) (W : WX) (G : Ops) (c : CE) (e : Expr) : Prop where
  pe : PE X e (tX X.K X.mg W (ev G c false))
  pt : PT X e (tT X.K X.mg W (ev G c true))
  pw : isBO e → PW X e (tT X.K X.mg W (ev G c true))
theorem Snd.val {c : CE} (h : PE X e (tX X.K X.mg W (ev G c false))) (hp : plainT e X.env) (hg : ∀ ρ st, ev G c true ρ st = (ev G c false ρ st).bind fun v st => fin true v st) (nb : ¬ isBO e) : Snd X W G c e := ⟨h, pt_of h hp hg, fun z => absurd z nb⟩
theorem Snd.no {c : CE} (h : PE X e (tX X.K X.mg W (ev G c false))) (hg : ∀ ρ st, ev G c true ρ st = .bad) (nb : ¬ isBO e) : Snd X W G c e := ⟨h, pt_bad hg, fun z => absurd z nb⟩
/-- a call of a def -/
theorem run_W {fa : Addr} {fd : FuncData} {ps : List Str} {k : Nat} {sp : Sp} {dvs : List V} {ds : List Value} {pins : List (Addr × Obj)} {σ : L2.St} {H : Hp} {s : Shared} {Q : VK} {us : List Value} {vs : List V} (F : FnOk X.prog X.w X.K X.mg X.base (L2.CX X.prog X.w) k fa fd ps sp) (hr : Room k X.A)
    (hb : Binds X.K fd ps ds) (hd : Vals dvs ds) (tk : Takes X W) (I : Inv X pins σ H s) (r : Vals vs us) (h : sp (vs ++ dvs) H Q (fun c d H' => W c d σ H')) : wpAny (model X.prog X.w) X.A (PySem.call (.ref fa) us) (EP X pins σ Q) X.xe s := by
  have r2 : Vals (vs ++ dvs) (us ++ ds) := r.append hd
  have hl : (us ++ ds).length = ps.length := by rw [← r2.length]; exact F.len _ _ _ _ h
  refine wpAny_call (codeAny_mono (F.run X.A X.stack s H ⟨us, []⟩ (us ++ ds) (vs ++ dvs) Q _ hr I.env0 (hb s us I.kIn hl) r2 h) fun r s' hq => ?_)
  cases r with
  | error e => exact tk _ _ (XE.of_call I (fun _ _ _ z => z) hq)
  | ok fl =>
    cases fl with
    | ret u => exact I.after hq
    | _ => exact hq.elim
theorem snd_call (g : Good X sc W G fns) {f x : Str} {es : CA} {e : Expr} {xs : List Expr} {p pos : Pos} (hx : x = f) (hg : glB sc x = true) (hn : nameOk x = true) (h1 : notStar e = true) (h2 : xs.all notStar = true)
    (hf : (fns.any fun g => decide (g.1 = f) && (decide (g.2.1 ≤ xs.length + 1) && decide (xs.length + 1 ≤ g.2.2))) = true) (ha : PA X (e :: xs) (tA X.K X.mg W (evA G es))) (hlen : ∀ ρ st ys st', evA G es ρ st = .ok ys st' → ys.length = xs.length + 1) : Snd X W G (.call f es) (.Call (.Name x p) (e :: xs) [] pos) := by
  subst hx
  obtain ⟨n1, n2, n3⟩ := nameOk_ok hn
  obtain ⟨⟨f', lo, hi⟩, hm, hq⟩ := List.any_eq_true.mp hf
  obtain ⟨q1, q2⟩ := and_ok hq
  obtain ⟨q2, q3⟩ := and_ok q2
  have q1 : f' = x := of_decide_eq_true q1
  subst q1
  obtain ⟨fa, fd, ps, k, m1, m2, hr, F, bd⟩ := (g.fns _ lo hi hm (Nat.lt_of_lt_of_le (Nat.succ_pos _) (of_decide_eq_true q3))).ex
  obtain ⟨ds, dvs, dps, b1, b2, b3, b4, b5⟩ := bd (xs.length + 1) (of_decide_eq_true q2) (of_decide_eq_true q3)
  have pe : PE X (.Call (.Name f' p) (e :: xs) [] pos) (tX X.K X.mg W (ev G (.call f' es) false)) := by
    refine ⟨fun pins s σ H Q I ⟨F0, m0, st, ρ, s0, r0, q⟩ => ?_⟩
    refine wpAny_Call_Name_kw (ld_glob I (g.gl _ (glB_ok hg)) m1 ?_ n1)
    refine PySem.W.callWith_K (h₀ := X.base) I.ok.mod.kin m2 (thn (ha.run pos pins s σ H (fun vs H1 => spI X.K X.mg G f' ps.length (vs ++ dvs) H1 Q (fun c d H' => W c d σ H')) I ⟨F0, m0, st, ρ, s0, r0, ?_⟩) fun us s1 ⟨vs, H1, I1, rv, q1⟩ => ⟨I1.kIn, ?_⟩) (starEach_cons xs X.env h1) (backTo_none pos X.env h2)
    · have q : Post X.K X.mg (fun c d H' => W c d σ H') F0 m0 H (AV X.K) ((evA G es ρ st).bind fun xs st => (G f' xs st).bind fun v st => fin false v st) Q := q
      refine Post.bind q fun ds' st1 e1 F1 m1' H1 vs s1 r1 hv q1 => ?_
      have hfin : ((G f' ds' st1).bind fun v st => fin false v st) = G f' ds' st1 := by cases G f' ds' st1 <;> rfl
      rw [hfin] at q1
      have hl : ds'.length = xs.length + 1 := hlen _ _ _ _ e1
      refine ⟨?_, F1, m1', st1, ds' ++ dps, r1, hv.append (b2 _ _), ?_⟩
      · rw [List.length_append, hv.length, (b2 F1 m1').length, hl]; exact b4
      · rw [← b5 ds' st1 hl]; exact q1
    · exact run_W F hr b3 b1 g.tk I1 rv q1
  refine Snd.val pe (fun _ => rfl) (fun ρ st => ?_) (by rintro ⟨_, _, _, z⟩; cases z)
  show (evA G es ρ st).bind _ = ((evA G es ρ st).bind _).bind _
  rw [R.assoc]
  refine congrArg _ (funext fun xs => funext fun st => ?_)
  rw [R.assoc]
  refine congrArg _ (funext fun v => funext fun st => ?_)
  rfl
/-! ### one lemma a form -/
theorem snd_var (g : Good X sc W G fns) {i : Nat} {x : Str} {p : Pos} (h : varB X.N sc i x = true) : Snd X W G (.var i) (.Name x p) := by
  refine Snd.val (PE_imp (pe_name g h) fun σ H Q ⟨F, m, st, ρ, s, r, q⟩ => ?_) (fun _ => rfl) (fun ρ st => ?_) (by rintro ⟨_, _, _, z⟩; cases z)
  · exact read_var s r q
  · show (match ρ[i]? with
      | some (some (.val v)) => fin true v st
      | _ => .bad) = (match ρ[i]? with
      | some (some (.val v)) => fin false v st
      | _ => .bad).bind _
    split <;> rfl
theorem snd_con {v : PV} {c : Const} {j : Nat} {p : Pos} (h : conB v c = true) : Snd X W G (.con v) (.Constant c j p) := by
  refine Snd.val ?_ (fun _ => rfl) (fun ρ st => rfl) (by rintro ⟨_, _, _, z⟩; cases z)
  cases v with
  | int i =>
    cases c with
    | int k =>
      cases (of_decide_eq_true h : i = k)
      exact PE_imp pe_int fun σ H Q ⟨F, m, st, ρ, s, r, q⟩ => q F m H _ .refl s (.int i)
    | _ => cases h
  | str i =>
    cases c with
    | str k =>
      cases (of_decide_eq_true h : i = k)
      exact PE_imp pe_str fun σ H Q ⟨F, m, st, ρ, s, r, q⟩ => q F m H _ .refl s (.str i)
    | _ => cases h
  | bl i =>
    cases c with
    | bool k =>
      cases (of_decide_eq_true h : i = k)
      exact PE_imp pe_bl fun σ H Q ⟨F, m, st, ρ, s, r, q⟩ => q F m H _ .refl s (.bl i)
    | _ => cases h
  | non =>
    cases c with
    | none => exact PE_imp pe_non fun σ H Q ⟨F, m, st, ρ, s, r, q⟩ => q F m H _ .refl s .non
    | _ => cases h
  | _ => cases h
theorem snd_tup {es : CA} {xs : List Expr} {k : Nat} {p : Pos} (ha : PA X xs (tA X.K X.mg W (evA G es))) : Snd X W G (.tup es) (.Tuple xs k p) := by
  refine Snd.no (PE_imp (pe_tup ha) fun σ H Q ⟨F, m, st, ρ, s, r, q⟩ => ⟨F, m, st, ρ, s, r, ?_⟩) (fun _ _ => rfl) (by rintro ⟨_, _, _, z⟩; cases z)
  have q : Post X.K X.mg (fun c d H' => W c d σ H') F m H (AV X.K) ((evA G es ρ st).bind fun xs st => if xs.length ≤ big then .ok (.tup xs) st else .bad) Q := q
  refine Post.bind q fun ds st1 _ F1 m1 H1 vs s1 r1 hv q1 => ?_
  split at q1
  · rename_i hl
    exact ⟨by rw [hv.length, ← big_eq]; exact hl, fun p hp => q1 _ _ _ _ (.alloc r1.sub hp) (r1.alloc hp) (.tup (.of upd_same) (hv.mono (le_upd (r1.sub.no hp)) .refl) hl)⟩
  · exact q1.elim
theorem snd_lst {es : CA} {xs : List Expr} {p : Pos} (ha : PA X xs (tA X.K X.mg W (evA G es))) : Snd X W G (.lst es) (.List xs p) := by
  refine Snd.no (PE_imp (pe_lst ha) fun σ H Q ⟨F, m, st, ρ, s, r, q⟩ => ⟨F, m, st, ρ, s, r, ?_⟩) (fun _ _ => rfl) (by rintro ⟨_, _, _, z⟩; cases z)
  have q : Post X.K X.mg (fun c d H' => W c d σ H') F m H (AV X.K) ((evA G es ρ st).bind fun xs st => if xs.length ≤ big then .ok (.lst xs) st else .bad) Q := q
  refine Post.bind q fun ds st1 _ F1 m1 H1 vs s1 r1 hv q1 => ?_
  split at q1
  · rename_i hl
    exact ⟨by rw [hv.length, ← big_eq]; exact hl, fun p hp => q1 _ _ _ _ (.alloc r1.sub hp) (r1.alloc hp) (.lst (.of upd_same) (hv.mono (le_upd (r1.sub.no hp)) .refl) hl)⟩
  · exact q1.elim
abbrev PEw (X : Cx) (W : WX) (G : Ops) (c : CE) (e : Expr) : Prop := PE X e (tW X.K X.mg W fun ρ st => vw c ρ st (ev G c false ρ st))
theorem snd_bin {op : Operator} {a b : CE} {x y : Expr} {p : Pos} (ha : PEw X W G a x) (hb : PEw X W G b y) : Snd X W G (.bin op a b) (.BinOp x op y p) := by
  refine Snd.no (PE_imp (pe_op (op_bin op) ha hb) fun σ H Q h => read_two (back := id) (fun _ _ _ _ h => h) ?_) (fun _ _ => rfl) (by rintro ⟨_, _, _, z⟩; cases z)
  obtain ⟨F, m, st, ρ, s, r, q⟩ := h
  refine ⟨F, m, st, ρ, s, r, ?_⟩
  have e : ∀ x y : PV, (binP op x y).map id = binP op x y := fun x y => by cases binP op x y <;> rfl
  simp only [e]
  exact q
theorem snd_cmp (g : Good X sc W G fns) {op : CmpOp} {a b : CE} {x y : Expr} {p : Pos} (hs : isSet y = false) (ha : PEw X W G a x) (hb : PEw X W G b y) : Snd X W G (.cmp op a b) (.Compare x [op] [y] p) := by
  have hm : behindInMarks op y = false := by cases y <;> first | rfl | cases hs
  have rd : ∀ {σ H Q} {t : Bool}, tX X.K X.mg W (ev G (.cmp op a b) t) σ H Q → tOp (rO X.K (cmpP op) isB) (tW X.K X.mg W fun ρ st => vw a ρ st (ev G a false ρ st)) (tW X.K X.mg W fun ρ st => vw b ρ st (ev G b false ρ st)) σ H Q := fun h =>
    read_two (back := .bl) (fun F m v z q => by cases (show v = V.bl z from q); exact .bl z) h
  refine ⟨PE_imp (pe_cmpR (op_cmp g.hu op) ha hb hm) fun σ H Q h => rd h, PT_imp (pt_cmpR (op_cmp g.hu op) ha hb hm) fun σ H Q ⟨F, m, st, ρ, s, r, q⟩ => rd (t := true) ⟨F, m, st, ρ, s, r, ?_⟩, by rintro ⟨_, _, _, z⟩; cases z⟩
  have e : ∃ z : R Bool, ev G (.cmp op a b) true ρ st = z.bind fun b st => .ok (.bl b) st := by
    refine ⟨(vw a ρ st (ev G a false ρ st)).bind fun x st => (vw b ρ st (ev G b false ρ st)).bind fun y st => R.of (cmpP op x y) st, ?_⟩
    rw [R.assoc]
    refine congrArg _ (funext fun x => funext fun st => ?_)
    rw [R.assoc]
    refine congrArg _ (funext fun y => funext fun st => ?_)
    cases cmpP op x y <;> rfl
  obtain ⟨z, e⟩ := e
  show Post X.K X.mg _ F m H (AV X.K) (ev G (.cmp op a b) true ρ st) _
  have q : Post X.K X.mg (fun c d H' => W c d σ H') F m H AB (ev G (.cmp op a b) true ρ st) Q := q
  rw [e] at q ⊢
  cases z with
  | ok b st1 =>
    intro F' m' H' v s' r' hv
    cases (show Rv X.K F' m' v (.bl b) from hv)
    exact ⟨b, rfl, q F' m' H' b s' r' rfl⟩
  | exc c fs st1 => exact q
  | bad => exact q
theorem snd_neg {a : CE} {x : Expr} {p : Pos} (ha : Snd X W G a x) : Snd X W G (.neg a) (.UnaryOp .USub x p) := by
  refine Snd.no (PE_imp (pe_un un_neg ha.pe) fun σ H Q ⟨F, m, st, ρ, s, r, q⟩ => ⟨F, m, st, ρ, s, r, ?_⟩) (fun _ _ => rfl) (by rintro ⟨_, _, _, z⟩; cases z)
  have q : Post X.K X.mg (fun c d H' => W c d σ H') F m H (AV X.K) ((ev G a false ρ st).bind fun x st => match x with
    | .int i => .ok (.int (-i)) st
    | _ => .bad) Q := q
  refine Post.bind q fun d st1 _ F1 m1 H1 v s1 r1 hv q1 => ?_
  cases hv with
  | int i => exact ⟨i, rfl, q1 _ _ _ _ .refl r1 (.int _)⟩
  | _ => exact q1.elim
theorem snd_not {a : CE} {x : Expr} {p : Pos} (ha : Snd X W G a x) : Snd X W G (.not a) (.UnaryOp .Not x p) := by
  refine ⟨PE_imp (pe_not ha.pe) fun σ H Q ⟨F, m, st, ρ, s, r, q⟩ => ⟨F, m, st, ρ, s, r, ?_⟩, PT_imp (pt_not ha.pt) fun σ H Q ⟨F, m, st, ρ, s, r, q⟩ => ⟨F, m, st, ρ, s, r, ?_⟩, by rintro ⟨_, _, _, z⟩; cases z⟩
  · have q : Post X.K X.mg (fun c d H' => W c d σ H') F m H (AV X.K) ((ev G a false ρ st).bind fun x st => match x with
      | .bl b => .ok (.bl (!b)) st
      | _ => .bad) Q := q
    refine Post.bind q fun d st1 _ F1 m1 H1 v s1 r1 hv q1 => ?_
    cases hv with
    | bl i => exact ⟨i, rfl, q1 _ _ _ _ .refl r1 (.bl _)⟩
    | _ => exact q1.elim
  · have q : Post X.K X.mg (fun c d H' => W c d σ H') F m H AB ((ev G a true ρ st).bind fun x st => match x with
      | .bl b => .ok (.bl (!b)) st
      | _ => .bad) Q := q
    refine Post.bind q fun d st1 _ F1 m1 H1 v s1 r1 hv q1 => ?_
    cases (show d = .bl v from hv)
    exact q1 _ _ _ _ .refl r1 rfl
theorem and_pw {a b : CE} {x y : Expr} {r : List Expr} {p : Pos} (ha : Snd X W G a x) (hb : PW X (.BoolOp .And (y :: r) p) (tT X.K X.mg W (ev G b true))) : PW X (.BoolOp .And (x :: y :: r) p) (tT X.K X.mg W (ev G (.and a b) true)) := by
  refine PW_imp (pw_and ha.pt hb) fun σ H Q ⟨F, m, st, ρ, s, r, q⟩ => ⟨F, m, st, ρ, s, r, ?_⟩
  have q : Post X.K X.mg (fun c d H' => W c d σ H') F m H AB ((ev G a true ρ st).bind fun x st => match x with
    | .bl true => ev G b true ρ st
    | .bl false => .ok (.bl false) st
    | _ => .bad) Q := q
  refine Post.bind q fun d st1 _ F1 m1 H1 v s1 r1 hv q1 => ?_
  cases (show d = .bl v from hv)
  cases v with
  | true => exact iteT ⟨F1, m1, st1, ρ, r1, r.step s1, q1⟩
  | false => exact iteF (q1 _ _ _ _ .refl r1 rfl)
theorem and_pe {a b : CE} {x y : Expr} {r : List Expr} {p : Pos} (ha : Snd X W G a x) (hb : PE X (.BoolOp .And (y :: r) p) (tX X.K X.mg W (ev G b false))) : PE X (.BoolOp .And (x :: y :: r) p) (tX X.K X.mg W (ev G (.and a b) false)) := by
  refine PE_imp (pe_and ha.pe hb) fun σ H Q ⟨F, m, st, ρ, s, r, q⟩ => ⟨F, m, st, ρ, s, r, ?_⟩
  have q : Post X.K X.mg (fun c d H' => W c d σ H') F m H (AV X.K) ((ev G a false ρ st).bind fun x st => match x with
    | .bl true => ev G b false ρ st
    | .bl false => .ok (.bl false) st
    | _ => .bad) Q := q
  refine Post.bind q fun d st1 _ F1 m1 H1 v s1 r1 hv q1 => ?_
  cases hv with
  | bl i =>
    cases i with
    | true => exact ⟨true, rfl, iteT ⟨F1, m1, st1, ρ, r1, r.step s1, q1⟩⟩
    | false => exact ⟨false, rfl, iteF (q1 _ _ _ _ .refl r1 (.bl _))⟩
  | _ => exact q1.elim
theorem or_pw {a b : CE} {x y : Expr} {r : List Expr} {p : Pos} (ha : Snd X W G a x) (hb : PW X (.BoolOp .Or (y :: r) p) (tT X.K X.mg W (ev G b true))) : PW X (.BoolOp .Or (x :: y :: r) p) (tT X.K X.mg W (ev G (.or a b) true)) := by
  refine PW_imp (pw_or ha.pt hb) fun σ H Q ⟨F, m, st, ρ, s, r, q⟩ => ⟨F, m, st, ρ, s, r, ?_⟩
  have q : Post X.K X.mg (fun c d H' => W c d σ H') F m H AB ((ev G a true ρ st).bind fun x st => match x with
    | .bl true => .ok (.bl true) st
    | .bl false => ev G b true ρ st
    | _ => .bad) Q := q
  refine Post.bind q fun d st1 _ F1 m1 H1 v s1 r1 hv q1 => ?_
  cases (show d = .bl v from hv)
  cases v with
  | false => exact iteF ⟨F1, m1, st1, ρ, r1, r.step s1, q1⟩
  | true => exact iteT (q1 _ _ _ _ .refl r1 rfl)
theorem or_pe {a b : CE} {x y : Expr} {r : List Expr} {p : Pos} (ha : Snd X W G a x) (hb : PE X (.BoolOp .Or (y :: r) p) (tX X.K X.mg W (ev G b false))) : PE X (.BoolOp .Or (x :: y :: r) p) (tX X.K X.mg W (ev G (.or a b) false)) := by
  refine PE_imp (pe_or ha.pe hb) fun σ H Q ⟨F, m, st, ρ, s, r, q⟩ => ⟨F, m, st, ρ, s, r, ?_⟩
  have q : Post X.K X.mg (fun c d H' => W c d σ H') F m H (AV X.K) ((ev G a false ρ st).bind fun x st => match x with
    | .bl true => .ok (.bl true) st
    | .bl false => ev G b false ρ st
    | _ => .bad) Q := q
  refine Post.bind q fun d st1 _ F1 m1 H1 v s1 r1 hv q1 => ?_
  cases hv with
  | bl i =>
    cases i with
    | false => exact ⟨false, rfl, iteF ⟨F1, m1, st1, ρ, r1, r.step s1, q1⟩⟩
    | true => exact ⟨true, rfl, iteT (q1 _ _ _ _ .refl r1 (.bl _))⟩
  | _ => exact q1.elim
theorem snd_ifx {c a b : CE} {x y z : Expr} {p : Pos} (hc : Snd X W G c x) (ha : Snd X W G a y) (hb : Snd X W G b z) : Snd X W G (.ifx c a b) (.IfExp x y z p) := by
  refine Snd.no (PE_imp (pe_ifExp hc.pt ha.pe hb.pe) fun σ H Q ⟨F, m, st, ρ, s, r, q⟩ => ⟨F, m, st, ρ, s, r, ?_⟩) (fun _ _ => rfl) (by rintro ⟨_, _, _, z⟩; cases z)
  have q : Post X.K X.mg (fun c d H' => W c d σ H') F m H (AV X.K) ((ev G c true ρ st).bind fun x st => match x with
    | .bl true => ev G a false ρ st
    | .bl false => ev G b false ρ st
    | _ => .bad) Q := q
  refine Post.bind q fun d st1 _ F1 m1 H1 v s1 r1 hv q1 => ?_
  cases (show d = .bl v from hv)
  cases v with
  | true => exact iteT ⟨F1, m1, st1, ρ, r1, r.step s1, q1⟩
  | false => exact iteF ⟨F1, m1, st1, ρ, r1, r.step s1, q1⟩
theorem snd_sub (g : Good X sc W G fns) {a i : CE} {x y : Expr} {p : Pos} (hs : isSlice y = false) (ha : PEw X W G a x) (hi : Snd X W G i y) : Snd X W G (.sub a i) (.Subscript x y p) := by
  have hp : PlainIx y := fun o i => by cases y <;> first | rfl | cases hs
  have hu := g.hu
  refine Snd.val (PE_imp (pe_ix (ix_sub (by omega)) ha hi.pe hp) fun σ H Q ⟨F, m, st, ρ, s, r, q⟩ => ⟨F, m, st, ρ, s, r, ?_⟩) (fun _ => rfl) (fun ρ st => ?_) (by rintro ⟨_, _, _, z⟩; cases z)
  · have q : Post X.K X.mg (fun c d H' => W c d σ H') F m H (AV X.K) ((vw a ρ st (ev G a false ρ st)).bind fun x st => (ev G i false ρ st).bind fun y st => match subP st x y with
      | some v => fin false v st
      | none => .bad) Q := q
    refine Post.bind q fun d st1 _ F1 m1 H1 v s1 r1 hv q1 => ⟨F1, m1, st1, ρ, r1, r.step s1, Post.bind q1 fun e st2 _ F2 m2 H2 u s2 r2 hu q2 => ?_⟩
    cases ez : subP st2 d e with
    | none => rw [ez] at q2; exact q2.elim
    | some z =>
      rw [ez] at q2
      exact ⟨F2, m2, st2, d, e, z, r2, s2.rvw hv, hu, ez, fun v hv => q2 _ _ _ _ .refl r2 hv⟩
  · show (vw a ρ st (ev G a false ρ st)).bind _ = ((vw a ρ st (ev G a false ρ st)).bind _).bind _
    rw [R.assoc]
    refine congrArg _ (funext fun x => funext fun st => ?_)
    rw [R.assoc]
    refine congrArg _ (funext fun y => funext fun st => ?_)
    cases subP st x y <;> rfl
def tOp' (K : PySem.W.Frag) (mg : Str → Option Value) (W : WX) (f : Env → Store → R (Option Int)) : TO := fun σ H Q => At K σ H fun F m st ρ => Post K mg (fun c d H' => W c d σ H') F m H (fun _ _ _ a b => a = b) (f ρ st) Q
theorem PO_imp {e : Option Expr} {t t' : TO} (h : PO X e t) (i : ∀ σ H Q, t' σ H Q → t σ H Q) : PO X e t' := ⟨fun pins s σ H Q I hw => h.run pins s σ H Q I (i σ H Q hw)⟩
theorem snd_slc {a : CE} {lo hi : CO} {x : Expr} {l h : Option Expr} {p p2 : Pos} (ha : PEw X W G a x) (hl : PO X l (tOp' X.K X.mg W (evO G lo))) (hh : PO X h (tOp' X.K X.mg W (evO G hi))) : Snd X W G (.slc a lo hi) (.Subscript x (.Slice l h none p2) p) := by
  refine Snd.no (PE_imp (pe_slice sl_P ha hl hh) fun σ H Q ⟨F, m, st, ρ, s, r, q⟩ => ⟨F, m, st, ρ, s, r, ?_⟩) (fun _ _ => rfl) (by rintro ⟨_, _, _, z⟩; cases z)
  have q : Post X.K X.mg (fun c d H' => W c d σ H') F m H (AV X.K) ((vw a ρ st (ev G a false ρ st)).bind fun x st => (evO G lo ρ st).bind fun l st => (evO G hi ρ st).bind fun h st => R.of (slcP x l h) st) Q := q
  refine Post.bind q fun d st1 _ F1 m1 H1 v s1 r1 hv q1 => ⟨F1, m1, st1, ρ, r1, r.step s1, Post.bind q1 fun e st2 _ F2 m2 H2 u s2 r2 hu q2 => ⟨F2, m2, st2, ρ, r2, (r.step s1).step s2, Post.bind q2 fun f st3 _ F3 m3 H3 w s3 r3 hw q3 => ?_⟩⟩
  cases (show u = e from hu)
  cases (show w = f from hw)
  cases ez : slcP d e f with
  | none => rw [ez] at q3; exact q3.elim
  | some z =>
    rw [ez] at q3
    exact ⟨F3, m3, st3, d, z, r3, s3.rvw (s2.rvw hv), ez, fun F' v H' s' r' hz => q3 _ _ _ _ s' r' hz⟩
theorem pa1 {c : CE} {e : Expr} (h1 : notStar e = true) (ha : PEw X W G c e) : PA X [e] (tCons (tW X.K X.mg W fun ρ st => vw c ρ st (ev G c false ρ st)) tNil) := pa_cons ha pa_nil (starEach_cons [] X.env h1)
theorem snd_b1 (g : Good X sc W G fns) {f : B1} {a : CE} {x : Str} {e : Expr} {p pos : Pos} (hx : x = f.name) (hf : f.fn.isSome = true) (hg : glB sc x = true) (h1 : notStar e = true) (ha : PEw X W G a e) : Snd X W G (.b1 f a) (.Call (.Name x p) [e] [] pos) := by
  subst hx
  obtain ⟨u, hu⟩ := Option.isSome_iff_exists.mp hf
  obtain ⟨q1, q2, q3, q4⟩ := boot_b1 f u hu
  have gl := g.gl _ (glB_ok hg)
  have nm := g.free _ q2
  have rd : ∀ σ H Q, tX X.K X.mg W (ev G (.b1 f a) false) σ H Q → tCB (rC1 X.K (b1P f)) (tCons (tW X.K X.mg W fun ρ st => vw a ρ st (ev G a false ρ st)) tNil) σ H Q := fun σ H Q ⟨F, m, st, ρ, s, r, q⟩ => by
    have q : Post X.K X.mg (fun c d H' => W c d σ H') F m H (AV X.K) ((vw a ρ st (ev G a false ρ st)).bind fun x st => match b1P f x with
      | some v => fin false v st
      | none => .bad) Q := q
    refine ⟨F, m, st, ρ, s, r, Post.bind q fun d st1 _ F1 m1 H1 v s1 r1 hv q1 => ⟨v, rfl, ?_⟩⟩
    cases ez : b1P f d with
    | none => rw [ez] at q1; exact q1.elim
    | some z =>
      rw [ez] at q1
      exact ⟨F1, m1, st1, d, z, r1, hv, ez, fun F' v H' s' r' hz => q1 _ _ _ _ s' r' hz⟩
  refine Snd.val ?_ (fun _ => rfl) (fun ρ st => ?_) (by rintro ⟨_, _, _, z⟩; cases z)
  · have hc := call_b1 g.calm f u hu
    cases u with
    | builtin id => exact PE_imp (pe_callB hc gl nm q1 (pa1 h1 ha) q3 q4 (starEach_cons [] X.env h1) rfl) rd
    | type T => exact PE_imp (pe_callTy hc gl nm q1 (pa1 h1 ha) q3 q4 (starEach_cons [] X.env h1) rfl) rd
    | _ => cases f <;> cases hu
  · show (vw a ρ st (ev G a false ρ st)).bind _ = ((vw a ρ st (ev G a false ρ st)).bind _).bind _
    rw [R.assoc]
    refine congrArg _ (funext fun x => funext fun st => ?_)
    cases b1P f x <;> rfl
theorem snd_max (g : Good X sc W G fns) {a b : CE} {x : Str} {e e' : Expr} {p pos : Pos} (hx : x = "max") (hg : glB sc x = true) (h1 : notStar e = true) (h2 : notStar e' = true) (ha : PEw X W G a e) (hb : PEw X W G b e') : Snd X W G (.b2 .max a b) (.Call (.Name x p) [e, e'] [] pos) := by
  subst hx
  have gl := g.gl _ (glB_ok hg)
  have nm := g.free "max" (by decide +kernel)
  refine Snd.val (PE_imp (pe_callB (call_max g.calm) gl nm (by decide +kernel) (pa_cons ha (pa1 h2 hb) (starEach_cons [e'] X.env h1)) (by decide +kernel) (by decide +kernel) (starEach_cons [e'] X.env h1) (backTo_none pos X.env (by simp [h2]))) fun σ H Q ⟨F, m, st, ρ, s, r, q⟩ => ⟨F, m, st, ρ, s, r, ?_⟩) (fun _ => rfl) (fun ρ st => ?_) (by rintro ⟨_, _, _, z⟩; cases z)
  · have q : Post X.K X.mg (fun c d H' => W c d σ H') F m H (AV X.K) ((vw a ρ st (ev G a false ρ st)).bind fun x st => (vw b ρ st (ev G b false ρ st)).bind fun y st => match b2P .max x y with
      | some v => fin false v st
      | none => .bad) Q := q
    refine Post.bind q fun d st1 _ F1 m1 H1 v s1 r1 hv q1 => ⟨F1, m1, st1, ρ, r1, r.step s1, Post.bind q1 fun e st2 _ F2 m2 H2 u s2 r2 hu q2 => ⟨v, u, rfl, ?_⟩⟩
    cases ez : b2P .max d e with
    | none => rw [ez] at q2; exact q2.elim
    | some z =>
      rw [ez] at q2
      exact ⟨F2, m2, st2, d, e, z, r2, s2.rvw hv, hu, ez, fun F' v H' s' r' hz => q2 _ _ _ _ s' r' hz⟩
  · show (vw a ρ st (ev G a false ρ st)).bind _ = ((vw a ρ st (ev G a false ρ st)).bind _).bind _
    rw [R.assoc]
    refine congrArg _ (funext fun x => funext fun st => ?_)
    rw [R.assoc]
    refine congrArg _ (funext fun y => funext fun st => ?_)
    cases b2P .max x y <;> rfl
end
end PC
set_option linter.all false
set_option maxRecDepth 100000
set_option maxHeartbeats 2000000
set_option autoImplicit false
/-! PC, part m: isinstance, get, displays, comprehensions; all expressions. -/
namespace PC
open PySem PySem.Spec PyProof.Rows L2
theorem boot_ty : ∀ t ∈ knownTy, bootBuiltins (Str.ofString t) = some (.type t) ∧ Str.ofString t ∈ bnames ∧ Str.ofString t ≠ "__name__" ∧ (Str.ofString t == ("__debug__" : Str)) = false := by decide +kernel
section
variable {X : Cx} {sc : Scope} {W : WX} {G : Ops} {fns : List (Str × Nat × Nat)} {e : Expr}
theorem pe_ty (g : Good X sc W G fns) {t : String} {p : Pos} (hk : knownTy.contains t = true) (hg : glB sc (Str.ofString t) = true) : PE X (.Name (Str.ofString t) p) (tC (.ty t)) := by
  obtain ⟨q1, q2, q3, q4⟩ := boot_ty t (by simpa using hk)
  exact pe_bltn (g.gl _ (glB_ok hg)) (g.free _ q2) q1 rfl q3 q4
def tTys : List String → TA
  | [] => tNil
  | t :: ts => tCons (tC (.ty t)) (tTys ts)
theorem tTys_read : ∀ (ts : List String) {σ : L2.St} {H : Hp} {Q : List V → Hp → Prop}, Q (ts.map V.ty) H → tTys ts σ H Q
  | [], _, _, _, h => h
  | t :: ts, _, _, Q, h => tTys_read ts (Q := fun xs H' => Q (V.ty t :: xs) H') h
theorem pa_tys (g : Good X sc W G fns) : ∀ {ts : List String} {es : List Expr}, ts.all knownTy.contains = true → es.map (fun e => match e with
      | .Name x _ => if glB sc x = true then some x else none
      | _ => none) = ts.map (fun t => some (Str.ofString t)) → PA X es (tTys ts)
  | [], [], _, _ => pa_nil
  | t :: ts, e :: es, h, q => by
    rw [List.all_cons] at h
    obtain ⟨h1, h2⟩ := and_ok h
    rw [List.map_cons, List.map_cons] at q
    injection q with q1 q2
    cases e with
    | Name x p =>
      simp only at q1
      split at q1
      · rename_i hg
        cases q1
        exact pa_cons (pe_ty g h1 hg) (pa_tys g h2 q2) rfl
      · cases q1
    | _ => cases q1
  | [], _ :: _, _, q => by cases q
  | _ :: _, [], _, q => by cases q
theorem clsV_tys : ∀ ts : List String, Paired ClsV (ts.map V.ty) (ts.map Value.type)
  | [] => .nil
  | t :: ts => .cons (.ty t) (clsV_tys ts)
theorem kit_any {K : PySem.W.Frag} {t : String} (ht : t ∈ ("NoneType" :: knownTy)) : ∀ ts : List String, ts.all knownTy.contains = true → PySem.W.kitAny K (.type t) (ts.map Value.type) = some (isiP t ts)
  | [], _ => kitAny_nil
  | u :: ts, h => by
    rw [List.all_cons] at h
    obtain ⟨h1, h2⟩ := and_ok h
    have k := kit_ty (K := K) (kit_all t ht u (by simpa using h1))
    have ih := kit_any (K := K) ht ts h2
    refine kitAny_cons k (fun z => ?_) (fun z => ?_)
    · rw [ih]
      unfold isiP
      rw [List.any_cons, z, Bool.false_or]
    · unfold isiP
      rw [List.any_cons, z, Bool.true_or]
theorem tysB_name {ts : List String} {y : Str} {q : Pos} (h : tysB ts sc (.Name y q) = true) : ∃ t, ts = [t] ∧ glB sc y = true ∧ y = Str.ofString t ∧ knownTy.contains t = true := by
  match ts, h with
  | [t], ht =>
    obtain ⟨k1, k2⟩ := and_ok ht
    obtain ⟨k2, k3⟩ := and_ok k2
    exact ⟨t, rfl, k1, of_decide_eq_true k2, k3⟩
  | [], ht => cases ht
  | _ :: _ :: _, ht => cases ht
theorem snd_isi (g : Good X sc W G fns) {a : CE} {ts : List String} {x : Str} {e t : Expr} {p pos : Pos} (hx : x = "isinstance") (hg : glB sc x = true) (h1 : notStar e = true) (h2 : notStar t = true) (ha : PEw X W G a e) (ht : tysB ts sc t = true) : Snd X W G (.isi a ts) (.Call (.Name x p) [e, t] [] pos) := by
  subst hx
  have gl := g.gl _ (glB_ok hg)
  have nm := g.free "isinstance" (by decide +kernel)
  have fin : ∀ {ρ st}, ev G (.isi a ts) true ρ st = (ev G (.isi a ts) false ρ st).bind fun v st => fin true v st := fun {ρ st} => by
    show (vw a ρ st (ev G a false ρ st)).bind _ = ((vw a ρ st (ev G a false ρ st)).bind _).bind _
    rw [R.assoc]
    refine congrArg _ (funext fun x => funext fun st => ?_)
    cases tyOf x <;> rfl
  refine Snd.val ?_ (fun _ => rfl) (fun ρ st => fin) (by rintro ⟨_, _, _, z⟩; cases z)
  cases t with
  | Name y q =>
    obtain ⟨t, rfl, k1, rfl, k3⟩ := tysB_name ht
    refine PE_imp (pe_callB call_isi gl nm (by decide +kernel) (pa_cons ha (pa_cons (pe_ty g k3 k1) pa_nil) (starEach_cons _ X.env h1)) (by decide +kernel) (by decide +kernel) (starEach_cons _ X.env h1) rfl) fun σ H Q ⟨F, m, st, ρ, s, r, q⟩ => ⟨F, m, st, ρ, s, r, ?_⟩
    have q : Post X.K X.mg (fun c d H' => W c d σ H') F m H (AV X.K) ((vw a ρ st (ev G a false ρ st)).bind fun x st => match tyOf x with
      | some u => .ok (.bl (isiP u [t])) st
      | none => .bad) Q := q
    refine Post.bind q fun d st1 _ F1 m1 H1 v s1 r1 hv q1 => ?_
    cases et : tyOf d with
    | none => rw [et] at q1; exact q1.elim
    | some u =>
      rw [et] at q1
      obtain ⟨tx, tm⟩ := tyX_of r1.sub hv et
      refine ⟨v, .ty t, .type u, .type t, t == u || (u == "bool" && t == "int"), rfl, .ty t, tx, kit_ty (kit_all u tm t (by simpa using k3)), ?_⟩
      have e : isiP u [t] = (t == u || (u == "bool" && t == "int")) := by
        show ((t == u || (u == "bool" && t == "int")) || false) = _
        rw [Bool.or_false]
      rw [← e]
      exact q1 _ _ _ _ .refl r1 (.bl _)
  | Tuple es k q =>
    have ht : (decide (1 < ts.length ∧ ts.length ≤ 4) && (ts.all knownTy.contains && decide (es.map (fun e => match e with
      | .Name x _ => if glB sc x = true then some x else none
      | _ => none) = ts.map fun t => some (Str.ofString t)))) = true := ht
    obtain ⟨k0, k1⟩ := and_ok ht
    obtain ⟨k1, k2⟩ := and_ok k1
    have k0 := (of_decide_eq_true k0).2
    refine PE_imp (pe_callB call_isiT gl nm (by decide +kernel) (pa_cons ha (pa_cons (pe_tup (pa_tys g k1 (of_decide_eq_true k2))) pa_nil) (starEach_cons _ X.env h1)) (by decide +kernel) (by decide +kernel) (starEach_cons _ X.env h1) rfl) fun σ H Q ⟨F, m, st, ρ, s, r, q⟩ => ⟨F, m, st, ρ, s, r, ?_⟩
    have q : Post X.K X.mg (fun c d H' => W c d σ H') F m H (AV X.K) ((vw a ρ st (ev G a false ρ st)).bind fun x st => match tyOf x with
      | some u => .ok (.bl (isiP u ts)) st
      | none => .bad) Q := q
    refine Post.bind q fun d st1 _ F1 m1 H1 v s1 r1 hv q1 => tTys_read ts ?_
    refine ⟨by rw [List.length_map, ← big_eq]; exact Nat.le_trans k0 (by unfold big; decide), fun tp hp => ?_⟩
    cases et : tyOf d with
    | none => rw [et] at q1; exact q1.elim
    | some u =>
      rw [et] at q1
      have r2 := r1.alloc (o := .tup (ts.map V.ty)) hp
      have s2 : Stp F1 m1 H1 _ m1 _ := Stp.alloc (o := .tup (ts.map V.ty)) r1.sub hp
      obtain ⟨tx, tm⟩ := tyX_of r2.sub (s2.rvw hv) et
      exact ⟨v, tp, ts.map V.ty, .type u, ts.map Value.type, isiP u ts, rfl, upd_same, clsV_tys ts, tx, kit_any tm ts k1, q1 _ _ _ _ s2 r2 (.bl _)⟩
  | _ => cases ht
theorem snd_get2 (g : Good X sc W G fns) {o k d : CE} {nm : Str} {x e e' : Expr} {apos pos : Pos} (hn : nm = "get") (hs : isSuper x = false) (hl : apos.endLine = pos.line) (h1 : notStar e = true) (h2 : notStar e' = true) (ho : PEw X W G o x) (hk : Snd X W G k e) (hd : Snd X W G d e') :
    Snd X W G (.get2 o k d) (.Call (.Attribute x nm apos) [e, e'] [] pos) := by
  subst hn
  have hu := g.hu
  have base : attributeBase x "get" X.env (eval x X.env) = eval x X.env := by cases x <;> first | rfl | cases hs
  have tr : backTo pos (starEach [e, e'] X.env) = [(false, eval e X.env), (false, eval e' X.env)] := by
    rw [starEach_cons _ X.env h1, starEach_cons _ X.env h2]
    rfl
  have M : M2 X x "get" apos e e' pos := ⟨base, by rw [tr]; rfl, by rw [hl]; exact beq_self_eq_true _, tr⟩
  refine Snd.no (PE_imp (pe_dget2 (by omega) ho hk.pe hd.pe M) fun σ H Q ⟨F, m, st, ρ, s, r, q⟩ => ⟨F, m, st, ρ, s, r, ?_⟩) (fun _ _ => rfl) (by rintro ⟨_, _, _, z⟩; cases z)
  have q : Post X.K X.mg (fun c d H' => W c d σ H') F m H (AV X.K) ((vw o ρ st (ev G o false ρ st)).bind fun x st => match x with
    | .dct kvs => (ev G k false ρ st).bind fun y st => (ev G d false ρ st).bind fun z st => match toKey y with
      | some k => .ok ((dget kvs k).getD z) st
      | none => .bad
    | _ => .bad) Q := q
  refine Post.bind q fun x st1 _ F1 m1 H1 v s1 r1 hv q1 => ?_
  have isd : ∃ kvs, x = .dct kvs := by
    cases x with
    | dct kvs => exact ⟨kvs, rfl⟩
    | _ => exact q1.elim
  obtain ⟨kvs, rfl⟩ := isd
  obtain ⟨a, vs, rfl, hd1, hr1, _⟩ := hv.dct r1.sub
  refine ⟨a, rfl, .inl ⟨vs, hd1⟩, F1, m1, st1, ρ, r1, r.step s1, Post.bind q1 fun y st2 _ F2 m2 H2 w s2 r2 hw q2 => ⟨F2, m2, st2, ρ, r2, (r.step s1).step s2, Post.bind q2 fun z st3 _ F3 m3 H3 u s3 r3 hu q3 => ?_⟩⟩
  cases ek : toKey y with
  | none => rw [ek] at q3; exact q3.elim
  | some kk =>
    rw [ek] at q3
    have ey := toKey_eq ek
    subst ey
    have hk := hw.key
    subst hk
    obtain ⟨a', vs', e1, hd3, hr3, _⟩ := (s3.rvw (s2.rvw hv)).dct r3.sub
    cases e1
    refine ⟨valV vs' kk, .inl ⟨vs', kk, hd3, rfl, rfl⟩, q3 _ _ _ _ .refl r3 ?_⟩
    rcases RvD.val kk hr3 with ⟨z1, z2⟩ | ⟨x, d, z1, z2, z3⟩
    · rw [z1, z2]; exact hu
    · rw [z1, z2]; exact z3
end
end PC
set_option linter.all false
set_option maxRecDepth 100000
set_option maxHeartbeats 2000000
set_option autoImplicit false
/-! PC, part n: sources, comprehensions, dict displays. -/
namespace PC
open PySem PySem.Spec PyProof.Rows L2
section
variable {X : Cx} {sc : Scope} {W : WX} {G : Ops} {fns : List (Str × Nat × Nat)}
theorem PI_or {tg e : Expr} {t u : TI} (h1 : PI X tg e t) (h2 : PI X tg e u) : PI X tg e (fun σ H R => t σ H R ∨ u σ H R) := ⟨fun pins s σ H R I h => h.elim (h1.run pins s σ H R I) (h2.run pins s σ H R I)⟩
theorem PE_or {e : Expr} {t u : TE} (h1 : PE X e t) (h2 : PE X e u) : PE X e (fun σ H R => t σ H R ∨ u σ H R) := ⟨fun pins s σ H R I h => h.elim (h1.run pins s σ H R I) (h2.run pins s σ H R I)⟩
abbrev PIs (X : Cx) (W : WX) (G : Ops) (src : CS) (tg e : Expr) : Prop := PI X tg e (tI X.K X.mg W (evS G src))
theorem src_of {a : CE} {tg e : Expr} (ha : Snd X W G a e) : PIs X W G (.of a) tg e := by
  refine PI_imp (PI_or (pi_list ha.pe) (pi_tup ha.pe)) fun σ H RR ⟨F, m, st, ρ, s, r, q⟩ => ?_
  have q : Post (β := It × (Hp → List Addr → Hp → Prop)) X.K X.mg (fun c d H' => W c d σ H') F m H (fun F m H J ds => Wk X.K J.1 J.2 ds ∧ J.2 F m H ∧ ds.length ≤ big) ((ev G a false ρ st).bind fun x st => R.of (iterP x) st) (fun J H => RR J.1 H) := q
  have other : ∀ {z : R PV}, ev G a false ρ st = z → (∀ x st1, z ≠ .ok x st1) → Post X.K X.mg (fun c d H' => W c d σ H') F m H (AV X.K) (ev G a false ρ st) (fun x H1 => ∃ a, x = .ref a ∧ (∃ xs, SqL X.K H1 a xs) ∧ RR (Itl X.K a) H1) := fun {z} e n => by
    rw [e] at q ⊢
    cases z with
    | ok x st1 => exact absurd rfl (n x st1)
    | exc c fs st1 => exact q
    | bad => exact q
  cases e : ev G a false ρ st with
  | exc c fs st1 => exact .inl ⟨F, m, st, ρ, s, r, other e (fun _ _ z => by cases z)⟩
  | bad => exact .inl ⟨F, m, st, ρ, s, r, other e (fun _ _ z => by cases z)⟩
  | ok x st1 =>
    rw [e] at q
    cases x with
    | lst ds =>
      refine .inl ⟨F, m, st, ρ, s, r, ?_⟩
      simp only
      rw [e]
      intro F1 m1 H1 v s1 r1 hv
      obtain ⟨a', vs, rfl, h1, hr, hl⟩ := (RvW.lst r1.sub (.inl hv))
      exact ⟨a', rfl, ⟨vs, h1⟩, q F1 m1 H1 (Itl X.K a', GdW X.K (.ref a') (.lst ds)) s1 r1 ⟨wk_list, hv, hl⟩⟩
    | tup ds =>
      refine .inr ⟨F, m, st, ρ, s, r, ?_⟩
      simp only
      rw [e]
      intro F1 m1 H1 v s1 r1 hv
      obtain ⟨a', vs, rfl, h1, hr, hl⟩ := (RvW.tup r1.sub (.inl hv))
      exact ⟨a', rfl, ⟨vs, h1⟩, q F1 m1 H1 (Itt X.K a', GdW X.K (.ref a') (.tup ds)) s1 r1 ⟨wk_tup, hv, hl⟩⟩
    | _ => exact q.elim
theorem src_range (g : Good X sc W G fns) {a : CE} {tg e : Expr} {x : Str} {p pos : Pos} (hx : x = "range") (hg : glB sc x = true) (h1 : notStar e = true) (ha : Snd X W G a e) : PIs X W G (.range a) tg (.Call (.Name x p) [e] [] pos) := by
  subst hx
  refine PI_imp (pi_range1 (g.gl _ (glB_ok hg)) (g.free "range" (by decide +kernel)) (pa_cons ha.pe pa_nil (starEach_cons [] X.env h1)) (starEach_cons [] X.env h1)) fun σ H RR ⟨F, m, st, ρ, s, r, q⟩ => ⟨F, m, st, ρ, s, r, ?_⟩
  have q : Post (β := It × (Hp → List Addr → Hp → Prop)) X.K X.mg (fun c d H' => W c d σ H') F m H (fun F m H J ds => Wk X.K J.1 J.2 ds ∧ J.2 F m H ∧ ds.length ≤ big) ((ev G a false ρ st).bind fun x st => match x with
    | .int n => if -4611686018427387904 ≤ n ∧ n ≤ big then .ok ((List.range n.toNat).map fun (i : Nat) => .int (i : Int)) st else .bad
    | _ => .bad) (fun J H => RR J.1 H) := q
  refine Post.bind q fun d st1 _ F1 m1 H1 v s1 r1 hv q1 => ?_
  cases hv with
  | int n =>
    simp only at q1
    split at q1
    · rename_i hn
      have hb : (big : Int) < 2 ^ 62 := by unfold big; decide
      refine ⟨n, rfl, by omega, by omega, q1 F1 m1 H1 (Itr 0 n.toNat, fun _ _ _ => True) .refl r1 ⟨wk_range, trivial, ?_⟩⟩
      rw [List.length_map, List.length_range]
      omega
    · exact q1.elim
  | _ => exact q1.elim
theorem src_enum (g : Good X sc W G fns) {a : CE} {e : Expr} {es : List Expr} {k : Nat} {tp : Pos} {x : Str} {p pos : Pos} (hx : x = "enumerate") (hg : glB sc x = true) (h1 : notStar e = true) (ha : Snd X W G a e) : PIs X W G (.enum a) (.Tuple es k tp) (.Call (.Name x p) [e] [] pos) := by
  subst hx
  refine PI_imp (pi_enum (g.gl _ (glB_ok hg)) (g.free "enumerate" (by decide +kernel)) (pa_cons ha.pe pa_nil (starEach_cons [] X.env h1)) (starEach_cons [] X.env h1)) fun σ H RR ⟨F, m, st, ρ, s, r, q⟩ => ⟨F, m, st, ρ, s, r, ?_⟩
  have q : Post (β := It × (Hp → List Addr → Hp → Prop)) X.K X.mg (fun c d H' => W c d σ H') F m H (fun F m H J ds => Wk X.K J.1 J.2 ds ∧ J.2 F m H ∧ ds.length ≤ big) ((ev G a false ρ st).bind fun x st => match x with
    | .lst xs => .ok (List.zipWith (fun (i : Nat) b => .tup [.int i, b]) (List.range xs.length) xs) st
    | _ => .bad) (fun J H => RR J.1 H) := q
  refine Post.bind q fun d st1 _ F1 m1 H1 v s1 r1 hv q1 => ?_
  cases d with
  | lst ds =>
    obtain ⟨a', vs, rfl, h1, hr, hl⟩ := RvW.lst r1.sub (.inl hv)
    refine ⟨a', vs, rfl, h1, q1 F1 m1 H1 (Ite X.K a', GdW X.K (.ref a') (.lst ds)) .refl r1 ⟨wk_enum, hv, ?_⟩⟩
    simp only [List.length_zipWith, List.length_range]
    omega
  | _ => exact q1.elim
theorem zipW_get {xs ys : List PV} {i : Nat} {d : PV} (h : (List.zipWith (fun a b => PV.tup [a, b]) xs ys)[i]? = some d) : ∃ x y, xs[i]? = some x ∧ ys[i]? = some y ∧ d = .tup [x, y] := by
  rw [List.getElem?_zipWith] at h
  cases e1 : xs[i]? with
  | none => rw [e1] at h; cases h
  | some x =>
    cases e2 : ys[i]? with
    | none => rw [e1, e2] at h; cases h
    | some y =>
      rw [e1, e2] at h
      exact ⟨x, y, rfl, rfl, (Option.some.inj h).symm⟩
/-- a list beside a tuple -/
theorem wk_zip {K : PySem.W.Frag} {a b : Addr} {ds es : List PV} : Wk K (ItzM K a b) (fun F m _ => Rv K F m (.ref a) (.lst ds) ∧ Rv K F m (.ref b) (.tup es)) (List.zipWith (fun a b => PV.tup [a, b]) ds es) where
  cl := fun h s => ⟨Rv.mono s.le s.pre h.1, Rv.mono s.le s.pre h.2⟩
  goes := fun i F m H hi s h => by
    obtain ⟨a', xs, e, h1, r1, _⟩ := RvW.lst s (.inl h.1)
    cases e
    obtain ⟨b', ys, e, h2, r2, _⟩ := RvW.tup s (.inl h.2)
    cases e
    have l1 := r1.length
    have l2 := r2.length
    rw [List.length_zipWith] at hi
    have k1 : i < xs.length := by omega
    have k2 : i < ys.length := by omega
    exact ⟨xs, ys, xs[i], ys[i], h1, h2, List.getElem?_eq_getElem k1, List.getElem?_eq_getElem k2⟩
  stops := fun F m H s h => by
    obtain ⟨a', xs, e, h1, r1, _⟩ := RvW.lst s (.inl h.1)
    cases e
    obtain ⟨b', ys, e, h2, r2, _⟩ := RvW.tup s (.inl h.2)
    cases e
    have l1 := r1.length
    have l2 := r2.length
    refine ⟨xs, ys, h1, h2, ?_, ?_, ?_⟩ <;> rw [List.length_zipWith] <;> omega
  yields := fun i F m st H x H' d s h y e1 => by
    obtain ⟨a', xs, e, h1, r1, _⟩ := RvW.lst s.sub (.inl h.1)
    cases e
    obtain ⟨b', ys, e, h2, r2, _⟩ := RvW.tup s.sub (.inl h.2)
    cases e
    obtain ⟨T, u, v, rfl, hT, rfl, k1, k2⟩ := y
    obtain ⟨d1, d2, g1, g2, rfl⟩ := zipW_get e1
    obtain ⟨w1, q1, q2⟩ := r1.get g1
    obtain ⟨w2, q3, q4⟩ := r2.get g2
    rw [k1 xs h1] at q1
    rw [k2 ys h2] at q3
    cases q1
    cases q3
    exact new_pair s hT q2 q4
theorem src_zip (g : Good X sc W G fns) {a b : CE} {e e' : Expr} {es : List Expr} {k : Nat} {tp : Pos} {x : Str} {p pos : Pos} (hx : x = "zip") (hg : glB sc x = true) (h1 : notStar e = true) (h2 : notStar e' = true) (ha : Snd X W G a e) (hb : Snd X W G b e') : PIs X W G (.zip a b) (.Tuple es k tp) (.Call (.Name x p) [e, e'] [] pos) := by
  subst hx
  refine PI_imp (pi_zipM (g.gl _ (glB_ok hg)) (g.free "zip" (by decide +kernel)) (pa_cons ha.pe (pa_cons hb.pe pa_nil (starEach_cons [] X.env h2)) (starEach_cons [e'] X.env h1)) (starEach_cons [e'] X.env h1) (backTo_none pos X.env (by simp [h2]))) fun σ H RR ⟨F, m, st, ρ, s, r, q⟩ => ⟨F, m, st, ρ, s, r, ?_⟩
  have q : Post (β := It × (Hp → List Addr → Hp → Prop)) X.K X.mg (fun c d H' => W c d σ H') F m H (fun F m H J ds => Wk X.K J.1 J.2 ds ∧ J.2 F m H ∧ ds.length ≤ big) ((ev G a false ρ st).bind fun x st => (ev G b false ρ st).bind fun y st => match x, y with
    | .lst xs, .tup ys => .ok (List.zipWith (fun a b => .tup [a, b]) xs ys) st
    | _, _ => .bad) (fun J H => RR J.1 H) := q
  refine Post.bind q fun d st1 _ F1 m1 H1 v s1 r1 hv q1 => ⟨F1, m1, st1, ρ, r1, r.step s1, Post.bind q1 fun d2 st2 _ F2 m2 H2 u s2 r2 hu q2 => ?_⟩
  cases d with
  | lst ds =>
    cases d2 with
    | tup ys =>
      have hv2 := s2.rv hv
      obtain ⟨a', vs, rfl, j1, k1, l1⟩ := RvW.lst r2.sub (.inl hv2)
      obtain ⟨b', us, rfl, j2, k2, l2⟩ := RvW.tup r2.sub (.inl hu)
      refine ⟨a', b', vs, us, rfl, j1, j2, q2 F2 m2 H2 (ItzM X.K a' b', fun F m _ => Rv X.K F m (.ref a') (.lst ds) ∧ Rv X.K F m (.ref b') (.tup ys)) .refl r2 ⟨wk_zip, ⟨hv2, hu⟩, ?_⟩⟩
      rw [List.length_zipWith]
      omega
    | _ => exact q2.elim
  | _ => exact q2.elim
/-! ### the context of a comprehension -/
theorem lookup_mapf (f : Str × NameKind → Str × NameKind) (hf : ∀ p, (f p).1 = p.1) : ∀ {names : List (Str × NameKind)} {x : Str} {k : NameKind}, names.lookup x = some k → (names.map f).lookup x = some (f (x, k)).2
  | [], _, _, h => by simp at h
  | (n, k₀) :: r, x, k, h => by
    have ih := @lookup_mapf f hf r x k
    have e1 := hf (n, k₀)
    rw [List.map_cons]
    cases hx : x == n with
    | true =>
      have e : x = n := beq_iff_eq.mp hx
      subst e
      rw [List.lookup_cons, hx] at h
      cases h
      rw [show f (x, k₀) = ((f (x, k₀)).1, (f (x, k₀)).2) from rfl, e1, List.lookup_cons, hx]
    | false =>
      rw [List.lookup_cons, hx] at h
      rw [show f (n, k₀) = ((f (n, k₀)).1, (f (n, k₀)).2) from rfl, e1, List.lookup_cons, hx]
      exact ih h
theorem lookup_relS_free {sc : Scope} {names : List (Str × NameKind)} {x : Str} (h : names.lookup x = some .free) :
    (names.map fun (n, k) => if (k == NameKind.free && sc.kind == .function && sc.names.lookup n == some .cell) then (n, NameKind.cell) else (n, k)).lookup x = some .free ∨
    (names.map fun (n, k) => if (k == NameKind.free && sc.kind == .function && sc.names.lookup n == some .cell) then (n, NameKind.cell) else (n, k)).lookup x = some .cell := by
  rw [lookup_mapf _ (fun p => by obtain ⟨n, k⟩ := p; simp only; split <;> rfl) h]
  simp only
  split
  · exact .inr rfl
  · exact .inl rfl
theorem Good.blk (g : Good X sc W G fns) (s : Shared) (H : Hp) (scope : Scope) (C : Addr) (cl : List (Str × Addr)) (fp : List Addr) : Good (X.blk s H scope (compEnvC scope cl C X.env) fp) scope W0 G (lamFns fns) where
  calm := g.calm
  nd := g.nd
  vis := fun x h => by
    show Vis (relS scope X.env.scope) x
    rcases h with h | h | h
    · exact .inl (lookup_relS_keep (by decide) h)
    · exact .inr (.inl (lookup_relS_keep (by decide) h))
    · rcases lookup_relS_free (sc := X.env.scope) h with q | q
      · exact .inr (.inr q)
      · exact .inr (.inl q)
  gl := fun x h => by
    show (relS scope X.env.scope).names.lookup x = _
    exact lookup_relS_keep (by decide) h
  loc := fun x h => by
    refine ⟨?_, ?_⟩
    · show Loc (relS scope X.env.scope) x
      rcases h with h | h
      · exact .inl (lookup_relS_keep (by decide) h)
      · exact .inr (lookup_relS_keep (by decide) h)
    · rcases h with h | h
      · exact .inr (show (relS scope X.env.scope).names.lookup x = _ from lookup_relS_keep (by decide) h)
      · exact .inl (show (scope.names.lookup x == some NameKind.cell) = true by rw [h]; rfl)
  cf := fun x h => by
    show (relS scope X.env.scope).names.lookup x = _ ∨ (relS scope X.env.scope).names.lookup x = _
    rcases h with h | h
    · exact .inl (lookup_relS_keep (by decide) h)
    · rcases lookup_relS_free (sc := X.env.scope) h with q | q
      · exact .inr q
      · exact .inl q
  tk := takes0
  hu := g.hu
  free := g.free
  fns := fun f lo hi h z => g.fns f lo hi (lamFns_sub h) z
  part := fun h => absurd h lamFns_no
theorem own_map {N : List Str} : ∀ {own : List Nat}, own.all (fun i => decide (i < N.length)) = true → (own.filterMap fun i => (N[i]?).map fun x => (x, i)).map (·.2) = own
  | [], _ => rfl
  | i :: own, h => by
    rw [List.all_cons] at h
    obtain ⟨h1, h2⟩ := and_ok h
    have h1 := of_decide_eq_true h1
    rw [List.filterMap_cons, List.getElem?_eq_getElem h1]
    simp only [Option.map_some, List.map_cons]
    rw [own_map h2]
theorem BlkOk.at (g : Good X sc W G fns) {scope : Scope} {own : List (Str × Nat)} (b : BlkOk X.N sc scope own) : BlkOk X.N X.env.scope scope own := ⟨b.kind, b.uniq, b.ix, fun y hy e => g.cf _ (b.free y hy e), b.own⟩
theorem noSet {it : Expr} {env : PySem.Env} (h : isSet it = false) : ∀ x, foldedSetIterable it env x = pure x := fun x => by cases it <;> first | rfl | cases h
theorem ifs_no {X : Cx} : PTs X [] (tCo X.K X.mg W (evC G .no)) := ⟨fun pins s σ H Q I ⟨F, m, st, ρ, sr, r, q⟩ => (pts_nil (X := X)).run pins s σ H Q I (q F m H true .refl sr rfl)⟩
theorem ifs_one {X : Cx} {a : CE} {e : Expr} (h : PT X e (tT X.K X.mg W (ev G a true))) : PTs X [e] (tCo X.K X.mg W (evC G (.some a))) := by
  refine ⟨fun pins s σ H Q I ⟨F, m, st, ρ, sr, r, q⟩ => (pts_one h).run pins s σ H Q I ⟨F, m, st, ρ, sr, r, ?_⟩⟩
  have q : Post X.K X.mg (fun c d H' => W c d σ H') F m H (fun _ _ _ b c => b = c) ((ev G a true ρ st).bind fun x st => match x with
    | .bl b => .ok b st
    | _ => .bad) Q := q
  refine Post.bind q fun d st1 _ F1 m1 H1 v s1 r1 hv q1 => ?_
  cases (show d = .bl v from hv)
  exact q1 _ _ _ _ .refl r1 rfl
/-! ### a locked dict -/
theorem SR.lock {K : PySem.W.Frag} {F H : Hp} {m : List Addr} {st : Store} {d : Addr} {od : Obj} {kvs : List (L2.Key × V)} (s : SR K F m st H) (hF : F d = some (.dK kvs)) : SR K F m st (upd H d (.frz od (.dK kvs))) where
  nt := s.nt
  tab := tabs_upd s.tab (by
    rcases s.sub d _ hF with z | ⟨_, _, _, z⟩
    · exact .dK z
    · exact .frz z)
  sub := fun a u e => by
    by_cases q : a = d
    · subst q
      rw [hF] at e
      cases e
      exact .inr ⟨kvs, od, rfl, upd_same⟩
    · rw [upd_ne q]
      exact s.sub a u e
  nd := s.nd
  len := s.len
  cell := fun k a xs e1 e2 => by
    obtain ⟨z1, ⟨us, z2, z3⟩, z4⟩ := s.cell k a xs e1 e2
    have ne : a ≠ d := fun z => by rw [z, hF] at z1; cases z1
    exact ⟨z1, ⟨us, by rw [upd_ne ne]; exact z2, z3⟩, z4⟩
theorem ER.lock {K : PySem.W.Frag} {F H : Hp} {m : List Addr} {σ : L2.St} {ρ : Env} {d : Addr} {o u : HO} (r : ER K F m H σ ρ) (hF : F d = some u) : ER K F m (upd H d o) σ ρ where
  val := r.val
  own := fun i e q => by
    obtain ⟨a, q1, h1, h2, h3⟩ := r.own i e q
    have ne : a ≠ d := fun z => by rw [z, hF] at h1; cases h1
    exact ⟨a, q1, h1, h2, h3.mono .refl .refl fun o e _ => by rw [upd_ne ne]; exact e⟩
  sep := r.sep
  len := r.len
theorem unlock {K : PySem.W.Frag} {F H F' H' : Hp} {m m' : List Addr} {st' : Store} {d : Addr} {od : Obj} {kvs : List (L2.Key × V)} (hF : F d = some (.dK kvs)) (hH : H d = some (.dK kvs)) (hm : d ∉ m) (s : Stp F m (upd H d (.frz od (.dK kvs))) F' m' H') (r : SR K F' m' st' H') :
    H' d = some (.frz od (.dK kvs)) ∧ Stp F m H F' m' (upd H' d (.dK kvs)) ∧ SR K F' m' st' (upd H' d (.dK kvs)) := by
  have hd := s.keep d _ upd_same hm (fun _ z => by cases z)
  have nn : ∀ a, Nn (upd H d (.frz od (.dK kvs))) a → Nn H a := fun a n o e t => by
    by_cases q : a = d
    · subst q
      exact n _ upd_same not_frz
    · exact n o (by rw [upd_ne q]; exact e) t
  refine ⟨hd, ⟨s.le, fun a o e => (s.new a o e).imp_right (nn a), fun a o e n t => ?_, fun a o e t => ?_, s.pre, fun a h => (s.preN a h).imp_right (nn a)⟩, ⟨fun a u e => ?_, r.nt, tabs_upd r.tab (.frz hd), r.nd, r.len, fun k a xs e1 e2 => ?_⟩⟩
  · by_cases q : a = d
    · subst q
      rw [hH] at e
      cases e
      exact upd_same
    · rw [upd_ne q]
      exact s.keep a o (by rw [upd_ne q]; exact e) n t
  · by_cases q : a = d
    · subst q; exact ⟨_, upd_same, not_dK⟩
    · obtain ⟨o', z, t'⟩ := s.there a o (by rw [upd_ne q]; exact e) t
      exact ⟨o', by rw [upd_ne q]; exact z, t'⟩
  · by_cases q : a = d
    · subst q
      rw [s.le _ _ hF] at e
      cases e
      exact .inl upd_same
    · rw [upd_ne q]
      exact r.sub a u e
  · obtain ⟨z1, ⟨us, z2, z3⟩, z4⟩ := r.cell k a xs e1 e2
    have ne : a ≠ d := fun z => by rw [z, s.le _ _ hF] at z1; cases z1
    exact ⟨z1, ⟨us, by rw [upd_ne ne]; exact z2, z3⟩, z4⟩
/-- the keys of a name's dict -/
theorem keys_read {K : PySem.W.Frag} {mg : Str → Option Value} {G : Ops} {i : Nat} {σ : L2.St} {H : Hp} {d : Addr} {od : Obj} {kvs : List (L2.Key × V)} (hσ : σ[i]? = some (some (.ref d))) (hd : H d = some (.frz od (.dK kvs))) (RR : It → Hp → Prop)
    (h : tI K mg (fun _ _ _ _ => True) (evS G (.keys i)) σ H RR) : iKeys (tVar i) σ H RR := by
  obtain ⟨F, m, st, ρ, s, r, q⟩ := h
  refine ⟨_, hσ, d, od, rfl, .inl ⟨kvs, hd, ?_⟩⟩
  have q : Post (β := It × (Hp → List Addr → Hp → Prop)) K mg (fun _ _ _ => True) F m H (fun F m H J ds => Wk K J.1 J.2 ds ∧ J.2 F m H ∧ ds.length ≤ big) (match ρ[i]? with
    | some (some (.val (.dct kvs))) => R.ok (kvs.map fun kv => kP kv.1) st
    | _ => .bad) (fun J H => RR J.1 H) := q
  cases e : ρ[i]? with
  | none => rw [e] at q; exact q.elim
  | some o =>
    cases o with
    | none => rw [e] at q; exact q.elim
    | some sl =>
      cases sl with
      | own v => rw [e] at q; exact q.elim
      | val v =>
        cases v with
        | dct dk =>
          rw [e] at q
          obtain ⟨v, h1, h2⟩ := r.val i _ e
          rw [hσ] at h1
          cases h1
          cases h2 with
          | @dct _ kvs' _ hF hr hl =>
            have ek : kvs' = kvs := by
              rcases s.sub d _ hF with z | ⟨k, od', e1, z⟩
              · rw [hd] at z; cases z
              · rw [hd] at z
                cases z
                cases e1
                rfl
            subst ek
            exact q F m H (Itk d od kvs', GdK d od kvs') .refl s ⟨wk_keys (keys_eq hr), ⟨(fun z => by rw [hF] at z; cases z), hd⟩, by rw [List.length_map]; exact hl⟩
        | _ => rw [e] at q; exact q.elim
/-- a reading that may need a lock on the dict in slot i -/
theorem lock_read {K : PySem.W.Frag} {mg : Str → Option Value} {i : Nat} {src : Env → Store → R PV} {t : TE} {σ : L2.St} {H : Hp} {Q : VK}
    (hb : ∀ ρ st, (∀ kvs, ρ[i]? ≠ some (some (.val (.dct kvs)))) → src ρ st = .bad) (hx : ∀ ρ st c fs st', src ρ st ≠ .exc c fs st')
    (ht : ∀ H Q d od kvs, σ[i]? = some (some (.ref d)) → H d = some (.frz od (.dK kvs)) → (At K σ H fun F m st ρ => F d = some (.dK kvs) ∧ (∃ dk, ρ[i]? = some (some (.val (.dct dk))) ∧ RvD K F m kvs dk ∧ dk.length ≤ big) ∧ Post K mg (fun _ _ _ => True) F m H (AV K) (src ρ st) Q) → t σ H Q)
    (h : At K σ H fun F m st ρ => Post K mg (fun c d H' => W c d σ H') F m H (AV K) (src ρ st) Q) : t σ H Q ∨ tLockE t σ H Q := by
  obtain ⟨F, m, st, ρ, s, r, q⟩ := h
  have ex : ∃ dk, ρ[i]? = some (some (.val (.dct dk))) := by
    refine Classical.byContradiction fun z => ?_
    rw [hb ρ st (fun kvs e => z ⟨kvs, e⟩)] at q
    exact q
  obtain ⟨dk, hdk⟩ := ex
  obtain ⟨v, hσ, hv⟩ := r.val i _ hdk
  cases hv with
  | @dct d kvs _ hF hr hl =>
    have nm : d ∉ m := fun z => by
      obtain ⟨k, hk⟩ := List.getElem?_of_mem z
      have hlt : k < st.length := by rw [← s.len]; exact (List.getElem?_eq_some_iff.mp hk).1
      obtain ⟨z1, _⟩ := s.cell k d st[k] hk (List.getElem?_eq_getElem hlt)
      rw [hF] at z1
      cases z1
    rcases s.sub d _ hF with hH | ⟨kvs', od, e1, hH⟩
    · refine .inr ⟨d, _, hH, trivial, fun od => ht _ _ d od kvs hσ upd_same ⟨F, m, st, ρ, s.lock hF, r.lock hF, hF, ⟨dk, hdk, hr, hl⟩, ?_⟩⟩
      cases e : src ρ st with
      | ok a st' =>
        rw [e] at q
        intro F' m' H' v s' r' hv
        obtain ⟨u1, u2, u3⟩ := unlock hF hH nm s' r'
        exact ⟨u1, q F' m' _ v u2 u3 hv⟩
      | exc c fs st' => exact absurd e (hx _ _ _ _ _)
      | bad => rw [e] at q; exact q
    · cases e1
      refine .inl (ht _ _ d od kvs hσ hH ⟨F, m, st, ρ, s, r, hF, ⟨dk, hdk, hr, hl⟩, ?_⟩)
      cases e : src ρ st with
      | ok a st' => rw [e] at q; exact q
      | exc c fs st' => exact absurd e (hx _ _ _ _ _)
      | bad => rw [e] at q; exact q
end
end PC
set_option linter.all false
set_option maxRecDepth 100000
set_option maxHeartbeats 2000000
set_option autoImplicit false
/-! PC, part o: comprehensions, dict displays, arguments. -/
namespace PC
open PySem PySem.Spec PyProof.Rows L2
theorem turns_nx (f : PV → Store → R (Option PV)) : ∀ (xs : List PV) (st : Store) (c : Str) (fs : List (Str × PV)) (st' : Store), turns f xs st ≠ .exc c fs st'
  | [], st, c, fs, st' => by unfold turns; intro z; cases z
  | x :: xs, st, c, fs, st' => by
    unfold turns
    cases f x st with
    | ok y st1 =>
      intro z
      have z : ((turns f xs st1).bind fun ys st => R.ok (addO y ys) st) = .exc c fs st' := z
      cases e : turns f xs st1 with
      | ok ys st2 => rw [e] at z; cases z
      | exc c2 f2 s2 => exact turns_nx f xs st1 c2 f2 s2 e
      | bad => rw [e] at z; cases z
    | exc c1 f1 s1 => intro z; cases z
    | bad => intro z; cases z
theorem turnsD_nx (f : PV → Store → R (Option (Key × PV))) : ∀ (xs : List PV) (acc : List (Key × PV)) (st : Store) (c : Str) (fs : List (Str × PV)) (st' : Store), turnsD f xs acc st ≠ .exc c fs st'
  | [], acc, st, c, fs, st' => by unfold turnsD; intro z; cases z
  | x :: xs, acc, st, c, fs, st' => by
    unfold turnsD
    cases f x st with
    | ok y st1 => exact turnsD_nx f xs (addD y acc) st1 c fs st'
    | exc c1 f1 s1 => intro z; cases z
    | bad => intro z; cases z
theorem keys_or {ρ : Env} {G : Ops} {i : Nat} {st : Store} : (∃ kvs : List (Key × PV), ρ[i]? = some (some (.val (.dct kvs))) ∧ evS G (.keys i) ρ st = .ok (kvs.map fun kv => kP kv.1) st) ∨ ((∀ kvs, ρ[i]? ≠ some (some (.val (.dct kvs)))) ∧ evS G (.keys i) ρ st = .bad) := by
  show _ ∨ (_ ∧ (match ρ[i]? with
    | some (some (.val (.dct kvs))) => (R.ok (kvs.map fun (kv : Key × PV) => kP kv.1) st : R (List PV))
    | _ => .bad) = .bad)
  cases e : ρ[i]? with
  | none => exact .inr ⟨fun _ z => (nomatch z), rfl⟩
  | some o =>
    cases o with
    | none => exact .inr ⟨fun _ z => (nomatch z), rfl⟩
    | some sl =>
      cases sl with
      | own v => exact .inr ⟨fun _ z => (nomatch z), rfl⟩
      | val v =>
        cases v with
        | dct dk =>
          refine .inl ⟨dk, rfl, ?_⟩
          show (match ρ[i]? with
            | some (some (.val (.dct kvs))) => (R.ok (kvs.map fun (kv : Key × PV) => kP kv.1) st : R (List PV))
            | _ => .bad) = _
          rw [e]
        | _ => exact .inr ⟨fun _ z => (nomatch z), rfl⟩
section
variable {X : Cx} {sc : Scope} {W : WX} {G : Ops} {fns : List (Str × Nat × Nat)}
/-- the context of a comprehension's own code -/
abbrev Blk (X : Cx) (scope : Scope) (P : Cx → Prop) : Prop := ∀ (s : Shared) (H : Hp) (C : Addr) (cl : List (Str × Addr)) (fp : List Addr), P (X.blk s H scope (compEnvC scope cl C X.env) fp)
theorem own_all {own : List Nat} {t : Tg} (h : t.slots.all own.contains = true) : ∀ i ∈ t.slots, i ∈ own := fun i hi => by
  have := List.all_eq_true.mp h i hi
  simpa using this
theorem snd_lc (g : Good X sc W G fns) {own : List Nat} {tg : Tg} {src : CS} {c : CO} {elt : CE} {e te it : Expr} {ifs : List Expr} {scope : Scope} {pos : Pos}
    (hb : blkC X.N sc scope (own.filterMap fun i => (X.N[i]?).map fun x => (x, i)) = true) (ho : own.all (fun i => decide (i < X.N.length)) = true) (hs : tg.slots.all own.contains = true) (ht : tgB X.N scope tg te = true) (hns : isSet it = false)
    (hsrc : (∀ i, src ≠ .keys i) → PIs X W G src te it) (hk : ∀ i, src = .keys i → PE X it (tVar i))
    (hc : Blk X scope fun Y => PTs Y ifs (tCo X.K X.mg W0 (evC G c))) (he : Blk X scope fun Y => PE Y e (tX X.K X.mg W0 (ev G elt false))) : Snd X W G (.lc own tg src c elt) (.ListComp e [⟨te, it, ifs, 0⟩] scope pos) := by
  have mk : ∀ {wi : TI}, PI X te it wi → PE X (.ListComp e [⟨te, it, ifs, 0⟩] scope pos) (tLc wi (tG X.K tg.put tg.slots) (tCo X.K X.mg W0 (evC G c)) (tX X.K X.mg W0 (ev G elt false)) own) := fun hi => by
    have hG : Blk X scope fun Y => PG Y te (tG X.K tg.put tg.slots) := fun s H C cl fp => pg_tg (g.blk s H scope C cl fp) ht
    have := pe_lc (pos := pos) g.calm g.nd hi (BlkOk.at g (blkOk_by hb)) hG hc he (noSet hns)
    rw [own_map ho] at this
    exact this
  refine Snd.no ?_ (fun _ _ => rfl) (by rintro ⟨_, _, _, z⟩; cases z)
  by_cases hkeys : ∃ i, src = .keys i
  · obtain ⟨i, rfl⟩ := hkeys
    have p := mk (pi_keys (hk i rfl))
    refine PE_imp (PE_or p (pe_lock p)) fun σ H Q h => ?_
    refine lock_read (W := W) (i := i) (src := ev G (.lc own tg (.keys i) c elt) false) (fun ρ st hb => ?_) (fun ρ st c1 fs st' => ?_) (fun H Q d od kvs hσ hd h => ?_) h
    · show (evS G (.keys i) ρ st).bind _ = _
      rcases keys_or (ρ := ρ) (G := G) (i := i) (st := st) with ⟨kvs, z, _⟩ | ⟨_, z⟩
      · exact absurd z (hb kvs)
      · rw [z]; rfl
    · show (evS G (.keys i) ρ st).bind _ ≠ _
      rcases keys_or (ρ := ρ) (G := G) (i := i) (st := st) with ⟨kvs, _, z⟩ | ⟨_, z⟩
      · rw [z]
        intro w
        have w : ((turns _ (kvs.map fun kv => kP kv.1) st).bind fun ys st => R.ok (PV.lst ys) st) = .exc c1 fs st' := w
        generalize eT : turns _ (kvs.map fun kv => kP kv.1) st = T at w
        cases T with
        | ok ys st2 => cases w
        | exc c2 f2 s2 => exact turns_nx _ _ _ _ _ _ eT
        | bad => cases w
      · rw [z]; intro w; cases w
    · obtain ⟨F, m, st, ρ, s, r, _, _, q⟩ := h
      exact lc_read (W := fun _ _ _ _ => True) (own_all hs) (fun R => keys_read hσ hd R) ⟨F, m, st, ρ, s, r, q⟩
  · exact PE_imp (mk (hsrc fun i z => hkeys ⟨i, z⟩)) fun σ H Q h => lc_read (own_all hs) (fun _ z => z) h
theorem snd_dc (g : Good X sc W G fns) {own : List Nat} {tg : Tg} {src : CS} {c : CO} {k v : CE} {e e' te it : Expr} {ifs : List Expr} {scope : Scope} {pos : Pos}
    (hb : blkC X.N sc scope (own.filterMap fun i => (X.N[i]?).map fun x => (x, i)) = true) (ho : own.all (fun i => decide (i < X.N.length)) = true) (hs : tg.slots.all own.contains = true) (ht : tgB X.N scope tg te = true) (hns : isSet it = false)
    (hsrc : (∀ i, src ≠ .keys i) → PIs X W G src te it) (hk : ∀ i, src = .keys i → PE X it (tVar i))
    (hc : Blk X scope fun Y => PTs Y ifs (tCo X.K X.mg W0 (evC G c))) (he : Blk X scope fun Y => PE Y e (tX X.K X.mg W0 (ev G k false))) (hv : Blk X scope fun Y => PE Y e' (tX X.K X.mg W0 (ev G v false))) : Snd X W G (.dc own tg src c k v) (.DictComp e e' [⟨te, it, ifs, 0⟩] scope pos) := by
  have mk : ∀ {wi : TI}, PI X te it wi → PE X (.DictComp e e' [⟨te, it, ifs, 0⟩] scope pos) (tDc wi (tG X.K tg.put tg.slots) (tCo X.K X.mg W0 (evC G c)) (tX X.K X.mg W0 (ev G k false)) (tX X.K X.mg W0 (ev G v false)) own) := fun hi => by
    have hG : Blk X scope fun Y => PG Y te (tG X.K tg.put tg.slots) := fun s H C cl fp => pg_tg (g.blk s H scope C cl fp) ht
    have := pe_dc (pos := pos) g.calm g.nd hi (BlkOk.at g (blkOk_by hb)) hG hc he hv (noSet hns)
    rw [own_map ho] at this
    exact this
  refine Snd.no ?_ (fun _ _ => rfl) (by rintro ⟨_, _, _, z⟩; cases z)
  have same : ∀ ρ st, ev G (.dc own tg src c k v) false ρ st = ((evS G src ρ st).bind fun xs st => (turnsD (dcTurn tg own ρ (evC G c) (ev G k false) (ev G v false)) xs [] st).bind fun kvs st => .ok (.dct kvs) st) := fun ρ st => rfl
  by_cases hkeys : ∃ i, src = .keys i
  · obtain ⟨i, rfl⟩ := hkeys
    have p := mk (pi_keys (hk i rfl))
    refine PE_imp (PE_or p (pe_lock p)) fun σ H Q h => ?_
    refine lock_read (W := W) (i := i) (src := ev G (.dc own tg (.keys i) c k v) false) (fun ρ st hb => ?_) (fun ρ st c1 fs st' => ?_) (fun H Q d od kvs hσ hd h => ?_) h
    · rw [same]
      rcases keys_or (ρ := ρ) (G := G) (i := i) (st := st) with ⟨kvs, z, _⟩ | ⟨_, z⟩
      · exact absurd z (hb kvs)
      · rw [z]; rfl
    · rw [same]
      rcases keys_or (ρ := ρ) (G := G) (i := i) (st := st) with ⟨kvs, _, z⟩ | ⟨_, z⟩
      · rw [z]
        intro w
        have w : ((turnsD (dcTurn tg own ρ (evC G c) (ev G k false) (ev G v false)) (kvs.map fun kv => kP kv.1) [] st).bind fun ys st => R.ok (PV.dct ys) st) = .exc c1 fs st' := w
        generalize eT : turnsD (dcTurn tg own ρ (evC G c) (ev G k false) (ev G v false)) (kvs.map fun kv => kP kv.1) [] st = T at w
        cases T with
        | ok ys st2 => cases w
        | exc c2 f2 s2 => exact turnsD_nx _ _ _ _ _ _ _ eT
        | bad => cases w
      · rw [z]; intro w; cases w
    · obtain ⟨F, m, st, ρ, s, r, _, _, q⟩ := h
      exact dc_read (W := fun _ _ _ _ => True) (own_all hs) (fun R => keys_read hσ hd R) ⟨F, m, st, ρ, s, r, q⟩
  · exact PE_imp (mk (hsrc fun i z => hkeys ⟨i, z⟩)) fun σ H Q h => dc_read (own_all hs) (fun _ z => z) h
/-! ### dict displays -/
def trsOf (K : PySem.W.Frag) (mg : Str → Option Value) (W : WX) (G : Ops) : CA → List (TE × TE)
  | .cons a (.cons b r) => (tX K mg W (ev G a false), tX K mg W (ev G b false)) :: trsOf K mg W G r
  | _ => []
/-- only pairs -/
def pairsC : CA → Bool
  | .nil => true
  | .cons a (.cons b r) => pairsC r
  | _ => false
theorem flatPs_append : ∀ (a b : List (V × V)), flatPs (a ++ b) = flatPs a ++ flatPs b
  | [], _ => rfl
  | (x, y) :: a, b => by
    show x :: y :: flatPs (a ++ b) = _
    rw [flatPs_append a b]
    rfl
theorem trs_go {K : PySem.W.Frag} {mg : Str → Option Value} {W : WX} {G : Ops} {σ : L2.St} {F0 : Hp} {m0 : List Addr} {H0 : Hp} {Q : V → Hp → Prop} {f : List PV → Store → R PV} : ∀ (es : CA) (done : List (V × V)) (dd : List PV) {F : Hp} {m : List Addr} {H : Hp} {st : Store} {ρ : Env} {Q' : List (V × V) → Hp → Prop}, pairsC es = true →
    Stp F0 m0 H0 F m H → SR K F m st H → ER K F m H σ ρ → RvL K F m (flatPs done) dd →
    Post K mg (fun c d H' => W c d σ H') F0 m0 H0 (AV K) ((evA G es ρ st).bind fun xs st => f (dd ++ xs) st) Q →
    (∀ F1 m1 H1 st1 ps ds, Stp F m H F1 m1 H1 → SR K F1 m1 st1 H1 → RvL K F1 m1 (flatPs (done ++ ps)) ds → Post K mg (fun c d H' => W c d σ H') F0 m0 H0 (AV K) (f ds st1) Q → Q' ps H1) → tPairs (trsOf K mg W G es) σ H Q'
  | .nil, done, dd, F, m, H, st, ρ, Q', _, s0, s, r, hd, q, k => by
    refine k F m H st [] dd .refl s (by rw [List.append_nil]; exact hd) ?_
    have q : Post K mg (fun c d H' => W c d σ H') F0 m0 H0 (AV K) (f (dd ++ []) st) Q := q
    rw [List.append_nil] at q
    exact q
  | .cons a (.cons b es), done, dd, F, m, H, st, ρ, Q', hp, s0, s, r, hd, q, k => by
    have hp : pairsC es = true := hp
    refine ⟨F, m, st, ρ, s, r, ?_⟩
    have q : Post K mg (fun c d H' => W c d σ H') F0 m0 H0 (AV K) (((ev G a false ρ st).bind fun x st => (((ev G b false ρ st).bind fun y st => (evA G es ρ st).bind fun xs st => .ok (y :: xs) st).bind fun xs st => .ok (x :: xs) st)).bind fun xs st => f (dd ++ xs) st) Q := q
    rw [R.assoc] at q
    refine Post.bindB s0 q fun x st1 F1 m1 H1 v s1 r1 hv q1 => ⟨F1, m1, st1, ρ, r1, r.step s1, ?_⟩
    rw [R.assoc, R.assoc] at q1
    refine Post.bindB (s0.trans s1) q1 fun y st2 F2 m2 H2 u s2 r2 hu q2 => ?_
    refine trs_go (f := f) (Q := Q) es (done ++ [(v, u)]) (dd ++ [x, y]) hp ((s0.trans s1).trans s2) r2 ((r.step s1).step s2) ?_ ?_ fun F3 m3 H3 st3 ps ds s3 r3 hq q3 => ?_
    · rw [flatPs_append]
      exact (s2.rvl (s1.rvl hd)).append (.cons (s2.rv hv) (.cons hu .nil))
    · rw [R.assoc] at q2
      have e : ((evA G es ρ st2).bind fun xs st => f ((dd ++ [x, y]) ++ xs) st) = ((evA G es ρ st2).bind fun x_1 st => ((R.ok (y :: x_1) st).bind fun x_2 st => (R.ok (x :: x_2) st).bind fun xs st => f (dd ++ xs) st)) := by
        refine congrArg _ (funext fun xs => funext fun st => ?_)
        show f ((dd ++ [x, y]) ++ xs) st = f (dd ++ (x :: y :: xs)) st
        rw [List.append_assoc]
        rfl
      rw [e]
      exact q2
    · exact k F3 m3 H3 st3 _ ds ((s1.trans s2).trans s3) r3 (by rw [List.append_assoc] at hq; exact hq) q3
  | .cons a .nil, _, _, _, _, _, _, _, _, hp, _, _, _, _, _, _ => by cases hp
  | .cons a (.star b r), _, _, _, _, _, _, _, _, hp, _, _, _, _, _, _ => by cases hp
  | .star a r, _, _, _, _, _, _, _, _, hp, _, _, _, _, _, _ => by cases hp
theorem pps_of {X : Cx} {W : WX} {G : Ops} {pos : Pos} : True := trivial
theorem snd_dsp0 {pos : Pos} : Snd X W G (.dsp .nil) (.Dict [] [] pos) := by
  refine Snd.no (PE_imp pe_dnewK fun σ H Q ⟨F, m, st, ρ, s, r, q⟩ p hp => ?_) (fun _ _ => rfl) (by rintro ⟨_, _, _, z⟩; cases z)
  have q : Post X.K X.mg (fun c d H' => W c d σ H') F m H (AV X.K) (.ok (.dct []) st) Q := q
  exact q _ _ _ _ (.alloc s.sub hp) (s.alloc hp) (.dct upd_same .nil (Nat.zero_le _))
theorem snd_dsp {es : CA} {ks : List (Option Expr)} {vs : List Expr} {pos : Pos} (h0 : ks ≠ []) (h15 : ks.length ≤ 15) (hl : ks.length = vs.length) (hall : ks.all (·.isSome) = true) (hp : pairsC es = true) (hP : PPs X pos ks vs (trsOf X.K X.mg W G es)) : Snd X W G (.dsp es) (.Dict ks vs pos) := by
  refine Snd.no (PE_imp (pe_disp hP hall hl h0 h15) fun σ H Q ⟨F, m, st, ρ, s, r, q⟩ p hn => ?_) (fun _ _ => rfl) (by rintro ⟨_, _, _, z⟩; cases z)
  have q : Post X.K X.mg (fun c d H' => W c d σ H') F m H (AV X.K) ((evA G es ρ st).bind fun xs st => match kvPairs xs with
    | some kvs => if kvs.length ≤ 15 then .ok (.dct (dmerge [] kvs)) st else .bad
    | none => .bad) Q := q
  have hF := s.sub.no hn
  have hm := s.notin hn
  have sl : Stp F m H F m (upd H p (.dK [])) := .lay hn
  refine trs_go (f := fun xs st => match kvPairs xs with
    | some kvs => if kvs.length ≤ 15 then .ok (.dct (dmerge [] kvs)) st else .bad
    | none => .bad) es [] [] hp sl (s.lay hn) (r.step sl) .nil q fun F1 m1 H1 st1 ps ds s1 r1 hq q1 => ?_
  have own := s1.own1 ⟨hF, hm, upd_same⟩
  refine ⟨own.2.2, ?_⟩
  cases ek : kvPairs ds with
  | none => rw [ek] at q1; exact q1.elim
  | some kvs =>
    rw [ek] at q1
    simp only at q1
    split at q1
    · rename_i h
      obtain ⟨kk, e1, rk⟩ := kv_read hq ek
      refine ⟨kk, e1, by rw [rk.length]; exact h, ?_⟩
      have s2 : Stp F m H F1 m1 (upd H1 p (.dK (mergeK [] kk))) := (sl.trans s1).write (.none hn)
      refine q1 _ _ _ _ (s2.freeze (.none hn) own.1) ((r1.write own.1 own.2.1 (.dK own.2.2)).freeze own.1 upd_same own.2.1) (.dct upd_same ((RvD.merge rk .nil).mono (le_upd own.1) .refl) ?_)
      have := dmerge_len kvs []
      rw [List.length_nil] at this
      refine Nat.le_trans this ?_
      unfold big
      omega
    · exact q1.elim
/-! ### arguments -/
theorem po_no : PO X none (tOp' X.K X.mg W (evO G .no)) := PO_imp po_none fun σ H Q ⟨F, m, st, ρ, s, r, q⟩ => q F m H none .refl s rfl
theorem po_some' {a : CE} {e : Expr} (h : Snd X W G a e) : PO X (some e) (tOp' X.K X.mg W (evO G (.some a))) := by
  refine PO_imp (po_some h.pe) fun σ H Q ⟨F, m, st, ρ, s, r, q⟩ => ⟨F, m, st, ρ, s, r, ?_⟩
  have q : Post X.K X.mg (fun c d H' => W c d σ H') F m H (fun _ _ _ a b => a = b) ((ev G a false ρ st).bind fun x st => match x with
    | .int i => .ok (some i) st
    | _ => .bad) Q := q
  refine Post.bind q fun d st1 _ F1 m1 H1 v s1 r1 hv q1 => ?_
  cases hv with
  | int i => exact ⟨i, rfl, q1 _ _ _ _ .refl r1 rfl⟩
  | _ => exact q1.elim
theorem pa_no : PA X [] (tA X.K X.mg W (evA G .nil)) := PA_imp pa_nil fun σ H Q ⟨F, m, st, ρ, s, r, q⟩ => q F m H [] .refl s .nil
theorem pa_more {a : CE} {r : CA} {e : Expr} {es : List Expr} (h1 : notStar e = true) (ha : Snd X W G a e) (hr : PA X es (tA X.K X.mg W (evA G r))) : PA X (e :: es) (tA X.K X.mg W (evA G (.cons a r))) := by
  refine PA_imp (pa_cons ha.pe hr (starEach_cons es X.env h1)) fun σ H Q ⟨F, m, st, ρ, s, r', q⟩ => ⟨F, m, st, ρ, s, r', ?_⟩
  have q : Post X.K X.mg (fun c d H' => W c d σ H') F m H (AL X.K) ((ev G a false ρ st).bind fun x st => (evA G r ρ st).bind fun xs st => .ok (x :: xs) st) Q := q
  refine Post.bind q fun d st1 _ F1 m1 H1 v s1 r1 hv q1 => ⟨F1, m1, st1, ρ, r1, r'.step s1, Post.bind q1 fun ds st2 _ F2 m2 H2 vs s2 r2 hvs q2 => ?_⟩
  exact q2 _ _ _ _ .refl r2 (.cons (s2.rv hv) hvs)
theorem pa_starred {a : CE} {r : CA} {e : Expr} {p : Pos} {es : List Expr} (ha : PEw X W G a e) (hr : PA X es (tA X.K X.mg W (evA G r))) : PA X (.Starred e p :: es) (tA X.K X.mg W (evA G (.star a r))) := by
  refine PA_imp (StX.pa_star ha hr) fun σ H Q ⟨F, m, st, ρ, s, r', q⟩ => ⟨F, m, st, ρ, s, r', ?_⟩
  have q : Post X.K X.mg (fun c d H' => W c d σ H') F m H (AL X.K) ((vw a ρ st (ev G a false ρ st)).bind fun x st => match iterP x with
    | some ys => (evA G r ρ st).bind fun xs st => .ok (ys ++ xs) st
    | none => .bad) Q := q
  refine Post.bind q fun d st1 _ F1 m1 H1 v s1 r1 hv q1 => ?_
  cases ed : iterP d with
  | none => rw [ed] at q1; exact q1.elim
  | some ys =>
    rw [ed] at q1
    have any : ∀ (a' : Addr) (vs : List V), v = .ref a' → (SqT X.K H1 a' vs ∨ SqL X.K H1 a' vs) → RvL X.K F1 m1 vs ys → ∃ p xs, v = V.ref p ∧ (SqT X.K H1 p xs ∨ SqL X.K H1 p xs) ∧ tA X.K X.mg W (evA G r) σ H1 fun ys H2 => Q (xs ++ ys) H2 := fun a' vs e1 e2 e3 =>
      ⟨a', vs, e1, e2, F1, m1, st1, ρ, r1, r'.step s1, Post.bind q1 fun ds st2 _ F2 m2 H2 us s2 r2 hus q2 => q2 _ _ _ _ .refl r2 ((s2.rvl e3).append hus)⟩
    cases d with
    | lst zs =>
      cases ed
      obtain ⟨a', vs, e1, e2, e3, _⟩ := hv.lst r1.sub
      exact any a' vs e1 (.inr e2) e3
    | tup zs =>
      cases ed
      obtain ⟨a', vs, e1, e2, e3, _⟩ := hv.tup r1.sub
      exact any a' vs e1 (.inl e2) e3
    | _ => cases ed
/-! ### dict(zip(..)) -/
theorem rvd_zip {K : PySem.W.Frag} {F : Hp} {m : List Addr} : ∀ {ss : List Str} {us : List V} {ys : List PV}, RvL K F m us ys → RvD K F m ((ss.map Sum.inr).zip us) ((ss.map Sum.inr).zip ys)
  | [], _, _, _ => .nil
  | s :: ss, _, _, .nil => .nil
  | s :: ss, _, _, .cons h r => .cons h (rvd_zip r)
theorem snd_zipDict (g : Good X sc W G fns) {a b : CE} {x y : Str} {e e' : Expr} {p p2 pos pos2 : Pos} (hx : x = "dict") (hy : y = "zip") (gx : glB sc x = true) (gy : glB sc y = true) (h1 : notStar e = true) (h2 : notStar e' = true) (ha : PEw X W G a e) (hb : PEw X W G b e') : Snd X W G (.b2 .zipDict a b) (.Call (.Name x p) [.Call (.Name y p2) [e, e'] [] pos2] [] pos) := by
  subst hx hy
  refine Snd.val (PE_imp (pe_zipDict g.calm (g.gl _ (glB_ok gx)) (g.free "dict" (by decide +kernel)) (g.gl _ (glB_ok gy)) (g.free "zip" (by decide +kernel)) (pa_cons ha (pa1 h2 hb) (starEach_cons [e'] X.env h1)) (starEach_cons [e'] X.env h1) (backTo_none pos2 X.env (by simp [h2]))) fun σ H Q ⟨F, m, st, ρ, s, r, q⟩ => ⟨F, m, st, ρ, s, r, ?_⟩) (fun _ => rfl) (fun ρ st => ?_) (by rintro ⟨_, _, _, z⟩; cases z)
  · have q : Post X.K X.mg (fun c d H' => W c d σ H') F m H (AV X.K) ((vw a ρ st (ev G a false ρ st)).bind fun x st => (vw b ρ st (ev G b false ρ st)).bind fun y st => match b2P .zipDict x y with
      | some v => fin false v st
      | none => .bad) Q := q
    refine Post.bind q fun d st1 _ F1 m1 H1 v s1 r1 hv q1 => ⟨F1, m1, st1, ρ, r1, r.step s1, Post.bind q1 fun d2 st2 _ F2 m2 H2 u s2 r2 hu q2 => ?_⟩
    cases d with
    | lst ds =>
      cases d2 with
      | tup ys =>
        obtain ⟨a', vs, rfl, j1, k1, l1⟩ := (s2.rvw hv).lst r2.sub
        obtain ⟨b', us, rfl, j2, k2, l2⟩ := hu.tup r2.sub
        have q2 : Post X.K X.mg (fun c d H' => W c d σ H') F2 m2 H2 (AV X.K) (match (match strsP ds with
          | some ss => some (.dct (dmerge [] ((ss.map Sum.inr).zip ys)))
          | none => none : Option PV) with
          | some v => fin false v st2
          | none => .bad) Q := q2
        cases es : strsP ds with
        | none => rw [es] at q2; exact q2.elim
        | some ss =>
          rw [es] at q2
          have ev := k1.strsP es
          subst ev
          refine ⟨a', b', ss, us, rfl, j1, j2, fun p hp => q2 _ _ _ _ (.alloc r2.sub hp) (r2.alloc hp) (.dct upd_same ((RvD.merge (rvd_zip k2) .nil).mono (le_upd (r2.sub.no hp)) .refl) ?_)⟩
          have h3 := dmerge_len ((ss.map Sum.inr).zip ys) []
          rw [List.length_nil, Nat.zero_add, List.length_zip] at h3
          omega
      | _ => exact q2.elim
    | _ => exact q2.elim
  · show (vw a ρ st (ev G a false ρ st)).bind _ = ((vw a ρ st (ev G a false ρ st)).bind _).bind _
    rw [R.assoc]
    refine congrArg _ (funext fun x => funext fun st => ?_)
    rw [R.assoc]
    refine congrArg _ (funext fun y => funext fun st => ?_)
    cases b2P .zipDict x y <;> rfl
theorem perm_both : ∀ {l k : List Str}, l.Nodup → k.Nodup → (∀ x, x ∈ k ↔ x ∈ l) → k.Perm l
  | [], k, _, _, hm => by
    cases k with
    | nil => exact .nil
    | cons y r => exact absurd ((hm y).mp List.mem_cons_self) (by simp)
  | x :: r, k, d, dk, hm => by
    obtain ⟨d1, d2⟩ := List.nodup_cons.mp d
    have hx : x ∈ k := (hm x).mpr List.mem_cons_self
    refine (List.perm_cons_erase hx).trans (List.Perm.cons x (perm_both d2 (dk.erase x) fun y => ?_))
    rw [dk.mem_erase_iff]
    constructor
    · rintro ⟨n, h⟩
      rcases List.mem_cons.mp ((hm y).mp h) with q | q
      · exact absurd q n
      · exact q
    · intro h
      exact ⟨fun z => d1 (z ▸ h), (hm y).mpr (List.mem_cons_of_mem _ h)⟩
theorem rvl_strs {K : PySem.W.Frag} {F : Hp} {m : List Addr} : ∀ zs : List Str, RvL K F m (zs.map V.str) (zs.map PV.str)
  | [] => .nil
  | z :: zs => .cons (.str z) (rvl_strs zs)
theorem nodup_once : ∀ (n : Nat) (l : List Str), l.length = n → l.eraseDups.Nodup := by
  intro n
  induction n using Nat.strongRecOn with
  | _ n ih =>
    intro l hl
    cases l with
    | nil => exact List.nodup_nil
    | cons x r =>
      rw [List.eraseDups_cons]
      have le := List.length_filter_le (fun b => !b == x) r
      have hl : r.length + 1 = n := hl
      refine List.nodup_cons.mpr ⟨fun h => ?_, ih _ (by omega) _ rfl⟩
      have h2 := (List.mem_filter.mp (List.mem_eraseDups.mp h)).2
      simp at h2
theorem snd_setSorted (g : Good X sc W G fns) {a : CE} {x y : Str} {e : Expr} {p p2 pos pos2 : Pos} (hx : x = "sorted") (hy : y = "set") (gx : glB sc x = true) (gy : glB sc y = true) (h1 : notStar e = true) (ha : PEw X W G a e) : Snd X W G (.b1 .setSorted a) (.Call (.Name x p) [.Call (.Name y p2) [e] [] pos2] [] pos) := by
  subst hx hy
  refine Snd.val (PE_imp (pe_setSorted g.calm (g.gl _ (glB_ok gx)) (g.free "sorted" (by decide +kernel)) (g.gl _ (glB_ok gy)) (g.free "set" (by decide +kernel)) (pa1 h1 ha) (starEach_cons [] X.env h1)) fun σ H Q ⟨F, m, st, ρ, s, r, q⟩ => ⟨F, m, st, ρ, s, r, ?_⟩) (fun _ => rfl) (fun ρ st => ?_) (by rintro ⟨_, _, _, z⟩; cases z)
  · have q : Post X.K X.mg (fun c d H' => W c d σ H') F m H (AV X.K) ((vw a ρ st (ev G a false ρ st)).bind fun x st => match b1P .setSorted x with
      | some v => fin false v st
      | none => .bad) Q := q
    refine Post.bind q fun d st1 _ F1 m1 H1 v s1 r1 hv q1 => ?_
    cases d with
    | lst ds =>
      obtain ⟨a', vs, rfl, j1, k1, l1⟩ := hv.lst r1.sub
      have q1 : Post X.K X.mg (fun c d H' => W c d σ H') F1 m1 H1 (AV X.K) (match (match strsP ds with
        | some ss => if ss.length < 64 then some (.lst ((sortS ss.eraseDups).map .str)) else none
        | none => none : Option PV) with
        | some v => fin false v st1
        | none => .bad) Q := q1
      cases es : strsP ds with
      | none => rw [es] at q1; exact q1.elim
      | some ss =>
        rw [es] at q1
        by_cases h64 : ss.length < 64
        · simp only [h64, ↓reduceIte] at q1
          have ev := k1.strsP es
          subst ev
          refine ⟨a', ss, rfl, j1, h64, fun p zs hp nd mem len hs => ?_⟩
          have ez : zs = sortS ss.eraseDups := sortS_one (perm_both (nodup_once _ ss rfl) nd fun x => by rw [List.mem_eraseDups]; exact mem x) hs
          rw [← ez] at q1
          refine q1 _ _ _ _ (.alloc r1.sub hp) (r1.alloc hp) (.lst (.of upd_same) (rvl_strs zs) ?_)
          rw [List.length_map]
          exact Nat.le_trans (Nat.le_of_lt (Nat.lt_of_le_of_lt len h64)) (by decide)
        · simp only [h64, ↓reduceIte] at q1
          exact q1.elim
    | _ => exact q1.elim
  · show (vw a ρ st (ev G a false ρ st)).bind _ = ((vw a ρ st (ev G a false ρ st)).bind _).bind _
    rw [R.assoc]
    refine congrArg _ (funext fun x => funext fun st => ?_)
    cases b1P .setSorted x <;> rfl
end
end PC
set_option linter.all false
set_option maxRecDepth 100000
set_option maxHeartbeats 4000000
set_option autoImplicit false
/-! PC, part p: every expression that the checker lets through. -/
namespace PC
open PySem PySem.Spec PyProof.Rows L2
theorem not_ok {b : Bool} (h : (!b) = true) : b = false := by cases b <;> first | rfl | cases h
theorem evA_len {N : List Str} {fns : List (Str × Nat × Nat)} {G : Ops} {ρ : Env} : ∀ (es : CA) {sc : Scope} {xs : List Expr} {st st' : Store} {ys : List PV}, okA N fns es sc xs = true → xs.all notStar = true → evA G es ρ st = .ok ys st' → ys.length = xs.length
  | .nil, sc, [], st, st', ys, _, _, h => by cases h; rfl
  | .nil, sc, _ :: _, st, st', ys, h, _, _ => by cases h
  | .cons a r, sc, [], st, st', ys, h, _, _ => by cases h
  | .cons a r, sc, e :: es, st, st', ys, hk, hs, h => by
    rw [List.all_cons] at hs
    have hk : (notStar e && (okE N fns a sc e && okA N fns r sc es)) = true := hk
    have h : ((ev G a false ρ st).bind fun x st => (evA G r ρ st).bind fun xs st => .ok (x :: xs) st) = .ok ys st' := h
    cases e1 : ev G a false ρ st with
    | ok x st1 =>
      rw [e1] at h
      have h : ((evA G r ρ st1).bind fun xs st => R.ok (x :: xs) st) = .ok ys st' := h
      cases e2 : evA G r ρ st1 with
      | ok xs st2 =>
        rw [e2] at h
        cases h
        rw [List.length_cons, List.length_cons, evA_len r (and_ok (and_ok hk).2).2 (and_ok hs).2 e2]
      | exc => rw [e2] at h; cases h
      | bad => rw [e2] at h; cases h
    | exc => rw [e1] at h; cases h
    | bad => rw [e1] at h; cases h
  | .star a r, sc, [], st, st', ys, h, _, _ => by cases h
  | .star a r, sc, e :: es, st, st', ys, hk, hs, h => by
    cases e with
    | Starred e p =>
      rw [List.all_cons] at hs
      cases (and_ok hs).1
    | _ => cases hk
theorem lookOf {X : Cx} {sc : Scope} {W : WX} {G : Ops} {fns : List (Str × Nat × Nat)} {c : CE} {e : Expr} (g : Good X sc W G fns) (h : okE X.N fns c sc e = true) (s : Snd X W G c e) : PEw X W G c e := by
  refine pe_look (fun i z => ?_) s.pe
  subst z
  cases e with
  | Name x p => exact ⟨x, p, rfl, pe_name g h⟩
  | _ => cases h
mutual
theorem sndE {fns : List (Str × Nat × Nat)} : ∀ (c : CE) {X : Cx} {sc : Scope} {W : WX} {G : Ops} {e : Expr}, Good X sc W G fns → okE X.N fns c sc e = true → Snd X W G c e
  | .var i, X, sc, W, G, e, g, h => by
    cases e with
    | Name x p => exact snd_var g h
    | _ => cases h
  | .con v, X, sc, W, G, e, g, h => by
    cases e with
    | Constant c j p => exact snd_con h
    | _ => cases h
  | .tup es, X, sc, W, G, e, g, h => by
    cases e with
    | Tuple xs k p => exact snd_tup (sndA es g h)
    | _ => cases h
  | .lst es, X, sc, W, G, e, g, h => by
    cases e with
    | List xs p => exact snd_lst (sndA es g h)
    | _ => cases h
  | .dsp es, X, sc, W, G, e, g, h => by
    cases e with
    | Dict ks vs p =>
      obtain ⟨h1, h2⟩ := and_ok h
      obtain ⟨q1, q2, q3, q4⟩ := sndD es g h2
      cases ks with
      | nil =>
        cases vs with
        | nil =>
          cases es with
          | nil => exact snd_dsp0
          | cons a r => cases r <;> cases h2
          | star a r => cases h2
        | cons _ _ => cases q2
      | cons k ks => exact snd_dsp (List.cons_ne_nil _ _) (of_decide_eq_true h1) q2 q3 q4 (q1 p)
    | _ => cases h
  | .bin op a b, X, sc, W, G, e, g, h => by
    cases e with
    | BinOp x o y p =>
      obtain ⟨h1, h2⟩ := and_ok h
      obtain ⟨h2, h3⟩ := and_ok h2
      cases (of_decide_eq_true h1 : op = o)
      exact snd_bin (lookOf g h2 (sndE a g h2)) (lookOf g h3 (sndE b g h3))
    | _ => cases h
  | .cmp op a b, X, sc, W, G, e, g, h => by
    cases e with
    | Compare x os ys p =>
      match os, ys, h with
      | [o], [y], h =>
        obtain ⟨h1, h2⟩ := and_ok h
        obtain ⟨h2, h3⟩ := and_ok h2
        obtain ⟨h3, h4⟩ := and_ok h3
        cases (of_decide_eq_true h1 : op = o)
        exact snd_cmp g (not_ok h2) (lookOf g h3 (sndE a g h3)) (lookOf g h4 (sndE b g h4))
      | [], _, h => cases h
      | _ :: _ :: _, _, h => cases h
      | [_], [], h => cases h
      | [_], _ :: _ :: _, h => cases h
    | _ => cases h
  | .neg a, X, sc, W, G, e, g, h => by
    cases e with
    | UnaryOp o x p =>
      cases o with
      | USub => exact snd_neg (sndE a g h)
      | _ => cases h
    | _ => cases h
  | .not a, X, sc, W, G, e, g, h => by
    cases e with
    | UnaryOp o x p =>
      cases o with
      | Not => exact snd_not (sndE a g h)
      | _ => cases h
    | _ => cases h
  | .and a b, X, sc, W, G, e, g, h => by
    cases e with
    | BoolOp o vs p =>
      cases o with
      | And =>
        match vs, h with
        | [x, y], h =>
          obtain ⟨h1, h2⟩ := and_ok h
          have sa := sndE a g h1
          have sb := sndE b g h2
          have pw := and_pw (p := p) sa (pw_and1 sb.pt)
          exact ⟨and_pe sa (pe_one sb.pe), pw.pt, fun _ => pw⟩
        | x :: y :: z :: r, h =>
          obtain ⟨h1, h2⟩ := and_ok h
          have sa := sndE a g h1
          have sb := sndE b g h2
          have pw := and_pw (p := p) sa (sb.pw ⟨_, _, _, rfl⟩)
          exact ⟨and_pe sa sb.pe, pw.pt, fun _ => pw⟩
        | [], h => cases h
        | [_], h => cases h
      | _ => cases h
    | _ => cases h
  | .or a b, X, sc, W, G, e, g, h => by
    cases e with
    | BoolOp o vs p =>
      cases o with
      | Or =>
        match vs, h with
        | [x, y], h =>
          obtain ⟨h1, h2⟩ := and_ok h
          have sa := sndE a g h1
          have sb := sndE b g h2
          have pw := or_pw (p := p) sa (pw_or1 sb.pt)
          exact ⟨or_pe sa (pe_one sb.pe), pw.pt, fun _ => pw⟩
        | x :: y :: z :: r, h =>
          obtain ⟨h1, h2⟩ := and_ok h
          have sa := sndE a g h1
          have sb := sndE b g h2
          have pw := or_pw (p := p) sa (sb.pw ⟨_, _, _, rfl⟩)
          exact ⟨or_pe sa sb.pe, pw.pt, fun _ => pw⟩
        | [], h => cases h
        | [_], h => cases h
      | _ => cases h
    | _ => cases h
  | .ifx c a b, X, sc, W, G, e, g, h => by
    cases e with
    | IfExp x y z p =>
      obtain ⟨h1, h2⟩ := and_ok h
      obtain ⟨h2, h3⟩ := and_ok h2
      exact snd_ifx (sndE c g h1) (sndE a g h2) (sndE b g h3)
    | _ => cases h
  | .sub a i, X, sc, W, G, e, g, h => by
    cases e with
    | Subscript x y p =>
      obtain ⟨h1, h2⟩ := and_ok (show (!isSlice y && (okE X.N fns a sc x && okE X.N fns i sc y)) = true from h)
      obtain ⟨h2, h3⟩ := and_ok h2
      exact snd_sub g (not_ok h1) (lookOf g h2 (sndE a g h2)) (sndE i g h3)
    | _ => cases h
  | .slc a lo hi, X, sc, W, G, e, g, h => by
    cases e with
    | Subscript x y p =>
      cases y with
      | Slice l u s p2 =>
        cases s with
        | none =>
          obtain ⟨h1, h2⟩ := and_ok h
          obtain ⟨h2, h3⟩ := and_ok h2
          exact snd_slc (lookOf g h1 (sndE a g h1)) (sndO lo g h2) (sndO hi g h3)
        | some _ => cases h
      | _ => cases h
    | _ => cases h
  | .call f es, X, sc, W, G, e, g, h => by
    cases e with
    | Call fn args kws pos =>
      cases fn with
      | Name x p =>
        match args, kws, h with
        | e :: xs, [], h =>
          obtain ⟨h1, h2⟩ := and_ok h
          obtain ⟨k1, k2⟩ := and_ok h1
          obtain ⟨h2, h3⟩ := and_ok h2
          obtain ⟨n1, n2⟩ := and_ok h2
          obtain ⟨n2, n3⟩ := and_ok n2
          obtain ⟨h3, h4⟩ := and_ok h3
          exact snd_call g (of_decide_eq_true k1) k2 n1 n2 n3 h3 (sndA es g h4) fun ρ st ys st' q => evA_len es h4 (by rw [List.all_cons, n2, n3]; rfl) q
        | [], _, h => cases h
        | _ :: _, _ :: _, h => cases h
      | _ => cases h
    | _ => cases h
  | .b1 f a, X, sc, W, G, e, g, h => by
    cases e with
    | Call fn args kws pos =>
      cases fn with
      | Name x p =>
        match args, kws, h with
        | [e], [], h =>
          have h : (((decide (x = f.name) && (f.fn.isSome && glB sc x)) && (notStar e && okE X.N fns a sc e)) || (match oneArg e with
            | some (y, e') => ((decide (x = "sorted" ∧ y = "set") && glB sc x) && (glB sc y && f.isSS)) && (notStar e' && okE X.N fns a sc e')
            | none => false)) = true := h
          rcases Bool.or_eq_true_iff.mp h with hL | hR
          · obtain ⟨h1, h2⟩ := and_ok hL
            obtain ⟨k1, k2⟩ := and_ok h1
            obtain ⟨k2, k3⟩ := and_ok k2
            obtain ⟨h2, h3⟩ := and_ok h2
            exact snd_b1 g (of_decide_eq_true k1) k2 k3 h2 (lookOf g h3 (sndE a g h3))
          · cases ez : oneArg e with
            | none => rw [ez] at hR; cases hR
            | some t =>
              obtain ⟨y, e'⟩ := t
              rw [ez] at hR
              obtain ⟨p2, pos2, rfl⟩ := oneArg_ok ez
              obtain ⟨h1, h2⟩ := and_ok hR
              obtain ⟨k1, k2⟩ := and_ok h1
              obtain ⟨k1, k3⟩ := and_ok k1
              obtain ⟨k5, k4⟩ := and_ok k2
              obtain ⟨n1, h3⟩ := and_ok h2
              have ef := B1.isSS_ok k4
              subst ef
              exact snd_setSorted g (of_decide_eq_true k1).1 (of_decide_eq_true k1).2 k3 k5 n1 (lookOf g h3 (sndE a g h3))
        | [], _, h => cases h
        | _ :: _ :: _, _, h => cases h
        | [_], _ :: _, h => cases h
      | _ => cases h
    | _ => cases h
  | .b2 f a b, X, sc, W, G, e, g, h => by
    cases f with
    | max =>
      cases e with
      | Call fn args kws pos =>
        cases fn with
        | Name x p =>
          match args, kws, h with
          | [e, e'], [], h =>
            obtain ⟨h1, h2⟩ := and_ok h
            obtain ⟨k1, k2⟩ := and_ok h1
            obtain ⟨h2, h3⟩ := and_ok h2
            obtain ⟨n1, n2⟩ := and_ok h2
            obtain ⟨h3, h4⟩ := and_ok h3
            exact snd_max g (of_decide_eq_true k1) k2 n1 n2 (lookOf g h3 (sndE a g h3)) (lookOf g h4 (sndE b g h4))
          | [], _, h => cases h
          | [_], _, h => cases h
          | _ :: _ :: _ :: _, _, h => cases h
          | [_, _], _ :: _, h => cases h
        | _ => cases h
      | _ => cases h
    | zipDict =>
      cases e with
      | Call fn args kws pos =>
        cases fn with
        | Name x p =>
          match args, kws, h with
          | [z], [], h =>
            have h : (match zipArgs z with
              | some (y, e, e') => ((decide (x = "dict" ∧ y = "zip") && glB sc x) && glB sc y) && ((notStar e && notStar e') && (okE X.N fns a sc e && okE X.N fns b sc e'))
              | none => false) = true := h
            cases ez : zipArgs z with
            | none => rw [ez] at h; cases h
            | some t =>
              obtain ⟨y, e, e'⟩ := t
              rw [ez] at h
              obtain ⟨p2, pos2, rfl⟩ := zipArgs_ok ez
              obtain ⟨h1, h2⟩ := and_ok h
              obtain ⟨k1, k2⟩ := and_ok h1
              obtain ⟨k1, k3⟩ := and_ok k1
              obtain ⟨h2, h3⟩ := and_ok h2
              obtain ⟨n1, n2⟩ := and_ok h2
              obtain ⟨h3, h4⟩ := and_ok h3
              exact snd_zipDict g (of_decide_eq_true k1).1 (of_decide_eq_true k1).2 k3 k2 n1 n2 (lookOf g h3 (sndE a g h3)) (lookOf g h4 (sndE b g h4))
          | [], _, h => cases h
          | _ :: _ :: _, _, h => cases h
          | [_], _ :: _, h => cases h
        | _ => cases h
      | _ => cases h
  | .isi a ts, X, sc, W, G, e, g, h => by
    cases e with
    | Call fn args kws pos =>
      cases fn with
      | Name x p =>
        match args, kws, h with
        | [e, t], [], h =>
          obtain ⟨h1, h2⟩ := and_ok h
          obtain ⟨k1, k2⟩ := and_ok h1
          obtain ⟨h2, h3⟩ := and_ok h2
          obtain ⟨n1, n2⟩ := and_ok h2
          obtain ⟨h3, h4⟩ := and_ok h3
          exact snd_isi g (of_decide_eq_true k1) k2 n1 n2 (lookOf g h3 (sndE a g h3)) h4
        | [], _, h => cases h
        | [_], _, h => cases h
        | _ :: _ :: _ :: _, _, h => cases h
        | [_, _], _ :: _, h => cases h
      | _ => cases h
    | _ => cases h
  | .get2 o k d, X, sc, W, G, e, g, h => by
    cases e with
    | Call fn args kws pos =>
      cases fn with
      | Attribute x nm apos =>
        match args, kws, h with
        | [e, e'], [], h =>
          obtain ⟨h1, h2⟩ := and_ok h
          obtain ⟨k1, k2⟩ := and_ok h1
          obtain ⟨k2, k3⟩ := and_ok k2
          obtain ⟨h2, h3⟩ := and_ok h2
          obtain ⟨n1, n2⟩ := and_ok h2
          obtain ⟨h3, h4⟩ := and_ok h3
          obtain ⟨h4, h5⟩ := and_ok h4
          exact snd_get2 g (of_decide_eq_true k1) (not_ok k2) (of_decide_eq_true k3) n1 n2 (lookOf g h3 (sndE o g h3)) (sndE k g h4) (sndE d g h5)
        | [], _, h => cases h
        | [_], _, h => cases h
        | _ :: _ :: _ :: _, _, h => cases h
        | [_, _], _ :: _, h => cases h
      | _ => cases h
    | _ => cases h
  | .lc own tg src c elt, X, sc, W, G, e, g, h => by
    cases e with
    | ListComp e gens scope pos =>
      match gens, h with
      | [⟨te, it, ifs, z⟩], h =>
        obtain ⟨hz, h0⟩ := and_ok h
        cases (of_decide_eq_true hz : z = 0)
        obtain ⟨h1, h2⟩ := and_ok h0
        obtain ⟨h2, h3⟩ := and_ok h2
        obtain ⟨k1, k2⟩ := and_ok h2
        obtain ⟨k2, k3⟩ := and_ok k2
        obtain ⟨h3, h4⟩ := and_ok h3
        obtain ⟨n1, n2⟩ := and_ok h3
        obtain ⟨h4, h5⟩ := and_ok h4
        exact snd_lc g h1 k1 k2 k3 (not_ok n1) (sndS src g n2).1 (sndS src g n2).2 (fun s H C cl fp => sndC c (g.blk s H scope C cl fp) h4) (fun s H C cl fp => (sndE elt (g.blk s H scope C cl fp) h5).pe)
      | [], h => cases h
      | ⟨_, _, _, _⟩ :: _ :: _, h => cases h
    | _ => cases h
  | .dc own tg src c k v, X, sc, W, G, e, g, h => by
    cases e with
    | DictComp e e' gens scope pos =>
      match gens, h with
      | [⟨te, it, ifs, z⟩], h =>
        obtain ⟨hz, h0⟩ := and_ok h
        cases (of_decide_eq_true hz : z = 0)
        obtain ⟨h1, h2⟩ := and_ok h0
        obtain ⟨h2, h3⟩ := and_ok h2
        obtain ⟨k1, k2⟩ := and_ok h2
        obtain ⟨k2, k3⟩ := and_ok k2
        obtain ⟨h3, h4⟩ := and_ok h3
        obtain ⟨n1, n2⟩ := and_ok h3
        obtain ⟨h4, h5⟩ := and_ok h4
        obtain ⟨h5, h6⟩ := and_ok h5
        exact snd_dc g h1 k1 k2 k3 (not_ok n1) (sndS src g n2).1 (sndS src g n2).2 (fun s H C cl fp => sndC c (g.blk s H scope C cl fp) h4) (fun s H C cl fp => (sndE k (g.blk s H scope C cl fp) h5).pe) (fun s H C cl fp => (sndE v (g.blk s H scope C cl fp) h6).pe)
      | [], h => cases h
      | ⟨_, _, _, _⟩ :: _ :: _, h => cases h
    | _ => cases h
  | .part c fld body, X, sc, W, G, e, g, h => by
    cases e with
    | Call fn args kws pos =>
      cases fn with
      | Name x p =>
        match args, kws, h with
        | [a], [], h =>
          cases a with
          | Lambda ps e scope lpos =>
            obtain ⟨h1, h2⟩ := and_ok h
            obtain ⟨k1, k2⟩ := and_ok h1
            obtain ⟨k2, k3⟩ := and_ok k2
            obtain ⟨h2, h3⟩ := and_ok h2
            obtain ⟨n1, n2⟩ := and_ok h2
            obtain ⟨rfl, rfl, rfl⟩ := of_decide_eq_true k1
            obtain ⟨z, z1, z2⟩ := List.any_eq_true.mp k3
            cases (of_decide_eq_true z2 : z = lamMark)
            have pe := g.part z1 (ev G body false) e ps scope lpos p pos n1 n2 (g.gl _ (glB_ok k2)) fun Y E eN eK eM g0 => (sndE body g0.good (by rw [eN]; exact h3)).pe
            exact Snd.no pe (fun _ _ => rfl) (by rintro ⟨_, _, _, z⟩; cases z)
          | _ => cases h
        | [], _, h => cases h
        | e :: _ :: _, _, h => cases e <;> cases h
        | [e], _ :: _, h => cases e <;> cases h
      | _ => cases h
    | _ => cases h
theorem sndA {fns : List (Str × Nat × Nat)} : ∀ (es : CA) {X : Cx} {sc : Scope} {W : WX} {G : Ops} {xs : List Expr}, Good X sc W G fns → okA X.N fns es sc xs = true → PA X xs (tA X.K X.mg W (evA G es))
  | .nil, X, sc, W, G, xs, g, h => by
    cases xs with
    | nil => exact pa_no
    | cons _ _ => cases h
  | .cons a r, X, sc, W, G, xs, g, h => by
    cases xs with
    | nil => cases h
    | cons e es =>
      obtain ⟨h1, h2⟩ := and_ok h
      obtain ⟨h2, h3⟩ := and_ok h2
      exact pa_more h1 (sndE a g h2) (sndA r g h3)
  | .star a r, X, sc, W, G, xs, g, h => by
    cases xs with
    | nil => cases h
    | cons e es =>
      cases e with
      | Starred e p =>
        obtain ⟨h1, h2⟩ := and_ok h
        exact pa_starred (lookOf g h1 (sndE a g h1)) (sndA r g h2)
      | _ => cases h
theorem sndD {fns : List (Str × Nat × Nat)} : ∀ (es : CA) {X : Cx} {sc : Scope} {W : WX} {G : Ops} {ks : List (Option Expr)} {vs : List Expr}, Good X sc W G fns → okD X.N fns es sc ks vs = true → (∀ pos, PPs X pos ks vs (trsOf X.K X.mg W G es)) ∧ ks.length = vs.length ∧ ks.all (·.isSome) = true ∧ pairsC es = true
  | .nil, X, sc, W, G, ks, vs, g, h => by
    cases ks with
    | nil =>
      cases vs with
      | nil => exact ⟨fun _ => pps_nil, rfl, rfl, rfl⟩
      | cons _ _ => cases h
    | cons k ks => cases k <;> cases vs <;> cases h
  | .cons a (.cons b r), X, sc, W, G, ks, vs, g, h => by
    cases ks with
    | nil => cases vs <;> cases h
    | cons k ks =>
      cases k with
      | none => cases vs <;> cases h
      | some k =>
        cases vs with
        | nil => cases h
        | cons v vs =>
          obtain ⟨h1, h2⟩ := and_ok h
          obtain ⟨h2, h3⟩ := and_ok h2
          obtain ⟨q1, q2, q3, q4⟩ := sndD r g h3
          exact ⟨fun pos => pps_cons (sndE a g h1).pe (sndE b g h2).pe (q1 pos), congrArg (· + 1) q2, by rw [List.all_cons, q3]; rfl, q4⟩
  | .cons a .nil, X, sc, W, G, ks, vs, g, h => by cases ks <;> cases vs <;> cases h
  | .cons a (.star b r), X, sc, W, G, ks, vs, g, h => by cases ks <;> cases vs <;> cases h
  | .star a r, X, sc, W, G, ks, vs, g, h => by cases ks <;> cases vs <;> cases h
theorem sndO {fns : List (Str × Nat × Nat)} : ∀ (o : CO) {X : Cx} {sc : Scope} {W : WX} {G : Ops} {e : Option Expr}, Good X sc W G fns → okO X.N fns o sc e = true → PO X e (tOp' X.K X.mg W (evO G o))
  | .no, X, sc, W, G, e, g, h => by
    cases e with
    | none => exact po_no
    | some _ => cases h
  | .some a, X, sc, W, G, e, g, h => by
    cases e with
    | none => cases h
    | some e => exact po_some' (sndE a g h)
theorem sndC {fns : List (Str × Nat × Nat)} : ∀ (o : CO) {X : Cx} {sc : Scope} {W : WX} {G : Ops} {ifs : List Expr}, Good X sc W G fns → okC X.N fns o sc ifs = true → PTs X ifs (tCo X.K X.mg W (evC G o))
  | .no, X, sc, W, G, ifs, g, h => by
    cases ifs with
    | nil => exact ifs_no
    | cons _ _ => cases h
  | .some a, X, sc, W, G, ifs, g, h => by
    match ifs, h with
    | [e], h => exact ifs_one (sndE a g h).pt
    | [], h => cases h
    | _ :: _ :: _, h => cases h
theorem sndS {fns : List (Str × Nat × Nat)} : ∀ (src : CS) {X : Cx} {sc : Scope} {W : WX} {G : Ops} {tg e : Expr}, Good X sc W G fns → okS X.N fns src sc tg e = true → ((∀ i, src ≠ .keys i) → PIs X W G src tg e) ∧ ∀ i, src = .keys i → PE X e (tVar i)
  | .of a, X, sc, W, G, tg, e, g, h => ⟨fun _ => src_of (sndE a g h), fun i z => by cases z⟩
  | .keys i, X, sc, W, G, tg, e, g, h => by
    refine ⟨fun z => absurd rfl (z i), fun j z => ?_⟩
    cases z
    cases e with
    | Name x p => exact pe_name g h
    | _ => cases h
  | .range a, X, sc, W, G, tg, e, g, h => by
    refine ⟨fun _ => ?_, fun i z => by cases z⟩
    cases e with
    | Call fn args kws pos =>
      cases fn with
      | Name x p =>
        match args, kws, h with
        | [e], [], h =>
          obtain ⟨h1, h2⟩ := and_ok h
          obtain ⟨k1, k2⟩ := and_ok h1
          obtain ⟨h2, h3⟩ := and_ok h2
          exact src_range g (of_decide_eq_true k1) k2 h2 (sndE a g h3)
        | [], _, h => cases h
        | _ :: _ :: _, _, h => cases h
        | [_], _ :: _, h => cases h
      | _ => cases h
    | _ => cases h
  | .enum a, X, sc, W, G, tg, e, g, h => by
    refine ⟨fun _ => ?_, fun i z => by cases z⟩
    cases tg with
    | Tuple es k tp =>
      cases e with
      | Call fn args kws pos =>
        cases fn with
        | Name x p =>
          match args, kws, h with
          | [e], [], h =>
            obtain ⟨h1, h2⟩ := and_ok h
            obtain ⟨k1, k2⟩ := and_ok h1
            obtain ⟨h2, h3⟩ := and_ok h2
            exact src_enum g (of_decide_eq_true k1) k2 h2 (sndE a g h3)
          | [], _, h => cases h
          | _ :: _ :: _, _, h => cases h
          | [_], _ :: _, h => cases h
        | _ => cases h
      | _ => cases h
    | _ => cases h
  | .zip a b, X, sc, W, G, tg, e, g, h => by
    refine ⟨fun _ => ?_, fun i z => by cases z⟩
    cases tg with
    | Tuple es k tp =>
      cases e with
      | Call fn args kws pos =>
        cases fn with
        | Name x p =>
          match args, kws, h with
          | [e, e'], [], h =>
            obtain ⟨h1, h2⟩ := and_ok h
            obtain ⟨k1, k2⟩ := and_ok h1
            obtain ⟨h2, h3⟩ := and_ok h2
            obtain ⟨n1, n2⟩ := and_ok h2
            obtain ⟨h3, h4⟩ := and_ok h3
            exact src_zip g (of_decide_eq_true k1) k2 n1 n2 (sndE a g h3) (sndE b g h4)
          | [], _, h => cases h
          | [_], _, h => cases h
          | _ :: _ :: _ :: _, _, h => cases h
          | [_, _], _ :: _, h => cases h
        | _ => cases h
      | _ => cases h
    | _ => cases h
end
end PC
set_option linter.all false
set_option maxRecDepth 100000
set_option maxHeartbeats 2000000
set_option autoImplicit false
/-! PC, part q: statements: readings, one lemma a form. -/
namespace PC
open PySem PySem.Spec PyProof.Rows L2
/-- a state inside a def that began at F0, m0, H0 -/
structure Inn (K : PySem.W.Frag) (F0 : Hp) (m0 : List Addr) (H0 : Hp) (F : Hp) (m : List Addr) (H : Hp) (st : Store) (σ : L2.St) (ρ : Env) : Prop where
  stp : Stp F0 m0 H0 F m H
  sr : SR K F m st H
  er : ER K F m H σ ρ
  fresh : ∀ (i : Nat) (d : PV) (a : Addr), ρ[i]? = some (some (.own d)) → σ[i]? = some (some (.ref a)) → Nn H0 a
/-- what is wanted behind a block -/
def PostS (K : PySem.W.Frag) (mg : Str → Option Value) (E : XK) (F0 : Hp) (m0 : List Addr) (H0 : Hp) (F : Hp) (m : List Addr) (H : Hp) (r : Fl) (D : Ends) : Prop := match r with
  | .nx ρ' st' => ∀ F' m' H' σ', Inn K F0 m0 H0 F' m' H' st' σ' ρ' → Stq F m H F' m' H' → D.nx σ' H'
  | .bk ρ' st' => ∀ F' m' H' σ', Inn K F0 m0 H0 F' m' H' st' σ' ρ' → Stq F m H F' m' H' → D.bk σ' H'
  | .ct ρ' st' => ∀ F' m' H' σ', Inn K F0 m0 H0 F' m' H' st' σ' ρ' → Stq F m H F' m' H' → D.ct σ' H'
  | .rt v st' => ∀ F' m' H' u, Stp F0 m0 H0 F' m' H' → SR K F' m' st' H' → Rv K F' m' u v → D.rt u H'
  | .ex c fs _ st' => ∀ F' m' H' cv d, Stp F0 m0 H0 F' m' H' → SR K F' m' st' H' → ExcR K mg F' m' H' cv d c fs → E cv d H'
  | .bad => False
abbrev WE (E : XK) : WX := fun c d _ H => E c d H
def tS (K : PySem.W.Frag) (mg : Str → Option Value) (E : XK) (F0 : Hp) (m0 : List Addr) (H0 : Hp) (f : Env → Store → Fl) : TS := fun D σ H => ∃ F m st ρ, Inn K F0 m0 H0 F m H st σ ρ ∧ PostS K mg E F0 m0 H0 F m H (f ρ st) D
section
variable {K : PySem.W.Frag} {mg : Str → Option Value} {E : XK} {F0 F F' H0 H H' : Hp} {m0 m m' : List Addr} {st st' : Store} {σ σ' : L2.St} {ρ ρ' : Env} {r : Fl} {D : Ends}
theorem Inn.step (i : Inn K F0 m0 H0 F m H st σ ρ) (s : Stp F m H F' m' H') (r : SR K F' m' st' H') : Inn K F0 m0 H0 F' m' H' st' σ ρ := ⟨i.stp.trans s, r, i.er.step s, i.fresh⟩
theorem PostS.step (s : Stq F m H F' m' H') (h : PostS K mg E F0 m0 H0 F m H r D) : PostS K mg E F0 m0 H0 F' m' H' r D := by
  cases r with
  | nx ρ' st' => exact fun F2 m2 H2 σ2 i s2 => h F2 m2 H2 σ2 i (s.trans s2)
  | bk ρ' st' => exact fun F2 m2 H2 σ2 i s2 => h F2 m2 H2 σ2 i (s.trans s2)
  | ct ρ' st' => exact fun F2 m2 H2 σ2 i s2 => h F2 m2 H2 σ2 i (s.trans s2)
  | rt v st' => exact h
  | ex c fs ρ' st' => exact h
  | bad => exact h
theorem PostS.bind {α β : Type} {A : Hp → List Addr → Hp → β → α → Prop} {q : R α} {f : α → Store → Fl} {Q : β → Hp → Prop} (i : Inn K F0 m0 H0 F m H st σ ρ) (h : PostS K mg E F0 m0 H0 F m H (q.fl ρ' f) D)
    (k : ∀ x st1 F1 m1 H1 v, Stp F m H F1 m1 H1 → Inn K F0 m0 H0 F1 m1 H1 st1 σ ρ → A F1 m1 H1 v x → PostS K mg E F0 m0 H0 F1 m1 H1 (f x st1) D → Q v H1) : Post K mg (fun c d H' => E c d H') F m H A q Q := by
  cases q with
  | ok x st1 => exact fun F1 m1 H1 v s1 r1 b1 => k x st1 F1 m1 H1 v s1 (i.step s1 r1) b1 (PostS.step (s1.weak i.sr) h)
  | exc c fs st1 => exact fun F1 m1 H1 cv d s1 r1 x1 => h F1 m1 H1 cv d (i.stp.trans s1) r1 x1
  | bad => exact h
theorem set_own {i j : Nat} {d e : PV} (h : (ρ.set i (some (.val d)))[j]? = some (some (.own e))) : j ≠ i ∧ ρ[j]? = some (some (.own e)) := by
  by_cases z : j = i
  · subst z
    have hl : j < ρ.length := by
      have := (List.getElem?_eq_some_iff.mp h).1
      simpa using this
    rw [List.getElem?_set_self hl] at h
    cases h
  · rw [List.getElem?_set_ne (Ne.symm z)] at h
    exact ⟨z, h⟩
theorem Inn.set (i : Inn K F0 m0 H0 F m H st σ ρ) {j : Nat} {v : V} {d : PV} (h : Rv K F m v d) : Inn K F0 m0 H0 F m H st (σ.set j (some v)) (ρ.set j (some (.val d))) := ⟨i.stp, i.sr, i.er.set h, fun k e a h1 h2 => by
  obtain ⟨z1, z2⟩ := set_own h1
  rw [List.getElem?_set_ne (Ne.symm z1)] at h2
  exact i.fresh k e a z2 h2⟩
/-- a name takes a new list or dict of its own -/
theorem Inn.new (i : Inn K F0 m0 H0 F m H st σ ρ) {j : Nat} {p : Addr} {o : HO} {d : PV} (hp : H p = none) (hw : OwnR K F m (upd H p o) p d) : Inn K F0 m0 H0 F m (upd H p o) st (σ.set j (some (.ref p))) (ρ.set j (some (.own d))) := by
  have hF := i.sr.sub.no hp
  have hm := i.sr.notin hp
  have s1 : Stp F m H F m (upd H p o) := .lay hp
  have e1 := i.er.step s1
  have h0 : Nn H0 p := i.stp.back (.none hp)
  have lt : ∀ {k : Nat} {s : Option Slot}, (ρ.set j s)[k]? ≠ none → k < ρ.length := fun {k s} h => by
    by_cases z : k < ρ.length
    · exact z
    · exact absurd (List.getElem?_eq_none (by simpa using Nat.le_of_not_lt z)) h
  have np : ∀ {k : Nat} {e : PV}, ρ[k]? = some (some (.own e)) → σ[k]? ≠ some (some (.ref p)) := fun {k e} h1 h2 => by
    obtain ⟨a, q1, q2, q3, q4⟩ := i.er.own k e h1
    rw [h2] at q1
    cases q1
    obtain ⟨u, hu⟩ := q4.is
    rw [hp] at hu
    cases hu
  refine ⟨i.stp.trans s1, i.sr.lay hp, ⟨fun k e h => ?_, fun k e h => ?_, fun k l e f a n h1 h2 h3 => ?_, by simp [i.er.len]⟩, fun k e a h1 h2 => ?_⟩
  · by_cases z : k = j
    · subst z
      rw [List.getElem?_set_self (lt (by rw [h]; exact (nomatch ·)))] at h
      cases h
    · rw [List.getElem?_set_ne (Ne.symm z)] at h ⊢
      exact e1.val k e h
  · by_cases z : k = j
    · subst z
      have hl := lt (s := some (.own d)) (k := k) (by rw [h]; exact (nomatch ·))
      rw [List.getElem?_set_self hl] at h
      cases h
      exact ⟨p, List.getElem?_set_self (by rw [← i.er.len]; exact hl), hF, hm, hw⟩
    · rw [List.getElem?_set_ne (Ne.symm z)] at h ⊢
      exact e1.own k e h
  · by_cases zk : k = j
    · subst zk
      have hl := lt (s := some (.own d)) (k := k) (by rw [h1]; exact (nomatch ·))
      rw [List.getElem?_set_self (by rw [← i.er.len]; exact hl)] at h3
      cases h3
      rw [List.getElem?_set_ne n] at h2 ⊢
      exact np h2
    · rw [List.getElem?_set_ne (Ne.symm zk)] at h1 h3
      by_cases zl : l = j
      · subst zl
        have hl := lt (s := some (.own d)) (k := l) (by rw [h2]; exact (nomatch ·))
        rw [List.getElem?_set_self (by rw [← i.er.len]; exact hl)]
        intro z
        cases z
        exact np h1 h3
      · rw [List.getElem?_set_ne (Ne.symm zl)] at h2 ⊢
        exact i.er.sep k l e f a n h1 h2 h3
  · by_cases zk : k = j
    · subst zk
      have hl := lt (s := some (.own d)) (k := k) (by rw [h1]; exact (nomatch ·))
      rw [List.getElem?_set_self (by rw [← i.er.len]; exact hl)] at h2
      cases h2
      exact h0
    · rw [List.getElem?_set_ne (Ne.symm zk)] at h1 h2
      exact i.fresh k e a h1 h2
/-- a new shared list -/
theorem Inn.ref (i : Inn K F0 m0 H0 F m H st σ ρ) {j : Nat} {p : Addr} {vs : List V} {xs : List PV} (hp : H p = none) (hw : RvL K F m vs xs) (hl : xs.length ≤ big) : Inn K F0 m0 H0 F (m ++ [p]) (upd H p (.lst vs)) (st ++ [xs]) (σ.set j (some (.ref p))) (ρ.set j (some (.val (.rf st.length)))) := by
  have hF := i.sr.sub.no hp
  have hm := i.sr.notin hp
  have h0 : Nn H0 p := i.stp.back (.none hp)
  have pre : Pre m (m ++ [p]) := ⟨[p], rfl⟩
  have s1 : Stp F m H F (m ++ [p]) (upd H p (.lst vs)) := ⟨.refl, fun _ _ e => .inl e, fun a o e _ _ => by rw [upd_ne (ne_of_none e hp)]; exact e, fun a o e t => ⟨o, by rw [upd_ne (ne_of_none e hp)]; exact e, t⟩, pre, fun a h => by
    rcases List.mem_append.mp h with h | h
    · exact .inl h
    · rw [List.mem_singleton] at h
      exact .inr (by rw [h]; exact .none hp)⟩
  have s0 := i.sr
  have r1 : SR K F (m ++ [p]) (st ++ [xs]) (upd H p (.lst vs)) := {
    sub := s0.sub.lay hF
    nt := s0.nt
    tab := tabs_upd s0.tab (.none hp)
    nd := List.nodup_append.mpr ⟨s0.nd, by simp, fun a ha b hb => by
      rw [List.mem_singleton] at hb
      subst hb
      intro z
      subst z
      exact hm ha⟩
    len := by simp [s0.len]
    cell := fun k a ys e1 e2 => by
      by_cases hk : k < m.length
      · rw [List.getElem?_append_left hk] at e1
        rw [List.getElem?_append_left (by rw [← s0.len]; exact hk)] at e2
        obtain ⟨q1, ⟨us, q2, q3⟩, q4⟩ := s0.cell k a ys e1 e2
        exact ⟨q1, ⟨us, by rw [upd_ne (ne_of_none q2 hp)]; exact q2, q3.mono .refl pre⟩, q4⟩
      · have hk2 : k = m.length := by
          have := (List.getElem?_eq_some_iff.mp e1).1
          rw [List.length_append, List.length_singleton] at this
          omega
        subst hk2
        rw [List.getElem?_append_right (Nat.le_refl _), Nat.sub_self] at e1
        rw [s0.len, List.getElem?_append_right (Nat.le_refl _), Nat.sub_self] at e2
        cases e1
        cases e2
        exact ⟨hF, ⟨vs, upd_same, hw.mono .refl pre⟩, hl⟩ }
  refine (i.step s1 r1).set (.rf ?_)
  rw [← s0.len, List.getElem?_append_right (Nat.le_refl _), Nat.sub_self]
  rfl
/-- an own thing is its slot's no more: it stays as it is -/
theorem Inn.freeze (i : Inn K F0 m0 H0 F m H st σ ρ) {j : Nat} {d : PV} (h : ρ[j]? = some (some (.own d))) : ∃ F1, Inn K F0 m0 H0 F1 m H st σ (ρ.set j (some (.val d))) ∧ Stq F m H F1 m H := by
  obtain ⟨p, hs, hF, hm, hw⟩ := i.er.own j d h
  obtain ⟨o, ho⟩ := hw.is
  have h0 := i.fresh j d p h hs
  have hl : j < ρ.length := (List.getElem?_eq_some_iff.mp h).1
  have l : Le F (upd F p o) := le_upd hF
  have hv : Rv K (upd F p o) m (.ref p) d := by
    cases d with
    | lst ds =>
      obtain ⟨vs, q1, q2, q3⟩ := hw
      rw [ho] at q1
      cases q1
      exact .lst (.of upd_same) (q2.mono l .refl) q3
    | dct ds =>
      obtain ⟨vs, q1, q2, q3⟩ := hw
      rw [ho] at q1
      cases q1
      exact .dct upd_same (q2.mono l .refl) q3
    | _ => exact hw.elim
  refine ⟨upd F p o, ⟨i.stp.freeze h0 hF, i.sr.freeze hF ho hm (fun ps z => hw.pl.1 ps (by rw [ho, z])), ⟨fun k e q => ?_, fun k e q => ?_, fun k l' e f a n q1 q2 q3 => ?_, by simp [i.er.len]⟩, fun k e a q1 q2 => ?_⟩, ⟨l, .refl, fun _ _ _ e _ => e⟩⟩
  · by_cases z : k = j
    · subst z
      rw [List.getElem?_set_self hl] at q
      cases q
      exact ⟨_, hs, hv⟩
    · rw [List.getElem?_set_ne (Ne.symm z)] at q
      obtain ⟨v, q1, q2⟩ := i.er.val k e q
      exact ⟨v, q1, q2.mono l .refl⟩
  · obtain ⟨z, q⟩ := set_own q
    obtain ⟨a, q1, q2, q3, q4⟩ := i.er.own k e q
    have ne : a ≠ p := fun y => by
      subst y
      exact i.er.sep k j e d a z q h q1 hs
    exact ⟨a, q1, by rw [upd_ne ne]; exact q2, q3, q4.mono l .refl fun _ e _ => e⟩
  · obtain ⟨_, q1⟩ := set_own q1
    obtain ⟨_, q2⟩ := set_own q2
    exact i.er.sep k l' e f a n q1 q2 q3
  · obtain ⟨_, q1⟩ := set_own q1
    exact i.fresh k e a q1 q2
/-- an own thing is written -/
theorem Inn.write (i : Inn K F0 m0 H0 F m H st σ ρ) {j : Nat} {d d' : PV} {p : Addr} {o : HO} (h : ρ[j]? = some (some (.own d))) (hs : σ[j]? = some (some (.ref p))) (hw : ∀ H', H' p = some o → OwnR K F m H' p d') (tt : NoT o := by intro _ z; cases z) : Inn K F0 m0 H0 F m (upd H p o) st σ (ρ.set j (some (.own d'))) ∧ Stq F m H F m (upd H p o) := by
  obtain ⟨p', hs', hF, hm, hr⟩ := i.er.own j d h
  rw [hs] at hs'
  cases hs'
  have h0 := i.fresh j d p h hs
  have hl : j < ρ.length := (List.getElem?_eq_some_iff.mp h).1
  have oth : ∀ {k : Nat} {e : PV}, k ≠ j → (ρ.set j (some (.own d')))[k]? = some (some (.own e)) → ρ[k]? = some (some (.own e)) := fun z q => by
    rw [List.getElem?_set_ne (Ne.symm z)] at q
    exact q
  refine ⟨⟨i.stp.write h0 tt, i.sr.write hF hm hr.pl, ⟨fun k e q => ?_, fun k e q => ?_, fun k l' e f a n q1 q2 q3 => ?_, by simp [i.er.len]⟩, fun k e a q1 q2 => ?_⟩, ⟨.refl, .refl, fun a u n e _ => by
    have ne : a ≠ p := fun z => n (z ▸ hF)
    rw [upd_ne ne]
    exact e⟩⟩
  · by_cases z : k = j
    · subst z
      rw [List.getElem?_set_self hl] at q
      cases q
    · rw [List.getElem?_set_ne (Ne.symm z)] at q
      exact i.er.val k e q
  · by_cases z : k = j
    · subst z
      rw [List.getElem?_set_self hl] at q
      cases q
      exact ⟨p, hs, hF, hm, hw _ upd_same⟩
    · obtain ⟨a, q1, q2, q3, q4⟩ := i.er.own k e (oth z q)
      have ne : a ≠ p := fun y => by
        subst y
        exact i.er.sep k j e d a z (oth z q) h q1 hs
      exact ⟨a, q1, q2, q3, q4.mono .refl .refl fun _ e _ => by rw [upd_ne ne]; exact e⟩
  · have b1 : ∃ x, ρ[k]? = some (some (.own x)) := by
      by_cases z : k = j
      · exact ⟨d, by rw [z]; exact h⟩
      · exact ⟨e, oth z q1⟩
    have b2 : ∃ x, ρ[l']? = some (some (.own x)) := by
      by_cases z : l' = j
      · exact ⟨d, by rw [z]; exact h⟩
      · exact ⟨f, oth z q2⟩
    obtain ⟨x, b1⟩ := b1
    obtain ⟨y, b2⟩ := b2
    exact i.er.sep k l' x y a n b1 b2 q3
  · by_cases z : k = j
    · subst z
      exact i.fresh k d a h q2
    · exact i.fresh k e a (oth z q1) q2
end
end PC
set_option linter.all false
set_option maxRecDepth 100000
set_option maxHeartbeats 2000000
set_option autoImplicit false
/-! PC, part r: one lemma a statement. -/
namespace PC
open PySem PySem.Spec PyProof.Rows L2
/-- an exception's __init__ that keeps one thing -/
def spInit (C : Addr) (fld : Str) : Sp := fun vs H Q _ => ∃ (a : Addr) (y : V), vs = [.ref a, y] ∧ H a = some (exo a C none) ∧ ∀ dx, H dx = none → dx ≠ a → Q .non (upd (upd H dx (exd dx [(fld, y)])) a (exo a C (some dx)))
theorem raise_post {C : Addr} {fld : Str} {vs : List V} {H1 : Hp} {Q : XK} (h : ∃ y, vs = [y] ∧ ∀ d, H1 d = none → Q (.ref C) (some d) (upd H1 d (.xd [(fld, y)]))) : vs.length ≤ 1000 ∧ ∀ a, H1 a = none → spInit C fld (.ref a :: (vs ++ [])) (upd H1 a (exo a C none))
      (fun v H2 => v = .non ∧ ∃ (d : Addr) (fs : List (Str × V)), H2 a = some (exo a C (some d)) ∧ H2 d = some (exd d fs) ∧ H1 d = none ∧ Q (.ref C) (some d) (upd (del H2 a) d (.xd fs))) (fun _ _ _ => False) := by
  obtain ⟨y, ev, q⟩ := h
  subst ev
  refine ⟨Nat.le_of_ble_eq_true rfl, fun a ha => ⟨a, y, rfl, upd_same, fun dx hd ne => ⟨rfl, dx, [(fld, y)], upd_same, ?_, ?_, ?_⟩⟩⟩
  · rw [upd_ne ne, upd_same]
  · rw [upd_ne ne] at hd
    exact hd
  · have hd' : H1 dx = none := by
      rw [upd_ne ne] at hd
      exact hd
    have e : upd (del (upd (upd (upd H1 a (exo a C none)) dx (exd dx [(fld, y)])) a (exo a C (some dx))) a) dx (.xd [(fld, y)]) = upd H1 dx (.xd [(fld, y)]) := by
      funext b
      by_cases hb : b = dx
      · subst hb
        rw [upd_same, upd_same]
      · rw [upd_ne hb, upd_ne hb]
        by_cases ha' : b = a
        · subst ha'
          rw [del_same, ha]
        · rw [del_ne ha', upd_ne ha', upd_ne hb, upd_ne ha']
    rw [e]
    exact q dx hd'
/-- the making of an exception whose class keeps one thing -/
structure RaiseOk (X : Cx) (c fld : Str) : Prop where
  ex : ∃ C : Addr, X.mg c = some (.ref C) ∧ ∀ {e : Expr} {p pos : Pos} {ta : TA}, Gl X c → notStar e = true → PA X [e] ta → PMk X (.Call (.Name c p) [e] [] pos) (tMkO C (spInit C fld) [] ta)
/-- the context of a def's body -/
structure GoodS (X : Cx) (sc : Scope) (E : XK) (G : Ops) (fns : List (Str × Nat × Nat)) (exs : List (Str × Str)) : Prop extends Good X sc (WE E) G fns where
  isc : X.env.scope = sc
  kd : sc.kind = .function
  hp : PassesOwn (model X.prog X.w) X.A X.env X.xe
  exs : ∀ c f, (c, f) ∈ exs → RaiseOk X c f
theorem noLc_swap {v : Expr} {t : Option Expr} {l : Nat} {env : PySem.Env} (h : isLc v = false) : swapsWith v t l env = pure false := by cases v <;> first | rfl | cases h
section
variable {K : PySem.W.Frag} {mg : Str → Option Value} {E : XK} {F0 F F' H0 H H' : Hp} {m0 m m' : List Addr} {st st' : Store} {σ σ' : L2.St} {ρ ρ' : Env} {D : Ends}
theorem fold_own {k : Nat} {e : PV} : ∀ (ps : List (Nat × PV)) (ρ : Env), (ps.foldl (fun ρ p => ρ.set p.1 (some (.val p.2))) ρ)[k]? = some (some (.own e)) → k ∉ ps.map (·.1) ∧ ρ[k]? = some (some (.own e))
  | [], ρ, h => ⟨by simp, h⟩
  | p :: ps, ρ, h => by
    obtain ⟨h1, h2⟩ := fold_own ps (ρ.set p.1 (some (.val p.2))) h
    obtain ⟨h3, h4⟩ := set_own h2
    refine ⟨fun z => ?_, h4⟩
    rw [List.map_cons, List.mem_cons] at z
    exact z.elim h3 h1
theorem put_own {t : Tg} {d e : PV} {k : Nat} (hp : t.put d ρ = some ρ') (h : ρ'[k]? = some (some (.own e))) : k ∉ t.slots ∧ ρ[k]? = some (some (.own e)) := by
  cases t with
  | one i =>
    cases hp
    obtain ⟨h1, h2⟩ := set_own h
    exact ⟨fun z => h1 (List.mem_singleton.mp z), h2⟩
  | many is =>
    cases d with
    | tup vs =>
      have hp : (if is.length = vs.length then some ((is.zip vs).foldl (fun ρ p => ρ.set p.1 (some (.val p.2))) ρ) else none) = some ρ' := hp
      split at hp
      · rename_i hl
        cases hp
        obtain ⟨h1, h2⟩ := fold_own _ _ h
        rw [List.map_fst_zip (Nat.le_of_eq hl)] at h1
        exact ⟨h1, h2⟩
      · cases hp
    | _ => cases hp
theorem Inn.put (i : Inn K F0 m0 H0 F m H st σ ρ) {t : Tg} {d : PV} (hp : t.put d ρ = some ρ') (e : ER K F m H σ' ρ') (o : ∀ j, j ∉ t.slots → σ'[j]? = σ[j]?) : Inn K F0 m0 H0 F m H st σ' ρ' := ⟨i.stp, i.sr, e, fun k x a h1 h2 => by
  obtain ⟨z1, z2⟩ := put_own hp h1
  rw [o k z1] at h2
  exact i.fresh k x a z2 h2⟩
/-- a shared list is written -/
theorem Inn.cell (i : Inn K F0 m0 H0 F m H st σ ρ) {k : Nat} {a : Addr} {vs : List V} {xs : List PV} (hm : m[k]? = some a) (hw : RvL K F m vs xs) (hl : xs.length ≤ big) : Inn K F0 m0 H0 F m (upd H a (.lst vs)) (st.set k xs) σ ρ ∧ Stq F m H F m (upd H a (.lst vs)) := by
  have s0 := i.sr
  have hk : k < st.length := by rw [← s0.len]; exact (List.getElem?_eq_some_iff.mp hm).1
  obtain ⟨hF, ⟨us, hH, _⟩, _⟩ := s0.cell k a st[k] hm (List.getElem?_eq_getElem hk)
  have ha : a ∈ m := List.mem_of_getElem? hm
  refine ⟨⟨⟨i.stp.le, i.stp.new, fun b o e n t => ?_, fun b o e t => ?_, i.stp.pre, i.stp.preN⟩, ⟨fun b o e => ?_, s0.nt, tabs_upd s0.tab (.lst hH), s0.nd, by rw [List.length_set]; exact s0.len, fun j b ys e1 e2 => ?_⟩, ⟨i.er.val, fun j e q => ?_, i.er.sep, i.er.len⟩, i.fresh⟩, ⟨.refl, .refl, fun b u n e _ => ?_⟩⟩
  · have ne : b ≠ a := fun z => by
      subst z
      rcases i.stp.preN b ha with q | q
      · exact n q
      · exact q o e t
    rw [upd_ne ne]
    exact i.stp.keep b o e n t
  · by_cases z : b = a
    · subst z; exact ⟨_, upd_same, not_lst⟩
    · obtain ⟨o', q, t'⟩ := i.stp.there b o e t
      exact ⟨o', by rw [upd_ne z]; exact q, t'⟩
  · have ne : b ≠ a := fun z => by rw [z, hF] at e; cases e
    rw [upd_ne ne]
    exact s0.sub b o e
  · by_cases z : j = k
    · subst z
      rw [hm] at e1
      cases e1
      rw [List.getElem?_set_self hk] at e2
      cases e2
      exact ⟨hF, ⟨vs, upd_same, hw⟩, hl⟩
    · rw [List.getElem?_set_ne (Ne.symm z)] at e2
      obtain ⟨q1, ⟨ws, q2, q3⟩, q4⟩ := s0.cell j b ys e1 e2
      have ne : b ≠ a := fun y => by
        subst y
        exact z ((List.getElem?_inj (List.getElem?_eq_some_iff.mp e1).1 s0.nd).mp (e1.trans hm.symm))
      exact ⟨q1, ⟨ws, by rw [upd_ne ne]; exact q2, q3⟩, q4⟩
  · obtain ⟨b, q1, q2, q3, q4⟩ := i.er.own j e q
    have ne : b ≠ a := fun z => q3 (z ▸ ha)
    exact ⟨b, q1, q2, q3, q4.mono .refl .refl fun _ e _ => by rw [upd_ne ne]; exact e⟩
  · have ne : b ≠ a := fun z => n (z ▸ hF)
    rw [upd_ne ne]
    exact e
end
section
variable {X : Cx} {sc : Scope} {E : XK} {G : Ops} {fns : List (Str × Nat × Nat)} {exs : List (Str × Str)} {F0 H0 : Hp} {m0 : List Addr} {W : WX}
theorem PS_imp {st : Stmt} {t t' : TS} (h : PS X st t) (i : ∀ D σ H, t' D σ H → t D σ H) : PS X st t' := ⟨fun pins s σ H D I hw => h.run pins s σ H D I (i D σ H hw)⟩
theorem PSs_imp {st : List Stmt} {t t' : TS} (h : PSs X st t) (i : ∀ D σ H, t' D σ H → t D σ H) : PSs X st t' := ⟨fun pins s σ H D I hw => h.run pins s σ H D I (i D σ H hw)⟩
abbrev PTs' (X : Cx) (E : XK) (F0 : Hp) (m0 : List Addr) (H0 : Hp) (G : Ops) (s : CT) (t : Stmt) : Prop := PS X t (tS X.K X.mg E F0 m0 H0 (evT G s))
abbrev PBs' (X : Cx) (E : XK) (F0 : Hp) (m0 : List Addr) (H0 : Hp) (G : Ops) (b : CB) (t : List Stmt) : Prop := PSs X t (tS X.K X.mg E F0 m0 H0 (evB G b))
theorem st_expr {e : CE} {v : Expr} {pos : Pos} (hl : isLc v = false) (s : Snd X (WE E) G e v) : PTs' X E F0 m0 H0 G (.expr e) (.Expr v pos) :=
  PS_imp (ps_expr s.pe (noLc_swap hl)) fun D σ H ⟨F, m, st, ρ, i, q⟩ => ⟨F, m, st, ρ, i.sr, i.er, PostS.bind (q := ev G e false ρ st) (f := fun _ st => .nx ρ st) i q fun x st1 F1 m1 H1 v s1 i1 hv q1 => q1 F1 m1 H1 σ i1 .refl⟩
theorem st_set (g : GoodS X sc E G fns exs) {e : CE} {v : Expr} {i : Nat} {x : Str} {p pos : Pos} (ht : tgtB X.N sc i x = true) (hl : isLc v = false) (s : Snd X (WE E) G e v) : PTs' X E F0 m0 H0 G (.set i e) (.Assign [.Name x p] v pos) := by
  obtain ⟨h1, h2⟩ := and_ok ht
  obtain ⟨l1, l2⟩ := g.loc _ (locB_ok h2)
  exact PS_imp (ps_set g.nd (of_decide_eq_true h1) l1 s.pe (noLc_swap hl) l2) fun D σ H ⟨F, m, st, ρ, i', q⟩ => ⟨F, m, st, ρ, i'.sr, i'.er, PostS.bind (q := ev G e false ρ st) (f := fun v st => .nx (ρ.set i (some (.val v))) st) i' q fun x st1 F1 m1 H1 v s1 i1 hv q1 => q1 F1 m1 H1 _ (i1.set hv) .refl⟩
theorem st_newD (g : GoodS X sc E G fns exs) {i : Nat} {x : Str} {p p2 pos : Pos} (ht : tgtB X.N sc i x = true) : PTs' X E F0 m0 H0 G (.newD i) (.Assign [.Name x p] (.Dict [] [] p2) pos) := by
  obtain ⟨h1, h2⟩ := and_ok ht
  obtain ⟨l1, l2⟩ := g.loc _ (locB_ok h2)
  refine PS_imp (ps_set g.nd (of_decide_eq_true h1) l1 pe_dnewK (noLc_swap rfl) l2) fun D σ H ⟨F, m, st, ρ, i', q⟩ a ha => ?_
  have q : PostS X.K X.mg E F0 m0 H0 F m H (.nx (ρ.set i (some (.own (.dct [])))) st) D := q
  have j := i'.new (j := i) (o := .dK []) (d := .dct []) ha ⟨[], upd_same, .nil, Nat.zero_le _⟩
  exact q F m _ _ j ((Stp.lay ha).weak i'.sr)
theorem st_newL (g : GoodS X sc E G fns exs) {i : Nat} {x : Str} {es : CA} {xs : List Expr} {p p2 pos : Pos} (ht : tgtB X.N sc i x = true) (ha : PA X xs (tA X.K X.mg (WE E) (evA G es))) : PTs' X E F0 m0 H0 G (.newL i es) (.Assign [.Name x p] (.List xs p2) pos) := by
  obtain ⟨h1, h2⟩ := and_ok ht
  obtain ⟨l1, l2⟩ := g.loc _ (locB_ok h2)
  refine PS_imp (ps_set g.nd (of_decide_eq_true h1) l1 (pe_lst ha) (noLc_swap rfl) l2) fun D σ H ⟨F, m, st, ρ, i', q⟩ => ⟨F, m, st, ρ, i'.sr, i'.er, PostS.bind (q := evA G es ρ st) (f := fun vs st => if vs.length ≤ big then .nx (ρ.set i (some (.own (.lst vs)))) st else .bad) i' q fun ds st1 F1 m1 H1 vs s1 i1 hv q1 => ?_⟩
  split at q1
  · rename_i hl
    refine ⟨by rw [hv.length, ← big_eq]; exact hl, fun a ha => ?_⟩
    exact q1 F1 m1 _ _ (i1.new (j := i) (o := .lst vs) (d := .lst ds) ha ⟨vs, upd_same, hv, hl⟩) ((Stp.lay ha).weak i1.sr)
  · exact q1.elim
theorem st_ref (g : GoodS X sc E G fns exs) {i : Nat} {x : Str} {es : CA} {xs : List Expr} {p p2 pos : Pos} (ht : tgtB X.N sc i x = true) (ha : PA X xs (tA X.K X.mg (WE E) (evA G es))) : PTs' X E F0 m0 H0 G (.ref i es) (.Assign [.Name x p] (.List xs p2) pos) := by
  obtain ⟨h1, h2⟩ := and_ok ht
  obtain ⟨l1, l2⟩ := g.loc _ (locB_ok h2)
  refine PS_imp (ps_set g.nd (of_decide_eq_true h1) l1 (pe_lst ha) (noLc_swap rfl) l2) fun D σ H ⟨F, m, st, ρ, i', q⟩ => ⟨F, m, st, ρ, i'.sr, i'.er, PostS.bind (q := evA G es ρ st) (f := fun xs st => if xs.length ≤ big then .nx (ρ.set i (some (.val (.rf st.length)))) (st ++ [xs]) else .bad) i' q fun ds st1 F1 m1 H1 vs s1 i1 hv q1 => ?_⟩
  split at q1
  · rename_i hl
    refine ⟨by rw [hv.length, ← big_eq]; exact hl, fun a ha => ?_⟩
    refine q1 F1 (m1 ++ [a]) _ _ (i1.ref (j := i) ha hv hl) ⟨.refl, ⟨[a], rfl⟩, fun b o _ e _ => ?_⟩
    rw [upd_ne (ne_of_none e ha)]
    exact e
  · exact q1.elim
/-- the names' stores are not exchanged -/
def noSwap (sc : Scope) (ts : List Expr) : Expr → Bool
  | .Tuple .. => ts.any fun t => match t with
    | .Name x _ => !(sc.names.lookup x == some .local)
    | _ => true
  | _ => true
theorem filterMap_lt {α β : Type} {f : α → Option β} : ∀ {l : List α}, (l.any fun x => (f x).isNone) = true → (l.filterMap f).length < l.length
  | [], h => by cases h
  | x :: l, h => by
    rw [List.any_cons, Bool.or_eq_true] at h
    rw [List.filterMap_cons]
    cases e : f x with
    | none => exact Nat.lt_succ_of_le (List.length_filterMap_le _ _)
    | some y =>
      rw [e] at h
      have h := h.resolve_left (by simp)
      exact Nat.succ_lt_succ (filterMap_lt h)
theorem noSwap_ok {sc : Scope} {env : PySem.Env} {ts : List Expr} {v : Expr} {k : Nat} {p : Pos} (hs : env.scope = sc) (h : noSwap sc ts v = true) : swappedStores [.Tuple ts k p] v env = pure none := by
  cases v with
  | Tuple vs k2 p2 =>
    have h : (ts.any fun t => match t with
      | .Name x _ => !(sc.names.lookup x == some .local)
      | _ => true) = true := h
    have lt : ∀ line, ((ts.filterMap fun
        | .Name id pos => if env.kindOf id == some .local && pos.line == line then some id else none
        | _ => none).length != ts.length) = true := fun line => by
      have := filterMap_lt (f := fun (t : Expr) => match t with
        | .Name id pos => if env.kindOf id == some .local && pos.line == line then some id else none
        | _ => none) (l := ts) (by
          rw [List.any_eq_true] at h ⊢
          obtain ⟨t, h1, h2⟩ := h
          refine ⟨t, h1, ?_⟩
          cases t with
          | Name x q =>
            have e : (env.kindOf x == some .local) = false := by
              have h2 : (!(sc.names.lookup x == some .local)) = true := h2
              show (env.scope.names.lookup x == some .local) = false
              rw [hs]
              exact not_ok h2
            simp [e]
          | _ => rfl)
      simp only [bne_iff_ne]
      exact Nat.ne_of_lt this
    unfold swappedStores
    simp only
    split
    · rfl
    · split
      · rfl
      · exact if_pos (by rw [Bool.or_eq_true]; exact .inl (lt _))
  | _ => rfl
theorem swap_tup {ts : List Expr} {v : Expr} {k : Nat} {p : Pos} {l : Nat} {env : PySem.Env} : swapsWithSole [.Tuple ts k p] v l env = pure false := by cases v <;> rfl
theorem st_setT (g : GoodS X sc E G fns exs) {e : CE} {v : Expr} {is : List Nat} {ts : List Expr} {k : Nat} {p pos : Pos} (ht : tgsB X.N sc is ts = true) (hn : noSwap sc ts v = true) (s : Snd X (WE E) G e v) : PTs' X E F0 m0 H0 G (.setT is e) (.Assign [.Tuple ts k p] v pos) := by
  have hg : PG X (.Tuple ts k p) (tG X.K (Tg.put (.many is)) is) := pg_tg g.toGood (t := .many is) ht
  refine PS_imp (ps_asg s.pe hg swap_tup (noSwap_ok g.isc hn)) fun D σ H ⟨F, m, st, ρ, i', q⟩ => ⟨F, m, st, ρ, i'.sr, i'.er, PostS.bind (q := ev G e false ρ st) (f := fun v st => match Tg.put (.many is) v ρ with
    | some ρ => .nx ρ st
    | none => .bad) i' q fun d st1 F1 m1 H1 v s1 i1 hv q1 => ?_⟩
  cases ep : Tg.put (.many is) d ρ with
  | none => rw [ep] at q1; exact q1.elim
  | some ρ' =>
    rw [ep] at q1
    exact ⟨F1, m1, st1, d, ρ, ρ', i1.sr, i1.er, hv, ep, fun σ' e' l o => q1 F1 m1 H1 σ' (i1.put (t := .many is) ep e' o) .refl⟩
/-- the names' stores are exchanged -/
def locOnly (sc : Scope) (x : Str) : Bool := sc.names.lookup x == some .local
def parB (N : List Str) (sc : Scope) (is : List Nat) (ts vs : List Expr) : Bool := match is, ts, vs with
  | [i, j], [.Name x px, .Name y py], [a, b] => (decide (N[i]? = some x) && (decide (N[j]? = some y) && decide (i ≠ j ∧ x ≠ y ∧ px.line = py.line))) && ((locOnly sc x && locOnly sc y) && ((notStar a && notStar b) && (!([a, b].all (foldedForSure 8)) && !([a, b].all (constantsAlone 8)))))
  | [i, j, l], [.Name x px, .Name y py, .Name z pz], [a, b, c] => (decide (N[i]? = some x) && (decide (N[j]? = some y) && (decide (N[l]? = some z) && decide ((i ≠ j ∧ i ≠ l ∧ j ≠ l) ∧ (x ≠ y ∧ x ≠ z ∧ y ≠ z) ∧ px.line = py.line ∧ px.line = pz.line)))) && ((locOnly sc x && (locOnly sc y && locOnly sc z)) && ((notStar a && (notStar b && notStar c)) && (!([a, b, c].all (foldedForSure 8)) && !([a, b, c].all (constantsAlone 8)))))
  | _, _, _ => false
def isStar : Expr → Bool
  | .Starred .. => true
  | _ => false
theorem star2 {a b : Expr} (n1 : notStar a = true) (n2 : notStar b = true) : ¬ (isStar a || (isStar b || false)) = true := by
  have e : ∀ e : Expr, isStar e = !notStar e := fun e => by cases e <;> rfl
  rw [e, e, n1, n2]
  decide
theorem star3 {a b c : Expr} (n1 : notStar a = true) (n2 : notStar b = true) (n3 : notStar c = true) : ¬ (isStar a || (isStar b || (isStar c || false))) = true := by
  have e : ∀ e : Expr, isStar e = !notStar e := fun e => by cases e <;> rfl
  rw [e, e, e, n1, n2, n3]
  decide
theorem swap2 {env : PySem.Env} {x y : Str} {px py pt p2 : Pos} {kt k2 : Nat} {a b : Expr} (hb : env.scope.kind = .function) (hx : env.scope.names.lookup x = some .local) (hy : env.scope.names.lookup y = some .local) (hl : px.line = py.line) (ne : x ≠ y)
    (n1 : notStar a = true) (n2 : notStar b = true) (h1 : [a, b].all (foldedForSure 8) = false) (h2 : [a, b].all (constantsAlone 8) = false) : swappedStores [.Tuple [.Name x px, .Name y py] kt pt] (.Tuple [a, b] k2 p2) env = pure (some [x, y]) := by
  have kx : env.kindOf x = some .local := hx
  have ky : env.kindOf y = some .local := hy
  have bk : env.blockKind = .function := by unfold PySem.Env.blockKind; rw [hb]; rfl
  have ne' : (y == x) = false := by simpa using Ne.symm ne
  have nx : (x == y) = false := by simpa using ne
  have e1 : [x, y].eraseDups = [x, y] := by simp [List.eraseDups_cons, ne', nx]
  unfold swappedStores
  simp only [List.length_cons, List.length_nil, bk, kx, ky, hl, Expr.pos, List.head?_cons, Option.map_some, Option.getD_some, List.filterMap_cons, List.filterMap_nil, List.any_cons, List.any_nil, h1, h2, beq_self_eq_true, Bool.and_true, if_true, e1]
  exact (if_neg (by decide)).trans ((if_neg (star2 n1 n2)).trans rfl)
theorem swap3 {env : PySem.Env} {x y z : Str} {px py pz pt p2 : Pos} {kt k2 : Nat} {a b c : Expr} (hb : env.scope.kind = .function) (hx : env.scope.names.lookup x = some .local) (hy : env.scope.names.lookup y = some .local) (hz : env.scope.names.lookup z = some .local) (hl : px.line = py.line) (hl2 : px.line = pz.line) (ne : x ≠ y) (ne2 : x ≠ z) (ne3 : y ≠ z)
    (n1 : notStar a = true) (n2 : notStar b = true) (n3 : notStar c = true) (h1 : [a, b, c].all (foldedForSure 8) = false) (h2 : [a, b, c].all (constantsAlone 8) = false) : swappedStores [.Tuple [.Name x px, .Name y py, .Name z pz] kt pt] (.Tuple [a, b, c] k2 p2) env = pure (some [x, y, z]) := by
  have kx : env.kindOf x = some .local := hx
  have ky : env.kindOf y = some .local := hy
  have kz : env.kindOf z = some .local := hz
  have bk : env.blockKind = .function := by unfold PySem.Env.blockKind; rw [hb]; rfl
  have f : ∀ {u v : Str}, u ≠ v → (v == u) = false := fun h => by simpa using Ne.symm h
  have e1 : [x, y, z].eraseDups = [x, y, z] := by simp [List.eraseDups_cons, f ne, f ne2, f ne3]
  unfold swappedStores
  simp only [List.length_cons, List.length_nil, bk, kx, ky, kz, ← hl, ← hl2, Expr.pos, List.head?_cons, Option.map_some, Option.getD_some, List.filterMap_cons, List.filterMap_nil, List.any_cons, List.any_nil, h1, h2, beq_self_eq_true, Bool.and_true, if_true, e1]
  exact (if_neg (by decide)).trans ((if_neg (star3 n1 n2 n3)).trans rfl)
theorem locOnly_ok {sc : Scope} {x : Str} (h : locOnly sc x = true) : sc.names.lookup x = some .local := by
  unfold locOnly at h
  exact eq_of_beq h
theorem st_par (g : GoodS X sc E G fns exs) {es : CA} {is : List Nat} {ts vs : List Expr} {k k2 : Nat} {p p2 pos : Pos} (hp : parB X.N sc is ts vs = true) (ha : PA X vs (tA X.K X.mg (WE E) (evA G es))) : PTs' X E F0 m0 H0 G (.par is es) (.Assign [.Tuple ts k p] (.Tuple vs k2 p2) pos) := by
  unfold parB at hp
  split at hp
  · rename_i i j x px y py a b
    obtain ⟨h1, h2⟩ := and_ok hp
    obtain ⟨a1, a2⟩ := and_ok h1
    obtain ⟨a2, a3⟩ := and_ok a2
    obtain ⟨h2, h3⟩ := and_ok h2
    obtain ⟨b1, b2⟩ := and_ok h2
    obtain ⟨h3, h4⟩ := and_ok h3
    obtain ⟨c1, c2⟩ := and_ok h3
    obtain ⟨d1, d2⟩ := and_ok h4
    obtain ⟨ij, xy, hl⟩ := of_decide_eq_true a3
    have lx := locOnly_ok b1
    have ly := locOnly_ok b2
    rw [← g.isc] at lx ly
    refine PS_imp (ps_par g.calm g.nd (of_decide_eq_true a1) (of_decide_eq_true a2) ij lx ly ha (swap2 (by rw [g.isc]; exact g.kd) lx ly hl xy c1 c2 (not_ok d1) (not_ok d2)) swap_tup) fun D σ H ⟨F, m, st, ρ, i', q⟩ => ⟨F, m, st, ρ, i'.sr, i'.er, PostS.bind (q := evA G es ρ st) (f := fun vs st => if [i, j].length = vs.length ∧ vs.length ≤ big then .nx (([i, j].zip vs).foldl (fun (ρ : Env) (p : Nat × PV) => ρ.set p.1 (some (.val p.2))) ρ) st else .bad) i' q fun ds st1 F1 m1 H1 us s1 i1 hv q1 => ?_⟩
    split at q1
    · rename_i hlen
      match ds, us, hv, hlen, q1 with
      | [d, e], _, .cons (v := v) hd (.cons (v := w) he .nil), hlen, q1 => exact ⟨v, w, rfl, q1 F1 m1 H1 _ ((i1.set hd).set he) .refl⟩
      | [], _, _, hlen, _ => cases hlen.1
      | [_], _, _, hlen, _ => cases hlen.1
      | _ :: _ :: _ :: _, _, _, hlen, _ => cases hlen.1
    · exact q1.elim
  · rename_i i j l x px y py z pz a b c
    obtain ⟨h1, h2⟩ := and_ok hp
    obtain ⟨a1, a2⟩ := and_ok h1
    obtain ⟨a2, a3⟩ := and_ok a2
    obtain ⟨a3, a4⟩ := and_ok a3
    obtain ⟨h2, h3⟩ := and_ok h2
    obtain ⟨b1, b2⟩ := and_ok h2
    obtain ⟨b2, b3⟩ := and_ok b2
    obtain ⟨h3, h4⟩ := and_ok h3
    obtain ⟨c1, c2⟩ := and_ok h3
    obtain ⟨c2, c3⟩ := and_ok c2
    obtain ⟨d1, d2⟩ := and_ok h4
    obtain ⟨⟨ij, il, jl⟩, ⟨xy, xz, yz⟩, hl, hl2⟩ := of_decide_eq_true a4
    have lx := locOnly_ok b1
    have ly := locOnly_ok b2
    have lz := locOnly_ok b3
    rw [← g.isc] at lx ly lz
    refine PS_imp (ps_par3 g.calm g.nd (of_decide_eq_true a1) (of_decide_eq_true a2) (of_decide_eq_true a3) ij il jl lx ly lz ha (swap3 (by rw [g.isc]; exact g.kd) lx ly lz hl hl2 xy xz yz c1 c2 c3 (not_ok d1) (not_ok d2)) swap_tup) fun D σ H ⟨F, m, st, ρ, i', q⟩ => ⟨F, m, st, ρ, i'.sr, i'.er, PostS.bind (q := evA G es ρ st) (f := fun vs st => if [i, j, l].length = vs.length ∧ vs.length ≤ big then .nx (([i, j, l].zip vs).foldl (fun (ρ : Env) (p : Nat × PV) => ρ.set p.1 (some (.val p.2))) ρ) st else .bad) i' q fun ds st1 F1 m1 H1 us s1 i1 hv q1 => ?_⟩
    split at q1
    · rename_i hlen
      match ds, us, hv, hlen, q1 with
      | [d, e, f], _, .cons (v := v) hd (.cons (v := w) he (.cons (v := u) hf .nil)), hlen, q1 => exact ⟨v, w, u, rfl, q1 F1 m1 H1 _ (((i1.set hd).set he).set hf) .refl⟩
      | [], _, _, hlen, _ => cases hlen.1
      | [_], _, _, hlen, _ => cases hlen.1
      | [_, _], _, _, hlen, _ => cases hlen.1
      | _ :: _ :: _ :: _ :: _, _, _, hlen, _ => cases hlen.1
    · exact q1.elim
  · cases hp
end
end PC
set_option linter.all false
set_option maxRecDepth 100000
set_option maxHeartbeats 2000000
set_option autoImplicit false
/-! PC, part s: the other statements, blocks. -/
namespace PC
open PySem PySem.Spec PyProof.Rows L2
section
variable {X : Cx} {sc : Scope} {E : XK} {G : Ops} {fns : List (Str × Nat × Nat)} {exs : List (Str × Str)} {F0 H0 : Hp} {m0 : List Addr}
theorem st_ite {c : CE} {a b : CB} {e : Expr} {p q : List Stmt} {pos : Pos} (hc : Snd X (WE E) G c e) (ha : PBs' X E F0 m0 H0 G a p) (hb : PBs' X E F0 m0 H0 G b q) : PTs' X E F0 m0 H0 G (.ite c a b) (.If e p q pos) := by
  refine PS_imp (ps_if hc.pt ha hb) fun D σ H ⟨F, m, st, ρ, i, q⟩ => ⟨F, m, st, ρ, i.sr, i.er, PostS.bind (q := ev G c true ρ st) (f := fun x st => match x with
    | .bl true => evB G a ρ st
    | .bl false => evB G b ρ st
    | _ => .bad) i q fun d st1 F1 m1 H1 v s1 i1 hv q1 => ?_⟩
  cases (show d = .bl v from hv)
  cases v with
  | true => exact iteT ⟨F1, m1, st1, ρ, i1, q1⟩
  | false => exact iteF ⟨F1, m1, st1, ρ, i1, q1⟩
theorem st_ret {e : CE} {v : Expr} {pos : Pos} (s : Snd X (WE E) G e v) : PTs' X E F0 m0 H0 G (.ret e) (.Return (some v) pos) :=
  PS_imp (ps_ret s.pe) fun D σ H ⟨F, m, st, ρ, i, q⟩ => ⟨F, m, st, ρ, i.sr, i.er, PostS.bind (q := ev G e false ρ st) (f := fun v st => .rt v st) i q fun x st1 F1 m1 H1 v s1 i1 hv q1 => q1 F1 m1 H1 v i1.stp i1.sr hv⟩
theorem st_retN {pos : Pos} : PTs' X E F0 m0 H0 G .retN (.Return none pos) := PS_imp ps_retN fun D σ H ⟨F, m, st, ρ, i, q⟩ => by
  have q : PostS X.K X.mg E F0 m0 H0 F m H (.rt .non st) D := q
  exact q F m H .non i.stp i.sr .non
theorem st_pass {pos : Pos} : PTs' X E F0 m0 H0 G .pass (.Pass pos) := PS_imp ps_pass fun D σ H ⟨F, m, st, ρ, i, q⟩ => by
  have q : PostS X.K X.mg E F0 m0 H0 F m H (.nx ρ st) D := q
  exact q F m H σ i .refl
theorem st_brk {pos : Pos} : PTs' X E F0 m0 H0 G .brk (.Break pos) := PS_imp ps_break fun D σ H ⟨F, m, st, ρ, i, q⟩ => by
  have q : PostS X.K X.mg E F0 m0 H0 F m H (.bk ρ st) D := q
  exact q F m H σ i .refl
theorem st_cont {pos : Pos} : PTs' X E F0 m0 H0 G .cont (.Continue pos) := PS_imp ps_continue fun D σ H ⟨F, m, st, ρ, i, q⟩ => by
  have q : PostS X.K X.mg E F0 m0 H0 F m H (.ct ρ st) D := q
  exact q F m H σ i .refl
theorem st_raise (g : GoodS X sc E G fns exs) {c fld x : Str} {e : CE} {v : Expr} {p cp pos : Pos} (hx : x = c) (hg : glB sc x = true) (hm : (c, fld) ∈ exs) (h1 : notStar v = true) (s : Snd X (WE E) G e v) : PTs' X E F0 m0 H0 G (.raise c fld e) (.Raise (some (.Call (.Name x p) [v] [] cp)) none pos) := by
  subst hx
  obtain ⟨C, m1, mk⟩ := (g.exs x fld hm).ex
  refine PS_imp (ps_raise (W := WE E) g.calm g.tk (mk (p := p) (pos := cp) (g.gl _ (glB_ok hg)) h1 (pa_cons s.pe pa_nil (starEach_cons [] X.env h1)))) fun D σ H ⟨F, m, st, ρ, i, q⟩ => ⟨F, m, st, ρ, i.sr, i.er, PostS.bind (q := ev G e false ρ st) (f := fun v st => .ex x [(fld, v)] ρ st) i q fun d st1 F1 m1 H1 w s1 i1 hv q1 => raise_post ⟨w, rfl, fun dd hd => ?_⟩⟩
  refine q1 F1 m1 _ (.ref C) (some dd) (i1.stp.trans (.lay hd)) (i1.sr.lay hd) ⟨C, dd, [(fld, w)], ‹_›, rfl, rfl, upd_same, rfl, .cons hv .nil⟩
/-! ### for -/
theorem forF_step {put : PV → Env → Option Env} {body : Env → Store → Fl} {x : PV} {xs : List PV} {ρ : Env} {st : Store} : forF put body (x :: xs) ρ st = match put x ρ with
    | none => .bad
    | some ρ => match body ρ st with
      | .nx ρ st => forF put body xs ρ st
      | .ct ρ st => forF put body xs ρ st
      | .bk ρ st => .nx ρ st
      | r => r := rfl
theorem st_for (g : GoodS X sc E G fns exs) {tg : Tg} {src : CS} {body : CB} {te it : Expr} {sts : List Stmt} {pos : Pos} (ht : tgB X.N sc tg te = true) (hns : isSet it = false) (hs : PIs X (WE E) G src te it) (hb : PBs' X E F0 m0 H0 G body sts) : PTs' X E F0 m0 H0 G (.for_ tg src body) (.For te it sts [] pos) := by
  have hg := pg_tg g.toGood ht
  refine PS_imp (ps_for g.hp g.calm hs hg hb (noSet hns)) fun D σ H ⟨F, m, st, ρ, i, q⟩ => ⟨F, m, st, ρ, i.sr, i.er, PostS.bind (β := It × (Hp → List Addr → Hp → Prop)) (A := fun F m H J ds => Wk X.K J.1 J.2 ds ∧ J.2 F m H ∧ ds.length ≤ big) (Q := fun J H1 => ∃ W : Nat → Nat → L2.St → Hp → Prop, (∃ m, W 0 m σ H1) ∧ ∀ i m σ H, W i m σ H →
  (J.1.stop i H ∧ D.nx σ H) ∨ (J.1.go i H ∧ ∃ N : L2.St → Hp → Prop, (∀ σ' H', N σ' H' → ∃ m', m' < m ∧ W (i + 1) m' σ' H') ∧ ∀ x H', J.1.yld i H x H' → (tG X.K tg.put tg.slots) x σ H' fun σ2 H2 => (tS X.K X.mg E F0 m0 H0 (evB G body)) { D with nx := N, ct := N, bk := D.nx } σ2 H2)) (q := evS G src ρ st) (f := fun xs st => forF tg.put (evB G body) xs ρ st) i q fun ds st1 F1 m1 H1 J s1 i1 ⟨wk, g0, hbig⟩ q1 => ?_⟩
  let Wi : Nat → L2.St → Hp → Prop := fun k σ2 H2 => k ≤ ds.length ∧ ∃ F2 m2 st2 ρ2, Inn X.K F0 m0 H0 F2 m2 H2 st2 σ2 ρ2 ∧ J.2 F2 m2 H2 ∧ PostS X.K X.mg E F0 m0 H0 F2 m2 H2 (forF tg.put (evB G body) (ds.drop k) ρ2 st2) D
  refine ⟨fun k n σ2 H2 => n = ds.length - k ∧ Wi k σ2 H2, ⟨ds.length, by simp, Nat.zero_le _, F1, m1, st1, ρ, i1, g0, by rw [List.drop_zero]; exact q1⟩, ?_⟩
  rintro k n σ2 H2 ⟨rfl, hk, F2, m2, st2, ρ2, i2, g2, q2⟩
  by_cases hlt : k < ds.length
  · refine .inr ⟨wk.goes k F2 m2 H2 hlt i2.sr.sub g2, fun σ' H' => Wi (k + 1) σ' H', fun σ' H' h2 => ⟨ds.length - (k + 1), by omega, rfl, h2⟩, fun x H' hy => ?_⟩
    have edrop : ds.drop k = ds[k] :: ds.drop (k + 1) := List.drop_eq_getElem_cons hlt
    rw [edrop] at q2
    obtain ⟨F3, s3, r3, hx⟩ := wk.yields k F2 m2 st2 H2 x H' ds[k] i2.sr g2 hy (List.getElem?_eq_getElem hlt)
    have i3 := i2.step s3 r3
    have g3 := wk.cl g2 (s3.weak i2.sr)
    have q3 := PostS.step (s3.weak i2.sr) q2
    rw [forF_step] at q3
    cases ep : tg.put ds[k] ρ2 with
    | none => rw [ep] at q3; exact q3.elim
    | some ρ' =>
      rw [ep] at q3
      refine ⟨F3, m2, st2, ds[k], ρ2, ρ', r3, i3.er, hx, ep, fun σ' e' l o => ⟨F3, m2, st2, ρ', i3.put ep e' o, ?_⟩⟩
      simp only at q3
      cases eb : evB G body ρ' st2 with
      | nx ρ4 st4 =>
        rw [eb] at q3
        exact fun F4 m4 H4 σ4 i4 sq => ⟨hlt, F4, m4, st4, ρ4, i4, wk.cl g3 sq, PostS.step sq q3⟩
      | ct ρ4 st4 =>
        rw [eb] at q3
        exact fun F4 m4 H4 σ4 i4 sq => ⟨hlt, F4, m4, st4, ρ4, i4, wk.cl g3 sq, PostS.step sq q3⟩
      | bk ρ4 st4 =>
        rw [eb] at q3
        exact q3
      | rt v st4 =>
        rw [eb] at q3
        exact q3
      | ex c fs ρ4 st4 =>
        rw [eb] at q3
        exact q3
      | bad =>
        rw [eb] at q3
        exact q3
  · have e : k = ds.length := by omega
    subst e
    rw [List.drop_length] at q2
    have q2 : PostS X.K X.mg E F0 m0 H0 F2 m2 H2 (.nx ρ2 st2) D := q2
    exact .inl ⟨wk.stops F2 m2 H2 i2.sr.sub g2, q2 F2 m2 H2 σ2 i2 .refl⟩
/-! ### own dicts -/
def rUpd : V → List V → Hp → VK → Prop := fun x vs H Q => ∃ (a b : Addr) (kvs more : List (L2.Key × V)), x = .ref a ∧ vs = [.ref b] ∧ a ≠ b ∧ H a = some (.dK kvs) ∧ L2.Rd H b (.dK more) ∧ kvs.length + more.length ≤ sizeLine ∧ Q .non (upd H a (.dK (mergeK kvs more)))
theorem mt_upd : MtR X "dict.update" rUpd := by
  intro pins s σ H x vs v us Q I rx rv h
  obtain ⟨a, b, kvs, more, ex, ev, ne, ea, eb, hz, q⟩ := h
  subst ex
  subst ev
  cases (show v = Value.ref a from rx)
  obtain ⟨u, rfl, ru⟩ := vals1 rv
  cases (show u = Value.ref b from ru)
  obtain ⟨z1, hd1, xs, k1, d1⟩ := dk_of I.hok ea
  obtain ⟨z2, hd2, ys, k2, d2⟩ := dk_rd I.hok eb
  have hl : xs.length + ys.length ≤ sizeLine := by rw [← k1.length, ← k2.length]; exact hz
  refine call_meetsIn PySem.F.slot_dict_update d1.typeIs PySem.F.entry_dict_update (PySem.F.args_dict_update_2 _ _) (meets_dict_update (mixKind X.prog X.w) a b ne hd2) ⟨xs, ys, d1, d2, hl, fun h' dd _ hs => ?_⟩
  refine ⟨.non, _, d_write (t' := s.toks) I (by rw [ea]; exact True.intro) hs ?_ (dk_new ?_ hd1 (KV.merge k2 k1) dd), rfl, q⟩
  · obtain ⟨o, _, _, ho, _⟩ := dd
    exact ⟨o, ho⟩
  · have := length_mergeK more kvs
    omega
theorem st_upd (g : GoodS X sc E G fns exs) {i : Nat} {e : CE} {x nm : Str} {v : Expr} {p apos cpos pos : Pos} (hn : nm = "update") (hv : varB X.N sc i x = true) (hl : apos.endLine = cpos.line) (h1 : notStar v = true) (s : Snd X (WE E) G e v) :
    PTs' X E F0 m0 H0 G (.upd i e) (.Expr (.Call (.Attribute (.Name x p) nm apos) [v] [] cpos) pos) := by
  subst hn
  have base : attributeBase (.Name x p) "update" X.env (eval (.Name x p) X.env) = eval (.Name x p) X.env := rfl
  have se := starEach_cons [] X.env h1
  have few : ((backTo cpos (starEach [v] X.env)).all (fun x => !x.1) && (backToKw cpos (keywordEach [] X.env)).all (fun x => x.1.isSome) && decide (([v] : List Expr).length + ([] : List Keyword).length + (if ([] : List Keyword).isEmpty then 0 else 1) < 30)) = true := by
    rw [se]
    rfl
  refine PS_imp (ps_expr (pe_bm PySem.F.plainAttrs_dict PySem.F.slot_dict_update PySem.F.type_dict_update mt_upd (pe_name g.toGood hv) (pa_cons s.pe pa_nil se) base few (by rw [hl]; exact beq_self_eq_true _) se rfl) rfl) fun D σ H ⟨F, m, st, ρ, i', q⟩ => ?_
  have q : PostS X.K X.mg E F0 m0 H0 F m H (match ρ[i]? with
    | some (some (.own (.dct kvs))) => (ev G e false ρ st).fl ρ fun v st => match v with
      | .dct more => if kvs.length + more.length ≤ big then .nx (ρ.set i (some (.own (.dct (dmerge kvs more))))) st else .bad
      | _ => .bad
    | _ => .bad) D := q
  have own : ∃ kvs, ρ[i]? = some (some (.own (.dct kvs))) := by
    cases e : ρ[i]? with
    | none => rw [e] at q; exact q.elim
    | some o =>
      cases o with
      | none => rw [e] at q; exact q.elim
      | some sl =>
        cases sl with
        | val d => rw [e] at q; exact q.elim
        | own d =>
          cases d with
          | dct kvs => exact ⟨kvs, rfl⟩
          | _ => rw [e] at q; exact q.elim
  obtain ⟨kvs, ho⟩ := own
  rw [ho] at q
  obtain ⟨a, hs, hF, hm, us, ha, hr, hz⟩ := i'.er.own i _ ho
  refine ⟨.ref a, hs, .inr (.inr (.inl ⟨rfl, .inl ⟨us, ha⟩⟩)), F, m, st, ρ, i'.sr, i'.er, PostS.bind (q := ev G e false ρ st) (f := fun v st => match v with
      | .dct more => if kvs.length + more.length ≤ big then .nx (ρ.set i (some (.own (.dct (dmerge kvs more))))) st else .bad
      | _ => .bad) i' q fun d st1 F1 m1 H1 w s1 i1 hw q1 => ?_⟩
  have hH1 : H1 a = some (.dK us) := s1.keep a _ ha hm (fun _ z => by cases z)
  obtain ⟨a', hs', hF1, hm1, us', ha', hr', hz'⟩ := i1.er.own i _ ho
  rw [hs] at hs'
  cases hs'
  rw [hH1] at ha'
  cases ha'
  cases hw with
  | @dct b more mk hb hrb hzb =>
    simp only at q1
    split at q1
    · rename_i hlen
      have ne : a ≠ b := fun z => by
        rw [← z, hF1] at hb
        cases hb
      refine ⟨a, b, us, more, rfl, rfl, ne, hH1, i1.sr.sub.dk hb, by rw [hr'.length, hrb.length, ← big_eq]; exact hlen, ?_⟩
      have wr := i1.write (o := .dK (mergeK us more)) ho hs (d' := .dct (dmerge kvs mk)) fun H' h' => ⟨_, h', RvD.merge hrb hr', Nat.le_trans (dmerge_len mk kvs) hlen⟩
      exact q1 F1 m1 _ σ (by
        have := wr.1
        exact this) wr.2
    · exact q1.elim
  | _ => exact q1.elim
/-! ### a shared list's number -/
def rGet (K : PySem.W.Frag) : V → V → Hp → VK → Prop := fun x y H Q => ∃ p xs i v, x = .ref p ∧ y = .int i ∧ SqL K H p xs ∧ 0 ≤ i ∧ i < xs.length ∧ xs[i.toNat]? = some v ∧ Q v H
theorem get_rf : PGet X (rGet X.K) := by
  intro pins s σ H o i ov iv Q I ro ri h
  obtain ⟨p, xs, k, v, rfl, rfl, hq, h0, h1, he, q⟩ := h
  cases (show ov = Value.ref p from ro)
  obtain ⟨t, rfl⟩ := ri
  obtain ⟨its, r, pl, hz⟩ := I.list hq
  obtain ⟨u, hu, ru⟩ := r.get he
  have hn := line63
  exact wpAny_mono (wpAny_getItem_list (Q := fun r s' => r = u ∧ EP X pins σ Q r s') pl.isList h0 (by omega) (by simpa using hu) ⟨rfl, ⟨v, H, I, ru, q⟩⟩) (fun _ _ h => h.2) fun _ _ z => z
theorem st_rfadd (g : GoodS X sc E G fns exs) {o idx e : CE} {x y v : Expr} {p pos : Pos} (hs : isSlice y = false) (so : Snd X (WE E) G o x) (si : Snd X (WE E) G idx y) (se : Snd X (WE E) G e v) : PTs' X E F0 m0 H0 G (.rfadd o idx e) (.AugAssign (.Subscript x y p) .Add v pos) := by
  refine PS_imp (ps_augS so.pe si.pe get_rf se.pe ip_add set_list (fun ov iv new => by cases y <;> first | rfl | cases hs)) fun D σ H ⟨F, m, st, ρ, i', q⟩ => ?_
  refine ⟨F, m, st, ρ, i'.sr, i'.er, PostS.bind (q := ev G o false ρ st) (f := fun x st => (ev G idx false ρ st).fl ρ fun i st => match x, i with
    | .rf k, .int i => (match (st[k]?).bind fun xs => if 0 ≤ i ∧ i < xs.length then xs[i.toNat]? else none with
      | some (.int a) => (ev G e false ρ st).fl ρ fun y st => match y, st[k]? with
        | .int b, some xs => if i < xs.length then .nx ρ (st.set k (xs.set i.toNat (.int (a + b)))) else .bad
        | _, _ => .bad
      | _ => .bad)
    | _, _ => .bad) i' q fun d st1 F1 m1 H1 u s1 i1 hu q1 => ?_⟩
  refine ⟨F1, m1, st1, ρ, i1.sr, i1.er, PostS.bind i1 q1 fun d2 st2 F2 m2 H2 w s2 i2 hw q2 => ?_⟩
  have hu2 := s2.rv hu
  cases hu2 with
  | @rf a k hk =>
    cases hw with
    | int n =>
      simp only at q2
      have hkl : k < st2.length := by rw [← i2.sr.len]; exact (List.getElem?_eq_some_iff.mp hk).1
      obtain ⟨c1, ⟨vs, c2, c3⟩, c4⟩ := i2.sr.cell k a st2[k] hk (List.getElem?_eq_getElem hkl)
      rw [List.getElem?_eq_getElem hkl] at q2
      simp only [Option.bind_some] at q2
      split at q2
      · rename_i z ez
        split at ez
        · rename_i hn
          obtain ⟨w2, e1, e2⟩ := c3.get ez
          cases e2
          refine ⟨a, vs, n, .int z, rfl, rfl, .of c2, hn.1, by rw [c3.length]; exact hn.2, e1, F2, m2, st2, ρ, i2.sr, i2.er, PostS.bind i2 q2 fun d3 st3 F3 m3 H3 w3 s3 i3 hw3 q3 => ?_⟩
          cases hw3 with
          | int b =>
            refine ⟨z, b, rfl, rfl, ?_⟩
            have hk3 := s3.pre.get hk
            have hkl3 : k < st3.length := by rw [← i3.sr.len]; exact (List.getElem?_eq_some_iff.mp hk3).1
            obtain ⟨d1, ⟨vs3, d2, d3⟩, d4⟩ := i3.sr.cell k a st3[k] hk3 (List.getElem?_eq_getElem hkl3)
            rw [List.getElem?_eq_getElem hkl3] at q3
            simp only at q3
            split at q3
            · rename_i hlt
              refine ⟨a, vs3, n, n.toNat, rfl, rfl, d2, ?_, ?_⟩
              · unfold ixN
                rw [if_pos hn.1, if_pos (by rw [d3.length]; exact hlt)]
              · obtain ⟨j1, j2⟩ := i3.cell hk3 (d3.set (.int (z + b)) n.toNat) (by rw [List.length_set]; exact d4)
                exact q3 F3 m3 _ σ j1 j2
            · exact q3.elim
          | _ => exact q3.elim
        · cases ez
      · exact q2.elim
    | _ => exact q2.elim
  | _ =>
    cases d2 <;> exact q2.elim
/-! ### name = [..] on one line -/
def lcSet (sc : Scope) (x : Str) (p : Pos) : Expr → Bool
  | .ListComp _ _ scope q => locOnly sc x && (p.line == q.line && !(scope.names.any fun (n, k) => n == x && (k == .local || k == .cell)))
  | _ => false
theorem st_setLc (g : GoodS X sc E G fns exs) {i : Nat} {x : Str} {p spos : Pos} {own : List Nat} {tg : Tg} {src : CS} {c : CO} {elt : CE} {e te it : Expr} {ifs : List Expr} {scope : Scope} {pos : Pos}
    (hi : X.N[i]? = some x) (hsw : lcSet sc x p (.ListComp e [⟨te, it, ifs, 0⟩] scope pos) = true)
    (hb : blkC X.N sc scope (own.filterMap fun i => (X.N[i]?).map fun x => (x, i)) = true) (ho : own.all (fun i => decide (i < X.N.length)) = true) (hs : tg.slots.all own.contains = true) (ht : tgB X.N scope tg te = true) (hns : isSet it = false)
    (hsrc : PIs X (WE E) G src te it)
    (hc : Blk X scope fun Y => PTs Y ifs (tCo X.K X.mg W0 (evC G c))) (he : Blk X scope fun Y => PE Y e (tX X.K X.mg W0 (ev G elt false))) : PTs' X E F0 m0 H0 G (.set i (.lc own tg src c elt)) (.Assign [.Name x p] (.ListComp e [⟨te, it, ifs, 0⟩] scope pos) spos) := by
  obtain ⟨h1, h2⟩ := and_ok hsw
  obtain ⟨h2, h3⟩ := and_ok h2
  have lx := locOnly_ok h1
  rw [← g.isc] at lx
  have hG : Blk X scope fun Y => PG Y te (tG X.K tg.put tg.slots) := fun s H C cl fp => pg_tg (g.toGood.blk s H scope C cl fp) ht
  have base := ps_setLc (spos := spos) (py := p) g.calm g.nd hi lx (sw_true (l := spos.line) (by rw [g.isc]; exact g.kd) lx h2 (not_ok h3)) hsrc (BlkOk.at g.toGood (blkOk_by hb)) hG hc he (noSet hns)
  rw [own_map ho] at base
  refine PS_imp base fun D σ H ⟨F, m, st, ρ, i', q⟩ => ?_
  refine lc_read (own_all hs) (fun _ z => z) ⟨F, m, st, ρ, i'.sr, i'.er, PostS.bind (A := AV X.K) (q := ev G (.lc own tg src c elt) false ρ st) (f := fun v st => .nx (ρ.set i (some (.val v))) st) i' q fun x st1 F1 m1 H1 v s1 i1 hv q1 => q1 F1 m1 H1 _ (i1.set hv) .refl⟩
end
end PC
set_option linter.all false
set_option maxRecDepth 100000
set_option maxHeartbeats 4000000
set_option autoImplicit false
/-! PC, part t: the checker of statements, and what it shows. -/
namespace PC
open PySem PySem.Spec PyProof.Rows L2
def notKeys : CS → Bool
  | .keys _ => false
  | _ => true
def isLcC : CE → Bool
  | .lc _ _ src _ _ => notKeys src
  | _ => false
mutual
def okT (N : List Str) (fns : List (Str × Nat × Nat)) (exs : List (Str × Str)) (sc : Scope) : CT → Stmt → Bool
  | .expr e, .Expr v _ => !isLc v && okE N fns e sc v
  | .set i e, .Assign [.Name x p] v _ => tgtB N sc i x && ((!isLc v || (isLcC e && lcSet sc x p v)) && okE N fns e sc v)
  | .newD i, .Assign [.Name x _] (.Dict [] [] _) _ => tgtB N sc i x
  | .newL i es, .Assign [.Name x _] (.List xs _) _ => tgtB N sc i x && okA N fns es sc xs
  | .ref i es, .Assign [.Name x _] (.List xs _) _ => tgtB N sc i x && okA N fns es sc xs
  | .setT is e, .Assign [.Tuple ts _ _] v _ => tgsB N sc is ts && (noSwap sc ts v && okE N fns e sc v)
  | .par is es, .Assign [.Tuple ts _ _] (.Tuple vs _ _) _ => parB N sc is ts vs && okA N fns es sc vs
  | .upd i e, .Expr (.Call (.Attribute (.Name x _) nm apos) [v] [] cpos) _ => (decide (nm = "update") && varB N sc i x) && (decide (apos.endLine = cpos.line) && (notStar v && okE N fns e sc v))
  | .rfadd o idx e, .AugAssign (.Subscript x y _) .Add v _ => !isSlice y && (okE N fns o sc x && (okE N fns idx sc y && okE N fns e sc v))
  | .ite t a b, .If c p q _ => okE N fns t sc c && (okB N fns exs sc a p && okB N fns exs sc b q)
  | .for_ tg src body, .For te it sts [] _ => (notKeys src && tgB N sc tg te) && (!isSet it && (okS N fns src sc te it && okB N fns exs sc body sts))
  | .ret e, .Return (some v) _ => okE N fns e sc v
  | .retN, .Return none _ => true
  | .raise c fld e, .Raise (some (.Call (.Name x _) [v] [] _)) none _ => (decide (x = c) && glB sc x) && (exs.any (fun z => decide (z = (c, fld))) && (notStar v && okE N fns e sc v))
  | .pass, .Pass _ => true
  | .brk, .Break _ => true
  | .cont, .Continue _ => true
  | _, _ => false
def okB (N : List Str) (fns : List (Str × Nat × Nat)) (exs : List (Str × Str)) (sc : Scope) : CB → List Stmt → Bool
  | .nil, [] => true
  | .cons (.frz _) r, sts => okB N fns exs sc r sts
  | .cons s r, t :: sts => okT N fns exs sc s t && okB N fns exs sc r sts
  | _, _ => false
end
theorem isFrz : ∀ s : CT, (∃ i, s = .frz i) ∨ ∀ i, s ≠ .frz i
  | .frz i => .inl ⟨i, rfl⟩
  | .expr _ => .inr (fun _ z => by cases z)
  | .set .. => .inr (fun _ z => by cases z)
  | .newD .. => .inr (fun _ z => by cases z)
  | .newL .. => .inr (fun _ z => by cases z)
  | .ref .. => .inr (fun _ z => by cases z)
  | .setT .. => .inr (fun _ z => by cases z)
  | .par .. => .inr (fun _ z => by cases z)
  | .app .. => .inr (fun _ z => by cases z)
  | .dset .. => .inr (fun _ z => by cases z)
  | .upd .. => .inr (fun _ z => by cases z)
  | .aug .. => .inr (fun _ z => by cases z)
  | .rfadd .. => .inr (fun _ z => by cases z)
  | .ite .. => .inr (fun _ z => by cases z)
  | .for_ .. => .inr (fun _ z => by cases z)
  | .while_ .. => .inr (fun _ z => by cases z)
  | .ret .. => .inr (fun _ z => by cases z)
  | .retN => .inr (fun _ z => by cases z)
  | .raise .. => .inr (fun _ z => by cases z)
  | .pass => .inr (fun _ z => by cases z)
  | .brk => .inr (fun _ z => by cases z)
  | .cont => .inr (fun _ z => by cases z)
theorem okB_cons {N : List Str} {fns : List (Str × Nat × Nat)} {exs : List (Str × Str)} {sc : Scope} {s : CT} {r : CB} {sts : List Stmt} (n : ∀ i, s ≠ .frz i) (h : okB N fns exs sc (.cons s r) sts = true) : ∃ t ts, sts = t :: ts ∧ okT N fns exs sc s t = true ∧ okB N fns exs sc r ts = true := by
  cases sts with
  | nil => cases s <;> first | exact absurd rfl (n _) | cases h
  | cons t ts =>
    refine ⟨t, ts, rfl, ?_⟩
    cases s <;> first | exact absurd rfl (n _) | exact and_ok h
section
variable {X : Cx} {sc : Scope} {E : XK} {G : Ops} {fns : List (Str × Nat × Nat)} {exs : List (Str × Str)} {F0 H0 : Hp} {m0 : List Addr}
theorem bl_nil : PBs' X E F0 m0 H0 G .nil [] := PSs_imp pss_nil fun D σ H ⟨F, m, st, ρ, i, q⟩ => by
  have q : PostS X.K X.mg E F0 m0 H0 F m H (.nx ρ st) D := q
  exact q F m H σ i .refl
theorem bl_frz {j : Nat} {r : CB} {sts : List Stmt} (h : PBs' X E F0 m0 H0 G r sts) : PBs' X E F0 m0 H0 G (.cons (.frz j) r) sts := PSs_imp h fun D σ H ⟨F, m, st, ρ, i, q⟩ => by
  have q : PostS X.K X.mg E F0 m0 H0 F m H (match (match ρ[j]? with
    | some (some (.own v)) => Fl.nx (ρ.set j (some (.val v))) st
    | _ => .bad) with
    | .nx ρ st => evB G r ρ st
    | f => f) D := q
  cases e : ρ[j]? with
  | none => rw [e] at q; exact q.elim
  | some o =>
    cases o with
    | none => rw [e] at q; exact q.elim
    | some sl =>
      cases sl with
      | val d => rw [e] at q; exact q.elim
      | own d =>
        rw [e] at q
        obtain ⟨F1, i1, sq⟩ := i.freeze e
        exact ⟨F1, m, st, _, i1, PostS.step sq q⟩
theorem bl_cons {s : CT} {r : CB} {t : Stmt} {ts : List Stmt} (h1 : PTs' X E F0 m0 H0 G s t) (h2 : PBs' X E F0 m0 H0 G r ts) : PBs' X E F0 m0 H0 G (.cons s r) (t :: ts) := PSs_imp (pss_cons h1 h2) fun D σ H ⟨F, m, st, ρ, i, q⟩ => by
  have q : PostS X.K X.mg E F0 m0 H0 F m H (match evT G s ρ st with
    | .nx ρ st => evB G r ρ st
    | f => f) D := q
  refine ⟨F, m, st, ρ, i, ?_⟩
  cases e : evT G s ρ st with
  | nx ρ1 st1 =>
    rw [e] at q
    exact fun F1 m1 H1 σ1 i1 sq => ⟨F1, m1, st1, ρ1, i1, PostS.step sq q⟩
  | rt v st1 => rw [e] at q; exact q
  | bk ρ1 st1 => rw [e] at q; exact q
  | ct ρ1 st1 => rw [e] at q; exact q
  | ex c fs ρ1 st1 => rw [e] at q; exact q
  | bad => rw [e] at q; exact q
theorem notKeys_ok {src : CS} (h : notKeys src = true) : ∀ j, src ≠ .keys j := fun j z => by
  subst z
  cases h
theorem set_sound (g : GoodS X sc E G fns exs) {i : Nat} {e : CE} {x : Str} {p pos : Pos} {v : Expr} (h : (tgtB X.N sc i x && ((!isLc v || (isLcC e && lcSet sc x p v)) && okE X.N fns e sc v)) = true) : PTs' X E F0 m0 H0 G (.set i e) (.Assign [.Name x p] v pos) := by
  obtain ⟨h1, h2⟩ := and_ok h
  obtain ⟨h2, h3⟩ := and_ok h2
  cases el : isLc v with
  | false => exact st_set g h1 el (sndE e g.toGood h3)
  | true =>
    rw [el] at h2
    have h2 : (isLcC e && lcSet sc x p v) = true := h2
    obtain ⟨k1, k2⟩ := and_ok h2
    cases e with
    | lc own tg src c elt =>
      cases v with
      | ListComp e gens scope q =>
        match gens, h3, k2 with
        | [⟨te, it, ifs, z⟩], h3, k2 =>
          obtain ⟨hz, h0⟩ := and_ok h3
          cases (of_decide_eq_true hz : z = 0)
          obtain ⟨b1, b2⟩ := and_ok h0
          obtain ⟨b2, b3⟩ := and_ok b2
          obtain ⟨c1, c2⟩ := and_ok b2
          obtain ⟨c2, c3⟩ := and_ok c2
          obtain ⟨b3, b4⟩ := and_ok b3
          obtain ⟨n1, n2⟩ := and_ok b3
          obtain ⟨b4, b5⟩ := and_ok b4
          exact st_setLc g (of_decide_eq_true (and_ok h1).1) k2 b1 c1 c2 c3 (not_ok n1) ((sndS src g.toGood n2).1 (notKeys_ok k1)) (fun s H C cl fp => sndC c (g.toGood.blk s H scope C cl fp) b4) (fun s H C cl fp => (sndE elt (g.toGood.blk s H scope C cl fp) b5).pe)
        | [], h3, _ => cases h3
        | ⟨_, _, _, _⟩ :: _ :: _, h3, _ => cases h3
      | _ => cases k2
    | _ => cases k1
mutual
theorem sndT : ∀ (s : CT) {t : Stmt}, GoodS X sc E G fns exs → okT X.N fns exs sc s t = true → PTs' X E F0 m0 H0 G s t
  | .expr e, t, g, h => by
    cases t with
    | Expr v p => exact st_expr (not_ok (and_ok h).1) (sndE e g.toGood (and_ok h).2)
    | _ => cases h
  | .set i e, t, g, h => by
    cases t with
    | Assign ts v p =>
      cases ts with
      | nil => cases h
      | cons a r =>
        cases r with
        | cons _ _ => cases a <;> cases h
        | nil =>
          cases a with
          | Name x q => exact set_sound g h
          | _ => cases h
    | _ => cases h
  | .newD i, t, g, h => by
    cases t with
    | Assign ts v p =>
      cases ts with
      | nil => cases h
      | cons a r =>
        cases r with
        | cons _ _ => cases a <;> cases h
        | nil =>
          cases a with
          | Name x q =>
            cases v with
            | Dict ks vs p2 =>
              cases ks with
              | nil =>
                cases vs with
                | nil => exact st_newD g h
                | cons _ _ => cases h
              | cons _ _ => cases h
            | _ => cases h
          | _ => cases h
    | _ => cases h
  | .newL i es, t, g, h => by
    cases t with
    | Assign ts v p =>
      cases ts with
      | nil => cases h
      | cons a r =>
        cases r with
        | cons _ _ => cases a <;> cases h
        | nil =>
          cases a with
          | Name x q =>
            cases v with
            | List xs p2 => exact st_newL g (and_ok h).1 (sndA es g.toGood (and_ok h).2)
            | _ => cases h
          | _ => cases h
    | _ => cases h
  | .ref i es, t, g, h => by
    cases t with
    | Assign ts v p =>
      cases ts with
      | nil => cases h
      | cons a r =>
        cases r with
        | cons _ _ => cases a <;> cases h
        | nil =>
          cases a with
          | Name x q =>
            cases v with
            | List xs p2 => exact st_ref g (and_ok h).1 (sndA es g.toGood (and_ok h).2)
            | _ => cases h
          | _ => cases h
    | _ => cases h
  | .setT is e, t, g, h => by
    cases t with
    | Assign ts v p =>
      cases ts with
      | nil => cases h
      | cons a r =>
        cases r with
        | cons _ _ => cases a <;> cases h
        | nil =>
          cases a with
          | Tuple ts k q =>
            obtain ⟨h1, h2⟩ := and_ok h
            exact st_setT g h1 (and_ok h2).1 (sndE e g.toGood (and_ok h2).2)
          | _ => cases h
    | _ => cases h
  | .par is es, t, g, h => by
    cases t with
    | Assign ts v p =>
      cases ts with
      | nil => cases h
      | cons a r =>
        cases r with
        | cons _ _ => cases a <;> cases h
        | nil =>
          cases a with
          | Tuple ts k q =>
            cases v with
            | Tuple vs k2 q2 => exact st_par g (and_ok h).1 (sndA es g.toGood (and_ok h).2)
            | _ => cases h
          | _ => cases h
    | _ => cases h
  | .upd i e, t, g, h => by
    cases t with
    | Expr v p =>
      cases v with
      | Call f args kws cpos =>
        cases f with
        | Attribute o nm apos =>
          cases o with
          | Name x q =>
            match args, kws, h with
            | [v], [], h =>
              obtain ⟨h1, h2⟩ := and_ok h
              obtain ⟨h2, h3⟩ := and_ok h2
              obtain ⟨h3, h4⟩ := and_ok h3
              exact st_upd g (of_decide_eq_true (and_ok h1).1) (and_ok h1).2 (of_decide_eq_true h2) h3 (sndE e g.toGood h4)
            | [], _, h => cases h
            | _ :: _ :: _, _, h => cases h
            | [_], _ :: _, h => cases h
          | _ => cases h
        | _ => cases h
      | _ => cases h
    | _ => cases h
  | .rfadd o idx e, t, g, h => by
    cases t with
    | AugAssign tg op v p =>
      cases tg with
      | Subscript x y q =>
        cases op with
        | Add =>
          obtain ⟨h1, h2⟩ := and_ok h
          obtain ⟨h2, h3⟩ := and_ok h2
          obtain ⟨h3, h4⟩ := and_ok h3
          exact st_rfadd g (not_ok h1) (sndE o g.toGood h2) (sndE idx g.toGood h3) (sndE e g.toGood h4)
        | _ => cases h
      | _ => cases h
    | _ => cases h
  | .ite c a b, t, g, h => by
    cases t with
    | If e p q pos =>
      obtain ⟨h1, h2⟩ := and_ok h
      obtain ⟨h2, h3⟩ := and_ok h2
      exact st_ite (sndE c g.toGood h1) (sndB a g h2) (sndB b g h3)
    | _ => cases h
  | .for_ tg src body, t, g, h => by
    cases t with
    | For te it sts els pos =>
      cases els with
      | cons _ _ => cases h
      | nil =>
        obtain ⟨h1, h2⟩ := and_ok h
        obtain ⟨k1, k2⟩ := and_ok h1
        obtain ⟨h2, h3⟩ := and_ok h2
        obtain ⟨h3, h4⟩ := and_ok h3
        exact st_for g k2 (not_ok h2) ((sndS src g.toGood h3).1 (notKeys_ok k1)) (sndB body g h4)
    | _ => cases h
  | .ret e, t, g, h => by
    cases t with
    | Return v p =>
      cases v with
      | some v => exact st_ret (sndE e g.toGood h)
      | none => cases h
    | _ => cases h
  | .retN, t, g, h => by
    cases t with
    | Return v p =>
      cases v with
      | some v => cases h
      | none => exact st_retN
    | _ => cases h
  | .raise c fld e, t, g, h => by
    cases t with
    | Raise ex cause p =>
      cases ex with
      | none => cases h
      | some v =>
        cases v with
        | Call f args kws cp =>
          cases f with
          | Name x q =>
            match args, kws, cause, h with
            | [v], [], none, h =>
              obtain ⟨h1, h2⟩ := and_ok h
              obtain ⟨h2, h3⟩ := and_ok h2
              obtain ⟨z, z1, z2⟩ := List.any_eq_true.mp h2
              have z2 : z = (c, fld) := of_decide_eq_true z2
              subst z2
              exact st_raise g (of_decide_eq_true (and_ok h1).1) (and_ok h1).2 z1 (and_ok h3).1 (sndE e g.toGood (and_ok h3).2)
            | [], _, _, h => cases h
            | _ :: _ :: _, _, _, h => cases h
            | [_], _ :: _, _, h => cases h
            | [_], [], some _, h => cases h
          | _ => cases h
        | _ => cases h
    | _ => cases h
  | .pass, t, g, h => by
    cases t with
    | Pass p => exact st_pass
    | _ => cases h
  | .brk, t, g, h => by
    cases t with
    | Break p => exact st_brk
    | _ => cases h
  | .cont, t, g, h => by
    cases t with
    | Continue p => exact st_cont
    | _ => cases h
  | .frz _, t, g, h => by cases t <;> cases h
  | .app .., t, g, h => by cases t <;> cases h
  | .dset .., t, g, h => by cases t <;> cases h
  | .aug .., t, g, h => by cases t <;> cases h
  | .while_ .., t, g, h => by cases t <;> cases h
theorem sndB : ∀ (b : CB) {sts : List Stmt}, GoodS X sc E G fns exs → okB X.N fns exs sc b sts = true → PBs' X E F0 m0 H0 G b sts
  | .nil, sts, g, h => by
    cases sts with
    | nil => exact bl_nil
    | cons _ _ => cases h
  | .cons s r, sts, g, h => by
    rcases isFrz s with ⟨i, rfl⟩ | n
    · exact bl_frz (sndB r g (by cases sts <;> exact h))
    · obtain ⟨t, ts, rfl, h1, h2⟩ := okB_cons n h
      exact bl_cons (sndT s g h1) (sndB r g h2)
end
end
end PC
set_option linter.all false
set_option maxRecDepth 100000
set_option maxHeartbeats 2000000
set_option autoImplicit false
/-! PC, part u: all defs of a table, by the depth of their calls. -/
namespace PC
open PySem PySem.Spec PyProof.Rows L2
/-- the making of an exception, wherever there is room -/
def RaiseK (P : Program) (w : PySem.World) (K : PySem.W.Frag) (mg : Str → Option Value) (base : Heap) (c f : Str) : Prop := ∀ X : Cx, X.prog = P → X.w = w → X.K = K → X.mg = mg → X.base = base → Room 3 X.A → RaiseOk X c f
structure DefOk (K : PySem.W.Frag) (mg : Str → Option Value) (T : List Fn) (fns : List (Str × Nat × Nat)) (exs : List (Str × Str)) (g : Fn) (N ps : List Str) : Prop where
  fun_ : ∃ (qual : Str) (params : Arguments) (body : List Stmt) (scope : Scope) (dvs : List V) (fa : Addr) (fd : FuncData), FunD K g.name qual params body scope dvs [] fa fd ∧ mg g.name = some (.ref fa) ∧ FnScope N ps scope ∧ okB N fns exs scope g.body body = true ∧
    (∀ F m, RvL K F m dvs g.dfl) ∧ ∀ n, g.arity ≤ n + g.dfl.length → n ≤ g.arity → ∃ ds, Vals (dvs.drop (n + g.dfl.length - g.arity)) ds ∧ Binds K fd ps ds
  ar : g.arity = ps.length
  sl : g.slots = N.length
  find : T.find? (fun h => h.name == g.name) = some g
/-- what is told of a whole table -/
structure TabOk (P : Program) (w : PySem.World) (K : PySem.W.Frag) (mg : Str → Option Value) (base : Heap) (T : List Fn) (exs : List (Str × Str)) : Prop where
  defs : ∀ g ∈ T, ∃ N ps, DefOk K mg T (T.map fun g => (g.name, g.arity - g.dfl.length, g.arity)) exs g N ps
  exs : ∀ c f, (c, f) ∈ exs → RaiseK P w K mg base c f
  free : ∀ x ∈ bnames, mg x = none
  nl : ∀ g ∈ T, g.name ≠ "<lambda>"
theorem call_def {T : List Fn} {g : Fn} (h : T.find? (fun h => h.name == g.name) = some g) (n : Nat) (xs : List PV) (st : Store) : call T (n + 1) g.name xs st = if g.arity < xs.length ∨ xs.length + g.dfl.length < g.arity then .bad else bodyR (call T n) g (xs ++ g.dfl.drop (xs.length + g.dfl.length - g.arity)) st := by
  show (match T.find? (fun h => h.name == g.name) with
    | none => R.bad
    | some g => if g.arity < xs.length ∨ xs.length + g.dfl.length < g.arity then R.bad else bodyR (call T n) g (xs ++ g.dfl.drop (xs.length + g.dfl.length - g.arity)) st) = _
  rw [h]
theorem call_dfl {T : List Fn} {g : Fn} (h : T.find? (fun h => h.name == g.name) = some g) (n : Nat) (xs : List PV) (st : Store) (h1 : g.arity ≤ xs.length + g.dfl.length) (h2 : xs.length ≤ g.arity) : call T n g.name xs st = call T n g.name (xs ++ g.dfl.drop (xs.length + g.dfl.length - g.arity)) st := by
  cases n with
  | zero => rfl
  | succ n =>
    have hl : (xs ++ g.dfl.drop (xs.length + g.dfl.length - g.arity)).length = g.arity := by
      rw [List.length_append, List.length_drop]
      omega
    rw [call_def h, call_def h, hl, if_neg (by omega), if_neg (by omega)]
    have e : g.dfl.drop (g.arity + g.dfl.length - g.arity) = [] := by
      rw [List.drop_eq_nil_iff]
      omega
    rw [e, List.append_nil]
theorem start_env {K : PySem.W.Frag} {F H : Hp} {m : List Addr} {N : List Str} : ∀ {ds : List PV} {vs : List V}, RvL K F m vs ds → ER K F m H (start N vs) (ds.map (fun v => some (.val v)) ++ List.replicate (N.length - ds.length) none) := fun {ds vs} r => by
  have hl := r.length
  have no : ∀ (i : Nat) (d : PV), (ds.map (fun v => some (Slot.val v)) ++ List.replicate (N.length - ds.length) none)[i]? ≠ some (some (.own d)) := fun i d h => by
    by_cases hi : i < ds.length
    · rw [List.getElem?_append_left (by simpa using hi), List.getElem?_map, List.getElem?_eq_getElem hi] at h
      cases h
    · rw [List.getElem?_append_right (by simpa using hi), List.getElem?_replicate] at h
      split at h <;> cases h
  refine ⟨fun i d h => ?_, fun i d h => absurd h (no i d), fun i j d e a _ h => absurd h (no i d), ?_⟩
  · by_cases hi : i < ds.length
    · rw [List.getElem?_append_left (by simpa using hi), List.getElem?_map, List.getElem?_eq_getElem hi] at h
      cases h
      obtain ⟨v, h1, h2⟩ := r.get (List.getElem?_eq_getElem hi)
      refine ⟨v, ?_, h2⟩
      unfold L2.start
      rw [List.getElem?_append_left (by rw [List.length_map, hl]; exact hi), List.getElem?_map, h1]
      rfl
    · rw [List.getElem?_append_right (by simpa using hi), List.getElem?_replicate] at h
      split at h <;> cases h
  · unfold L2.start
    rw [List.length_append, List.length_append, List.length_map, List.length_map, List.length_replicate, List.length_replicate, hl]
theorem entry {K : PySem.W.Frag} {mg : Str → Option Value} {E : XK} {F H : Hp} {m : List Addr} {st : Store} {N : List Str} {G : Ops} {g : Fn} {ds : List PV} {vs : List V} {Q : VK} (hs : g.slots = N.length) (s : SR K F m st H) (r : RvL K F m vs ds) (h : Post K mg E F m H (AV K) (bodyR G g ds st) Q) :
    tS K mg E F m H (evB G g.body) { nx := fun _ H' => Q .non H', rt := Q } (start N vs) H := by
  have er := start_env (H := H) (N := N) r
  refine ⟨F, m, st, _, ⟨.refl, s, er, fun i d a h1 _ => ?_⟩, ?_⟩
  · obtain ⟨a', q1, q2, q3, q4⟩ := er.own i d h1
    have no : (ds.map (fun v => some (Slot.val v)) ++ List.replicate (N.length - ds.length) none)[i]? ≠ some (some (.own d)) := fun h => by
      by_cases hi : i < ds.length
      · rw [List.getElem?_append_left (by simpa using hi), List.getElem?_map, List.getElem?_eq_getElem hi] at h
        cases h
      · rw [List.getElem?_append_right (by simpa using hi), List.getElem?_replicate] at h
        split at h <;> cases h
    exact absurd h1 no
  · have h : Post K mg E F m H (AV K) (match evB G g.body (ds.map (fun v => some (.val v)) ++ List.replicate (g.slots - ds.length) none) st with
      | .nx _ st => .ok .non st
      | .rt v st => .ok v st
      | .ex c fs _ st => .exc c fs st
      | _ => .bad) Q := h
    rw [hs] at h
    cases e : evB G g.body (ds.map (fun v => some (.val v)) ++ List.replicate (N.length - ds.length) none) st with
    | nx ρ' st' =>
      rw [e] at h
      exact fun F' m' H' σ' i sq => h F' m' H' .non i.stp i.sr .non
    | rt v st' =>
      rw [e] at h
      exact fun F' m' H' u s1 r1 hv => h F' m' H' u s1 r1 hv
    | ex c fs ρ' st' =>
      rw [e] at h
      exact fun F' m' H' cv d s1 r1 x1 => h F' m' H' cv d s1 r1 x1
    | bk ρ' st' => rw [e] at h; exact h.elim
    | ct ρ' st' => rw [e] at h; exact h.elim
    | bad => rw [e] at h; exact h.elim
section
variable {P : Program} {w : PySem.World} {K : PySem.W.Frag} {mg : Str → Option Value} {base : Heap} {T : List Fn} {exs : List (Str × Str)}
abbrev sigs (T : List Fn) : List (Str × Nat × Nat) := T.map fun g => (g.name, g.arity - g.dfl.length, g.arity)
/-- a def's body is in a good context -/
theorem good_of (ok : TabOk P w K mg base T exs) {n : Nat} (lv : ∀ g ∈ T, ∀ A, Room (3 + 3 * n) A → CallOk P w K mg base A (call T n) g.name (g.arity - g.dfl.length) g.arity)
    {N ps : List Str} {qual : Str} {scope : Scope} {fa : Addr} {cdv : Value} {A : Around} {outer : List PySem.Env} {s : Shared} {H : Hp} {E : XK} (S : FnScope N ps scope) (hr : Room (3 + 3 * n + 2) (A.deeper (envOfC qual scope s.heap.objs.size fa cdv))) :
    GoodS (cxOf (L2.CX P w) P w K mg base N qual scope fa cdv A outer s H E) scope E (call T n) (sigs T) exs where
  calm := rfl
  nd := S.nd
  vis := fun _ h => h
  gl := fun _ h => h
  loc := fun _ h => ⟨h, .inl rfl⟩
  cf := fun _ h => h
  tk := takes_of rfl rfl rfl rfl
  hu := hr.units
  free := ok.free
  fns := fun f lo hi hm _ => by
    obtain ⟨g, hg, e⟩ := List.mem_map.mp hm
    cases e
    exact lv g hg _ (hr.mono (by omega))
  isc := rfl
  kd := S.kind
  hp := passes_of rfl
  part := fun h => by
    obtain ⟨g, hg, e⟩ := List.mem_map.mp h
    exact absurd (congrArg (fun z => z.1) e) (ok.nl g hg)
  exs := fun c f hm => ok.exs c f hm _ rfl rfl rfl rfl rfl (hr.mono (by omega))
theorem levels (ok : TabOk P w K mg base T exs) : ∀ n, ∀ g ∈ T, ∀ A, Room (3 + 3 * n) A → CallOk P w K mg base A (call T n) g.name (g.arity - g.dfl.length) g.arity
  | n, g, hg, A, hr => by
    obtain ⟨N, ps, D⟩ := ok.defs g hg
    obtain ⟨qual, params, body, scope, dvs, fa, fd, hF, hm, S, hok, hdv, hb⟩ := D.fun_
    refine ⟨fa, fd, ps, 3 + 3 * n, hm, hF.kp, hr, ?_, fun k h1 h2 => ?_⟩
    · cases n with
      | zero => exact ⟨fun vs H Q E h => h.1, fun A outer s H args us vs Q E _ _ _ _ h => by
          obtain ⟨_, F, m, st, ds, _, _, q⟩ := h
          exact q.elim⟩
      | succ n =>
        refine hF.ok S (fun vs H Q E h => h.1) fun cdv A outer s H vs Q E hr h => ?_
        obtain ⟨hl, F, m, st, ds, sr, rv, q⟩ := h
        have hl2 : ds.length = g.arity := by rw [← rv.length, hl, D.ar]
        rw [call_def D.find, if_neg (by omega)] at q
        have e : g.dfl.drop (ds.length + g.dfl.length - g.arity) = [] := by
          rw [List.drop_eq_nil_iff]
          omega
        rw [e, List.append_nil] at q
        have gd := good_of ok (levels ok n) (outer := outer) (s := s) (H := H) (E := E) (A := A) S hr
        exact ⟨_, sndB g.body gd hok, entry D.sl sr rv q⟩
    · obtain ⟨ds, q1, q2⟩ := hb k (by omega) h2
      have hdl : ∀ F m, RvL K F m (dvs.drop (k + g.dfl.length - g.arity)) (g.dfl.drop (k + g.dfl.length - g.arity)) := fun F m => (hdv F m).drop _
      refine ⟨ds, _, g.dfl.drop (k + g.dfl.length - g.arity), q1, hdl, q2, ?_, fun xs st hx => ?_⟩
      · rw [List.length_drop, ← D.ar]
        omega
      · have := call_dfl D.find n xs st (by omega) (by omega)
        rw [hx] at this
        exact this
end
end PC
set_option linter.all false
set_option maxRecDepth 100000
set_option maxHeartbeats 2000000
set_option autoImplicit false
/-! PC, part v: exceptions of one field; a lambda handed to the law's own def. -/
namespace PC
open PySem PySem.Spec PyProof.Rows L2
/-- a class whose __init__ keeps one thing -/
structure ExcCls (K : PySem.W.Frag) (mg : Str → Option Value) (c fld : Str) : Prop where
  ex : ∃ (C fI : Addr) (fd : FuncData) (qual s x : Str) (params : Arguments) (scope : Scope) (q1 q2 q3 q4 : Pos), mg c = some (.ref C) ∧ OexC K C ∧ PySem.W.findIn K (.ref C) "__init__" = some (some (.ref fI)) ∧ PySem.W.typeIn K (.ref fI) = some (.type "function") ∧ PySem.W.findIn K (.ref C) fld = some none ∧
    FunD K "__init__" qual params [.Assign [.Attribute (.Name s q1) fld q2] (.Name x q3) q4] scope [] [] fI fd ∧ FnScope [s, x] [s, x] scope ∧ Binds K fd [s, x] [] ∧ (visB scope s && nameOk s) = true ∧ (visB scope x && nameOk x) = true
section
variable {P : Program} {w : PySem.World} {K : PySem.W.Frag} {mg : Str → Option Value} {base : Heap}
theorem raise_of {c fld : Str} (hn : nameOk c = true) (X0 : ExcCls K mg c fld) : RaiseK P w K mg base c fld := by
  intro X eP ew eK em eb hr
  subst eP ew eK em eb
  obtain ⟨C, fI, fd, qual, s, x, params, scope, q1, q2, q3, q4, hm, T, iC, tI, hno, F, S, hb, v1, v2⟩ := X0.ex
  have F1 : FnOk X.prog X.w X.K X.mg X.base (L2.CX X.prog X.w) 1 fI fd [s, x] (spInit C fld) := by
    refine F.ok S (fun vs H Q E h => ?_) fun cdv A outer s0 H vs Q E hr h => ⟨_, pss_one (ps_ost (pe_var (i := 0) rfl (visB_ok (and_ok v1).1) (nameOk_ok (and_ok v1).2).1 (nameOk_ok (and_ok v1).2).2.1) (pe_var (i := 1) rfl (visB_ok (and_ok v2).1) (nameOk_ok (and_ok v2).2).1 (nameOk_ok (and_ok v2).2).2.1)), ?_⟩
    · obtain ⟨a, y, rfl, _⟩ := h
      rfl
    · obtain ⟨a, y, rfl, ha, q⟩ := h
      exact ⟨y, rfl, .ref a, rfl, a, C, rfl, T, hno, .inl ⟨ha, fun dx hn ne => q dx hn ne⟩⟩
  refine ⟨C, hm, fun {e p pos ta} hg h1 ha => ?_⟩
  exact pmk_oex (p := p) (pos := pos) T iC tI F1 (hr.mono (by omega)) hb .nil passL hg hm ha (nameOk_ok hn).1 (starEach_cons [] X.env h1) rfl
end
/-! ### the law's def that tells what its deed raises -/
def TTp (CS : Addr) (fld ret : Str) : (XK → Hp → VK → Prop) → Hp → VK → Prop := fun tl H Q =>
  tl (fun cls d H' => cls = .ref CS ∧ ∃ dd fs v, d = some dd ∧ H' dd = some (.xd fs) ∧ fs.lookup fld = some v ∧ Q v H') H (fun _ H' => Q (.str ret) H')
theorem takes_len {X : Cx} {W : WX} (tk : L2.Takes X W) : L2.Takes X (fun c d σ H => σ.length = X.N.length → W c d σ H) := fun u s' ⟨a, B, sI, pins, σ, H, cls, d, e, I, x1, x2, x3, x4, x5, x6, w⟩ => tk u s' ⟨a, B, sI, pins, σ, H, cls, d, e, I, x1, x2, x3, x4, x5, x6, w I.len⟩
theorem part_gives {X : Cx} {x a n e q fld ret : Str} {sg : Scope} {g CS : Addr} {cdg : Value} {j : Nat} {p1 p2 p3 p4 p5 p6 p7 p8 p9 p10 p11 : Pos} (nd : [a, n].Nodup) (hge : sg.names.lookup e = some .globalImplicit) (hln : sg.names.lookup n = some .local) (hnn : nameOk n = true) (hme : X.mg e = some (.ref CS)) (hde : (e == ("__debug__" : Str)) = false)
    (xf : XfC X.K CS) (hno : PySem.W.findIn X.K (.ref CS) fld = some none) (hex : PySem.W.exmOne X.K (.ref CS) (.ref CS) = some true) :
    LamX.GivesTo X [a, n] x sg g cdg [.Try [.Expr (.Call (.Name a p1) [] [] p2) p3] [.ExceptHandler (some (.Name e p4)) (some n) [.Return (some (.Attribute (.Name n p5) fld p6)) p7] p8] [] [] p9, .Return (some (.Constant (.str ret) j p10)) p11] a q (TTp CS fld ret) := by
  intro f c' s H Q tl act hc h
  have hgl : Gl (cxOf C8.CX0 X.prog X.w X.K X.mg X.base [a, n] x sg g cdg X.A X.stack s H C8.E0).nox e := hge
  obtain ⟨n1, n2, _⟩ := nameOk_ok hnn
  refine ⟨_, pss_cons (ps_try_as (X := (cxOf C8.CX0 X.prog X.w X.K X.mg X.base [a, n] x sg g cdg X.A X.stack s H C8.E0).nox) (i := 1) (n := n) (c := .ref CS)
      (tb := fun W D σ H => ∃ Ech : XK, (∀ cls d σ' H', Ech cls d H' → σ'.length = 2 → W cls d σ' H') ∧ σ[0]? = some (some (.ref f)) ∧ H c' = some (LamX.CodeO c' q) ∧ tl Ech H (fun _ H' => D.nx σ H'))
      (ts := fun a' cls d => tRet (tXf a' cls d CS fld (tVar 1)))
      rfl rfl nd rfl hln ⟨hgl, hde, .inl hme⟩ L2.takes0 (fun W pn xe tk _ => ?_) (fun a' oe cls d pn hz hf => pss_one (ps_ret (pe_xf xf hno hz hf (pe_var (i := 1) rfl (.inl hln) n1 n2))))) (pss_one (ps_ret pe_str)), ?_⟩
  · refine ⟨fun pins s' σ H' D I h' => ?_⟩
    obtain ⟨Ech, hW, h1, h2, h3⟩ := h'
    have hp := act (fun c d σ H => σ.length = 2 → W c d σ H) pn xe Ech p1 p2 (takes_len tk) hW
    have hq := pss_one (ps_expr (pos := p3) hp rfl)
    exact hq.run pins s' σ H' D I ⟨h1, h2, h3⟩
  · refine ⟨_, fun cls d σ' H' ⟨ec, dd, fs, v, e1, e2, e3, e4⟩ hl => ⟨true, by rw [ec]; exact hex, fun _ a' na => ?_, fun z => by cases z⟩, rfl, hc, h⟩
    refine ⟨.ref a', List.getElem?_set_self (by rw [hl]; decide), rfl, ec, dd, fs, v, e1, e2, e3, e4⟩
end PC
set_option linter.all false
set_option maxRecDepth 100000
set_option maxHeartbeats 2000000
set_option autoImplicit false
/-! PC, part w: the law's def, with lambdas. -/
namespace PC
open PySem PySem.Spec PyProof.Rows L2
/-- what is known of the law's def that tells what its deed raises -/
structure LawPart (K : PySem.W.Frag) (mg : Str → Option Value) : Prop where
  ex : ∃ (g CS : Addr) (fd : FuncData) (params : Arguments) (sg : Scope) (a n : Str) (j : Nat) (p1 p2 p3 p4 p5 p6 p7 p8 p9 p10 p11 : Pos),
    FunD K "_law_part" "_law_part" params [.Try [.Expr (.Call (.Name a p1) [] [] p2) p3] [.ExceptHandler (some (.Name "BadTerm" p4)) (some n) [.Return (some (.Attribute (.Name n p5) "part" p6)) p7] p8] [] [] p9, .Return (some (.Constant (.str "none") j p10)) p11] sg [] [] g fd ∧
    mg "_law_part" = some (.ref g) ∧ FnScope [a, n] [a] sg ∧ Binds K fd [a] [] ∧ (visB sg a && nameOk a) = true ∧ (locOnly sg n && nameOk n) = true ∧ glB sg "BadTerm" = true ∧ mg "BadTerm" = some (.ref CS) ∧ XfC K CS ∧ PySem.W.findIn K (.ref CS) "part" = some none ∧ PySem.W.exmOne K (.ref CS) (.ref CS) = some true
theorem noArgs_ok {ps : Arguments} (h : noArgs ps = true) : ps = ⟨[], [], none, [], [], none, []⟩ := by
  obtain ⟨a, b, c, d, e, f, g⟩ := ps
  cases a <;> cases b <;> cases c <;> cases d <;> cases e <;> cases f <;> cases g <;> first | rfl | cases h
section
variable {K : PySem.W.Frag} {F H H1 : Hp} {m : List Addr} {st : Store}
/-- only tables grew -/
theorem sr_ext (s : SR K F m st H) (e : LamX.ExtN H H1) (t : LamX.Tabs (tabsK K) H1) : SR K F m st H1 where
  sub := fun a o h => by
    rcases s.sub a o h with q | ⟨k, od, e1, q⟩
    · exact .inl (e a o q fun ps z => s.nt a ps (by rw [h, z]))
    · exact .inr ⟨k, od, e1, e a _ q not_frz⟩
  nt := s.nt
  tab := t
  nd := s.nd
  len := s.len
  cell := fun k a xs e1 e2 => by
    obtain ⟨q1, ⟨vs, q2, q3⟩, q4⟩ := s.cell k a xs e1 e2
    exact ⟨q1, ⟨vs, e a _ q2 not_lst, q3⟩, q4⟩
theorem stp_ext (e : LamX.ExtN H H1) : Stp F m H F m H1 := ⟨.refl, fun _ _ h => .inl h, fun a o h _ t => e a o h t, fun a o h t => ⟨o, e a o h t, t⟩, .refl, fun _ h => .inl h⟩
end
section
variable {P : Program} {w : PySem.World} {K : PySem.W.Frag} {mg : Str → Option Value} {base : Heap} {T : List Fn} {exs : List (Str × Str)}
theorem part_law (ok : TabOk P w K mg base T exs) {n : Nat} {N ps : List Str} {lawName : Str} {scope : Scope} {fa c P0 : Addr} {A : Around} {outer : List PySem.Env} {s : Shared} {H : Hp} {E : XK} (LP : LawPart K mg) (TB : LamX.TabB base mg c P0)
    (hT : (P0, (lawName ++ ".<locals>.") ++ "<lambda>") ∈ tabsK K) (hu : ∀ p ∈ tabsK K, p.1 = P0 → p.2 = (lawName ++ ".<locals>.") ++ "<lambda>") (S : FnScope N ps scope) (hr : Room (3 + 3 * n + 2) (A.deeper (envOfC lawName scope s.heap.objs.size fa (.ref c)))) :
    PartK (cxOf (L2.CX P w) P w K mg base N lawName scope fa (.ref c) A outer s H E) scope (WE E) (call T n) (lamFns (lamMark :: sigs T)) := by
  intro body e params lsc lpos p pos hna hls hg hbody
  have hna := noArgs_ok hna
  subst hna
  obtain ⟨g, CS, fd, pg, sg, a, nn, j, p1, p2, p3, p4, p5, p6, p7, p8, p9, p10, p11, hF, hm, Sg, hb, hva, hvn, hge, hme, xf, hno, hex⟩ := LP.ex
  obtain ⟨oc, od, dV, kV, doc, pm, an, cdv, ct, osl, rfl, lk, hcd, _, _⟩ := hF.ex
  obtain ⟨va, na⟩ := and_ok hva
  obtain ⟨ln, nnk⟩ := and_ok hvn
  obtain ⟨n1, n2, _⟩ := nameOk_ok na
  have L : LamX.LamS scope lsc := LamX.lamS_by hls
  have hG : LamX.GivesTo (cxOf (L2.CX P w) P w K mg base N lawName scope fa (.ref c) A outer s H E) [a, nn] "_law_part" sg g cdv _ a ((lawName ++ ".<locals>.") ++ "<lambda>") (TTp CS "part" "none") :=
    part_gives (X := cxOf (L2.CX P w) P w K mg base N lawName scope fa (.ref c) A outer s H E) (cdg := cdv) (p1 := p1) (p2 := p2) (p3 := p3) (p4 := p4) (p5 := p5) (p6 := p6) (p7 := p7) (p8 := p8) (p9 := p9) (p10 := p10) (p11 := p11) (j := j) Sg.nd (glB_ok hge) (locOnly_ok ln) nnk hme (by decide) xf hno hex
  have pe := LamX.pe_lamcall (X := cxOf (L2.CX P w) P w K mg base N lawName scope fa (.ref c) A outer s H E) (T := tabsK K) (k := 3 + 3 * n) (params := ⟨[], [], none, [], [], none, []⟩) (p := p) (lpos := lpos) (pos := pos) (t := fun E' => tX K mg (fun c d _ H => E' c d H) body) hg hm hF.kp lk hcd hb Sg rfl (visB_ok va) hG TB rfl hT hu hr L rfl (fun _ _ _ _ _ => rfl)
    (fun A' outer' s' H' E' f c' hr' => hbody _ E' rfl rfl rfl {
      calm := rfl
      nd := S.nd
      vis := fun _ h => h
      gl := fun _ h => h
      loc := fun x h => by
        rcases h with h | h
        · exact absurd rfl (L.own _ (PySem.mem_of_lookup h)).1
        · exact absurd rfl (L.own _ (PySem.mem_of_lookup h)).2
      cf := fun _ h => h
      tk := takes_of rfl rfl rfl rfl
      hu := hr'.units
      free := ok.free
      fns := fun f lo hi hm hz => by
        have h1 := lamFns_sub hm
        rcases List.mem_cons.mp h1 with e | h1
        · exact absurd (e ▸ hm) lamFns_no
        · obtain ⟨g, hg, e⟩ := List.mem_map.mp h1
          cases e
          exact levels ok n g hg _ hr' }) (by decide) n1 n2
  refine PE_imp pe fun σ H2 Q ⟨F, m, st, ρ, sr, er, q⟩ => ⟨sr.tab, fun H3 eN tN => ?_⟩
  have sr3 := sr_ext sr eN tN
  have s3 : Stp F m H2 F m H3 := stp_ext eN
  refine ⟨F, m, st, ρ, sr3, er.step s3, ?_⟩
  have q : Post K mg (fun c d H' => E c d H') F m H2 (AV K) (partR "BadTerm" "part" (body ρ st)) Q := q
  have q := Post.step s3 q
  show Post K mg _ F m H3 (AV K) (body ρ st) _
  cases eb : body ρ st with
  | ok v st1 =>
    rw [eb] at q
    exact fun F1 m1 H4 v1 s1 r1 hv => q F1 m1 H4 _ s1 r1 (.str _)
  | bad =>
    rw [eb] at q
    exact q
  | exc c' fs st1 =>
    rw [eb] at q
    match fs, q with
    | [(f, v)], q =>
      have q : Post K mg (fun c d H' => E c d H') F m H3 (AV K) (if c' = "BadTerm" ∧ f = "part" then .ok v st1 else .bad) Q := q
      split at q
      · rename_i hc
        obtain ⟨rfl, rfl⟩ := hc
        intro F1 m1 H4 cv d s1 r1 x1
        obtain ⟨C, dd, gs, x2, x3, x4, x5, x6, x7⟩ := x1
        rw [hme] at x2
        cases x2
        match gs, x6, x7 with
        | [(f, u)], x6, .cons hv .nil =>
          have ef : f = "part" := by
            have : [f] = [("part" : Str)] := x6
            injection this
          subst ef
          refine ⟨x3, dd, [("part", u)], u, x4, x5, ?_, q F1 m1 H4 u s1 r1 hv⟩
          simp [List.lookup]
      · exact q.elim
    | [], q => exact q.elim
    | _ :: _ :: _, q => exact q.elim
/-- what the law's def promises -/
def spLaw (K : PySem.W.Frag) (mg : Str → Option Value) (G : Ops) (g : Fn) : Sp := fun vs H Q E => vs.length = 1 ∧ ∃ F m st ds, SR K F m st H ∧ RvL K F m vs ds ∧ Post K mg E F m H (AV K) (bodyR G g ds st) Q
theorem law_ok (ok : TabOk P w K mg base T exs) {n : Nat} {N : List Str} {x lawName : Str} {params : Arguments} {body : List Stmt} {scope : Scope} {fa : Addr} {fd : FuncData} {g : Fn} (hF : FunD K lawName lawName params body scope [] [] fa fd) (S : FnScope N [x] scope) (hsl : g.slots = N.length)
    (hok : okB N (lamMark :: sigs T) exs scope g.body body = true) (LP : LawPart K mg)
    (hc : ∀ c, PySem.W.codeIn K (.ref c) lawName = true → fd.code = .ref c → ∃ P0, LamX.TabB base mg c P0 ∧ (P0, (lawName ++ ".<locals>.") ++ "<lambda>") ∈ tabsK K ∧ ∀ p ∈ tabsK K, p.1 = P0 → p.2 = (lawName ++ ".<locals>.") ++ "<lambda>") :
    FnOk P w K mg base (L2.CX P w) (3 + 3 * n + 2 + 1) fa fd [x] (spLaw K mg (call T n) g) := by
  obtain ⟨oc, od, dV, kV, doc, pm, an, cdv, ct, osl, rfl, lk, hcd, _, _⟩ := hF.ex
  obtain ⟨c, rfl⟩ := He.codeIn_ref hcd
  obtain ⟨P0, TB, h1, h2⟩ := hc c hcd rfl
  refine fn_of lk hcd S (fun vs H Q E h => h.1) fun A outer s H vs Q E hr h => ?_
  obtain ⟨hl, F, m, st, ds, sr, rv, q⟩ := h
  have gd := good_of ok (levels ok n) (outer := outer) (s := s) (H := H) (E := E) (A := A) S hr
  have gd2 : GoodS (cxOf (L2.CX P w) P w K mg base N lawName scope fa (.ref c) A outer s H E) scope E (call T n) (lamMark :: sigs T) exs := {
    gd with
    fns := fun f lo hi hm hz => by
      rcases List.mem_cons.mp hm with e | hm
      · cases e
        exact absurd hz (by decide)
      · exact gd.fns f lo hi hm hz
    part := fun _ => part_law ok LP TB h1 h2 S hr }
  exact ⟨_, sndB g.body gd2 hok, entry hsl sr rv q⟩
end
end PC
set_option autoImplicit true
set_option linter.all false
set_option maxRecDepth 100000
namespace PC
open PySem
def N_is_row : List Str := ["thing"]
def b_is_row : CB := (.cons (.ret (.isi (.var 0) ["list", "tuple"])) .nil)
def f_is_row : Fn := { name := "is_row", arity := 1, slots := 1, dfl := [], body := b_is_row }
def N_is_number : List Str := ["thing"]
def b_is_number : CB := (.cons (.ret (.and (.isi (.var 0) ["int"]) (.and (.not (.isi (.var 0) ["bool"])) (.cmp .GtE (.var 0) (.con (.int 0)))))) .nil)
def f_is_number : Fn := { name := "is_number", arity := 1, slots := 1, dfl := [], body := b_is_number }
def N_is_below : List Str := ["thing", "bound"]
def b_is_below : CB := (.cons (.ret (.and (.call "is_number" (.cons (.var 0) .nil)) (.cmp .Lt (.var 0) (.var 1)))) .nil)
def f_is_below : Fn := { name := "is_below", arity := 2, slots := 2, dfl := [], body := b_is_below }
def N_check_condition : List Str := ["variables", "term", "deep", "word", "part", "value"]
def b_check_condition : CB := (.cons (.ite (.or (.cmp .Eq (.var 2) (.con (.int 0))) (.or (.not (.isi (.var 1) ["tuple"])) (.or (.cmp .Eq (.var 1) (.tup .nil)) (.not (.isi (.sub (.var 1) (.con (.int 0))) ["str"]))))) (.cons (.raise "BadTerm" "part" (.var 1)) .nil) .nil) (.cons (.set 3 (.sub (.var 1) (.con (.int 0)))) (.cons (.ite (.cmp .In (.var 3) (.tup (.cons (.con (.str "any")) (.cons (.con (.str "none")) .nil)))) (.cons (.ite (.cmp .NotEq (.b1 .len (.var 1)) (.con (.int 1))) (.cons (.raise "BadTerm" "part" (.var 1)) .nil) .nil) .nil) (.cons (.ite (.or (.and (.cmp .Eq (.var 3) (.con (.str "not"))) (.cmp .Eq (.b1 .len (.var 1)) (.con (.int 2)))) (.and (.cmp .In (.var 3) (.tup (.cons (.con (.str "and")) (.cons (.con (.str "or")) .nil)))) (.cmp .Eq (.b1 .len (.var 1)) (.con (.int 3))))) (.cons (.for_ (.one 4) (.of (.slc (.var 1) (.some (.con (.int 1))) .no)) (.cons (.expr (.call "check_condition" (.cons (.var 0) (.cons (.var 4) (.cons (.bin .Sub (.var 2) (.con (.int 1))) .nil))))) .nil)) .nil) (.cons (.ite (.and (.cmp .In (.var 3) (.tup (.cons (.con (.str "same")) (.cons (.con (.str "less")) .nil)))) (.cmp .Eq (.b1 .len (.var 1)) (.con (.int 3)))) (.cons (.for_ (.one 4) (.of (.slc (.var 1) (.some (.con (.int 1))) .no)) (.cons (.expr (.call "check_expression" (.cons (.var 0) (.cons (.var 4) (.cons (.bin .Sub (.var 2) (.con (.int 1))) .nil))))) .nil)) .nil) (.cons (.ite (.or (.cmp .NotEq (.var 3) (.con (.str "in"))) (.or (.cmp .NotEq (.b1 .len (.var 1)) (.con (.int 3))) (.or (.not (.call "is_variable" (.cons (.var 0) (.cons (.sub (.var 1) (.con (.int 1))) .nil)))) (.not (.call "is_row" (.cons (.sub (.var 1) (.con (.int 2))) .nil)))))) (.cons (.raise "BadTerm" "part" (.var 1)) .nil) (.cons (.ite (.not (.b1 .all (.lc [5] (.one 5) (.of (.sub (.var 1) (.con (.int 2)))) .no (.call "is_below" (.cons (.var 5) (.cons (.sub (.var 0) (.sub (.var 1) (.con (.int 1)))) .nil)))))) (.cons (.raise "BadTerm" "part" (.var 1)) .nil) .nil) .nil)) .nil)) .nil)) .nil)) .nil)))
def f_check_condition : Fn := { name := "check_condition", arity := 3, slots := 6, dfl := [.int 8], body := b_check_condition }
def N_check_expression : List Str := ["variables", "term", "deep", "word", "part"]
def b_check_expression : CB := (.cons (.ite (.or (.cmp .Eq (.var 2) (.con (.int 0))) (.or (.not (.isi (.var 1) ["tuple"])) (.or (.cmp .Lt (.b1 .len (.var 1)) (.con (.int 2))) (.not (.isi (.sub (.var 1) (.con (.int 0))) ["str"]))))) (.cons (.raise "BadTerm" "part" (.var 1)) .nil) .nil) (.cons (.set 3 (.sub (.var 1) (.con (.int 0)))) (.cons (.ite (.cmp .Eq (.var 3) (.con (.str "number"))) (.cons (.ite (.or (.cmp .NotEq (.b1 .len (.var 1)) (.con (.int 2))) (.not (.call "is_below" (.cons (.sub (.var 1) (.con (.int 1))) (.cons (.con (.int 10)) .nil))))) (.cons (.raise "BadTerm" "part" (.var 1)) .nil) .nil) .nil) (.cons (.ite (.cmp .Eq (.var 3) (.con (.str "value"))) (.cons (.ite (.or (.cmp .NotEq (.b1 .len (.var 1)) (.con (.int 2))) (.not (.call "is_variable" (.cons (.var 0) (.cons (.sub (.var 1) (.con (.int 1))) .nil))))) (.cons (.raise "BadTerm" "part" (.var 1)) .nil) .nil) .nil) (.cons (.ite (.and (.cmp .In (.var 3) (.tup (.cons (.con (.str "plus")) (.cons (.con (.str "minus")) .nil)))) (.cmp .Eq (.b1 .len (.var 1)) (.con (.int 3)))) (.cons (.for_ (.one 4) (.of (.slc (.var 1) (.some (.con (.int 1))) .no)) (.cons (.expr (.call "check_expression" (.cons (.var 0) (.cons (.var 4) (.cons (.bin .Sub (.var 2) (.con (.int 1))) .nil))))) .nil)) .nil) (.cons (.ite (.and (.cmp .Eq (.var 3) (.con (.str "if"))) (.cmp .Eq (.b1 .len (.var 1)) (.con (.int 4)))) (.cons (.expr (.call "check_condition" (.cons (.var 0) (.cons (.sub (.var 1) (.con (.int 1))) (.cons (.bin .Sub (.var 2) (.con (.int 1))) .nil))))) (.cons (.expr (.call "check_expression" (.cons (.var 0) (.cons (.sub (.var 1) (.con (.int 2))) (.cons (.bin .Sub (.var 2) (.con (.int 1))) .nil))))) (.cons (.expr (.call "check_expression" (.cons (.var 0) (.cons (.sub (.var 1) (.con (.int 3))) (.cons (.bin .Sub (.var 2) (.con (.int 1))) .nil))))) .nil))) (.cons (.raise "BadTerm" "part" (.var 1)) .nil)) .nil)) .nil)) .nil)) .nil)))
def f_check_expression : Fn := { name := "check_expression", arity := 3, slots := 5, dfl := [.int 8], body := b_check_expression }
def N_is_variable : List Str := ["variables", "name"]
def b_is_variable : CB := (.cons (.ret (.and (.isi (.var 1) ["str"]) (.cmp .In (.var 1) (.var 0)))) .nil)
def f_is_variable : Fn := { name := "is_variable", arity := 2, slots := 2, dfl := [], body := b_is_variable }
def N_kept : List Str := ["term", "value", "part"]
def b_kept : CB := (.cons (.ite (.cmp .Eq (.sub (.var 0) (.con (.int 0))) (.con (.str "in"))) (.cons (.ret (.tup (.cons (.con (.str "in")) (.cons (.sub (.var 0) (.con (.int 1))) (.cons (.b1 .tuple (.b1 .sorted (.dc [1] (.one 1) (.of (.sub (.var 0) (.con (.int 2)))) .no (.var 1) (.con (.bl true))))) .nil))))) .nil) .nil) (.cons (.ret (.tup (.cons (.sub (.var 0) (.con (.int 0))) (.star (.lc [2] (.one 2) (.of (.slc (.var 0) (.some (.con (.int 1))) .no)) .no (.ifx (.isi (.var 2) ["tuple"]) (.call "kept" (.cons (.var 2) .nil)) (.var 2))) .nil)))) .nil))
def f_kept : Fn := { name := "kept", arity := 1, slots := 3, dfl := [], body := b_kept }
def N_holds : List Str := ["term", "values", "word", "one", "other"]
def b_holds : CB := (.cons (.set 2 (.sub (.var 0) (.con (.int 0)))) (.cons (.ite (.cmp .In (.var 2) (.tup (.cons (.con (.str "any")) (.cons (.con (.str "none")) .nil)))) (.cons (.ret (.cmp .Eq (.var 2) (.con (.str "any")))) .nil) .nil) (.cons (.ite (.cmp .Eq (.var 2) (.con (.str "in"))) (.cons (.ret (.cmp .In (.sub (.var 1) (.sub (.var 0) (.con (.int 1)))) (.sub (.var 0) (.con (.int 2))))) .nil) .nil) (.cons (.ite (.cmp .Eq (.var 2) (.con (.str "not"))) (.cons (.ret (.not (.call "holds" (.cons (.sub (.var 0) (.con (.int 1))) (.cons (.var 1) .nil))))) .nil) .nil) (.cons (.ite (.cmp .In (.var 2) (.tup (.cons (.con (.str "same")) (.cons (.con (.str "less")) .nil)))) (.cons (.par [3, 4] (.cons (.call "worked" (.cons (.sub (.var 0) (.con (.int 1))) (.cons (.var 1) .nil))) (.cons (.call "worked" (.cons (.sub (.var 0) (.con (.int 2))) (.cons (.var 1) .nil))) .nil))) (.cons (.ret (.ifx (.cmp .Eq (.var 2) (.con (.str "same"))) (.cmp .Eq (.var 3) (.var 4)) (.cmp .Lt (.var 3) (.var 4)))) .nil)) .nil) (.cons (.ite (.cmp .Eq (.var 2) (.con (.str "and"))) (.cons (.ret (.and (.call "holds" (.cons (.sub (.var 0) (.con (.int 1))) (.cons (.var 1) .nil))) (.call "holds" (.cons (.sub (.var 0) (.con (.int 2))) (.cons (.var 1) .nil))))) .nil) .nil) (.cons (.ret (.or (.call "holds" (.cons (.sub (.var 0) (.con (.int 1))) (.cons (.var 1) .nil))) (.call "holds" (.cons (.sub (.var 0) (.con (.int 2))) (.cons (.var 1) .nil))))) .nil)))))))
def f_holds : Fn := { name := "holds", arity := 2, slots := 5, dfl := [], body := b_holds }
def N_worked : List Str := ["term", "values", "word", "one", "other"]
def b_worked : CB := (.cons (.set 2 (.sub (.var 0) (.con (.int 0)))) (.cons (.ite (.cmp .Eq (.var 2) (.con (.str "number"))) (.cons (.ret (.sub (.var 0) (.con (.int 1)))) .nil) .nil) (.cons (.ite (.cmp .Eq (.var 2) (.con (.str "value"))) (.cons (.ret (.sub (.var 1) (.sub (.var 0) (.con (.int 1))))) .nil) .nil) (.cons (.ite (.cmp .Eq (.var 2) (.con (.str "if"))) (.cons (.ret (.ifx (.call "holds" (.cons (.sub (.var 0) (.con (.int 1))) (.cons (.var 1) .nil))) (.call "worked" (.cons (.sub (.var 0) (.con (.int 2))) (.cons (.var 1) .nil))) (.call "worked" (.cons (.sub (.var 0) (.con (.int 3))) (.cons (.var 1) .nil))))) .nil) .nil) (.cons (.par [3, 4] (.cons (.call "worked" (.cons (.sub (.var 0) (.con (.int 1))) (.cons (.var 1) .nil))) (.cons (.call "worked" (.cons (.sub (.var 0) (.con (.int 2))) (.cons (.var 1) .nil))) .nil))) (.cons (.ret (.ifx (.cmp .Eq (.var 2) (.con (.str "plus"))) (.bin .Add (.var 3) (.var 4)) (.b2 .max (.con (.int 0)) (.bin .Sub (.var 3) (.var 4))))) .nil))))))
def f_worked : Fn := { name := "worked", arity := 2, slots := 5, dfl := [], body := b_worked }
def N_names_in : List Str := ["term", "found", "part"]
def b_names_in : CB := (.cons (.ite (.cmp .In (.sub (.var 0) (.con (.int 0))) (.tup (.cons (.con (.str "in")) (.cons (.con (.str "value")) .nil)))) (.cons (.ret (.dsp (.cons (.sub (.var 0) (.con (.int 1))) (.cons (.con (.bl true)) .nil)))) .nil) .nil) (.cons (.newD 1) (.cons (.for_ (.one 2) (.of (.slc (.var 0) (.some (.con (.int 1))) .no)) (.cons (.ite (.isi (.var 2) ["tuple"]) (.cons (.upd 1 (.call "names_in" (.cons (.var 2) .nil))) .nil) .nil) .nil)) (.cons (.frz 1) (.cons (.ret (.var 1)) .nil)))))
def f_names_in : Fn := { name := "names_in", arity := 1, slots := 3, dfl := [], body := b_names_in }
def N_called : List Str := ["term", "names", "part"]
def b_called : CB := (.cons (.ite (.cmp .In (.sub (.var 0) (.con (.int 0))) (.tup (.cons (.con (.str "in")) (.cons (.con (.str "value")) .nil)))) (.cons (.ret (.tup (.cons (.sub (.var 0) (.con (.int 0))) (.cons (.get2 (.var 1) (.sub (.var 0) (.con (.int 1))) (.sub (.var 0) (.con (.int 1)))) (.star (.slc (.var 0) (.some (.con (.int 2))) .no) .nil))))) .nil) .nil) (.cons (.ret (.tup (.cons (.sub (.var 0) (.con (.int 0))) (.star (.lc [2] (.one 2) (.of (.slc (.var 0) (.some (.con (.int 1))) .no)) .no (.ifx (.isi (.var 2) ["tuple"]) (.call "called" (.cons (.var 2) (.cons (.var 1) .nil))) (.var 2))) .nil)))) .nil))
def f_called : Fn := { name := "called", arity := 2, slots := 3, dfl := [], body := b_called }
def N_all_of : List Str := ["terms", "found", "number", "term"]
def b_all_of : CB := (.cons (.set 1 (.tup (.cons (.con (.str "any")) .nil))) (.cons (.for_ (.many [2, 3]) (.enum (.var 0)) (.cons (.set 1 (.ifx (.cmp .Eq (.var 2) (.con (.int 0))) (.var 3) (.tup (.cons (.con (.str "and")) (.cons (.var 1) (.cons (.var 3) .nil)))))) .nil)) (.cons (.ret (.var 1)) .nil)))
def f_all_of : Fn := { name := "all_of", arity := 1, slots := 4, dfl := [], body := b_all_of }
def N_state_term : List Str := ["variables", "state", "name", "value"]
def b_state_term : CB := (.cons (.ret (.call "all_of" (.cons (.lc [2, 3] (.many [2, 3]) (.zip (.b1 .sorted (.var 0)) (.var 1)) .no (.tup (.cons (.con (.str "in")) (.cons (.var 2) (.cons (.tup (.cons (.var 3) .nil)) .nil))))) .nil))) .nil)
def f_state_term : Fn := { name := "state_term", arity := 2, slots := 4, dfl := [], body := b_state_term }
def N__law_number : List Str := ["script", "index", "cell", "turn", "rest", "step", "blend"]
def b__law_number : CB := (.cons (.setT [2, 3] (.ifx (.cmp .NotEq (.var 0) (.lst .nil)) (.tup (.cons (.sub (.var 0) (.bin .Mod (.var 1) (.b1 .len (.var 0)))) (.cons (.bin .FloorDiv (.var 1) (.b1 .len (.var 0))) .nil))) (.tup (.cons (.con (.int 12345)) (.cons (.con (.int 0)) .nil))))) (.cons (.set 4 (.ifx (.cmp .Lt (.var 3) (.con (.int 60))) (.bin .Sub (.var 2) (.bin .Pow (.con (.int 10)) (.con (.int 18)))) (.con (.int 0)))) (.cons (.for_ (.one 5) (.range (.bin .Mod (.b1 .int (.var 3)) (.con (.int 60)))) (.cons (.set 4 (.bin .FloorDiv (.var 4) (.con (.int 1009)))) .nil)) (.cons (.ite (.cmp .Gt (.var 4) (.con (.int 0))) (.cons (.ret (.bin .Mod (.b1 .int (.var 4)) (.con (.int 1009)))) .nil) .nil) (.cons (.set 6 (.bin .Mod (.bin .Add (.bin .Mult (.b1 .int (.bin .Add (.var 2) (.bin .Mult (.con (.int 977)) (.var 1)))) (.con (.int 48271))) (.bin .Mult (.con (.int 31)) (.b1 .len (.var 0)))) (.con (.int 2147483647)))) (.cons (.set 6 (.bin .Mod (.bin .Add (.bin .Mult (.var 6) (.var 6)) (.bin .Mult (.con (.int 40503)) (.var 1))) (.con (.int 2147483629)))) (.cons (.ret (.b1 .int (.bin .Mod (.bin .Add (.bin .Mult (.var 6) (.con (.int 69621))) (.bin .FloorDiv (.var 6) (.con (.int 977)))) (.con (.int 2147483587))))) .nil)))))))
def f__law_number : Fn := { name := "_law_number", arity := 2, slots := 7, dfl := [], body := b__law_number }
def N__law_take : List Str := ["draw", "many"]
def b__law_take : CB := (.cons (.rfadd (.var 0) (.con (.int 1)) (.con (.int 1))) (.cons (.ret (.bin .Mod (.b1 .int (.call "_law_number" (.cons (.sub (.var 0) (.con (.int 0))) (.cons (.b1 .int (.sub (.var 0) (.con (.int 1)))) .nil)))) (.var 1))) .nil))
def f__law_take : Fn := { name := "_law_take", arity := 2, slots := 2, dfl := [], body := b__law_take }
def N__law_pick : List Str := ["draw", "items"]
def b__law_pick : CB := (.cons (.ret (.sub (.var 1) (.call "_law_take" (.cons (.var 0) (.cons (.b1 .len (.var 1)) .nil))))) .nil)
def f__law_pick : Fn := { name := "_law_pick", arity := 2, slots := 2, dfl := [], body := b__law_pick }
def N__law_expression : List Str := ["draw", "variables", "deep", "kind"]
def b__law_expression : CB := (.cons (.set 3 (.call "_law_take" (.cons (.var 0) (.cons (.con (.int 6)) .nil)))) (.cons (.ite (.or (.cmp .Eq (.var 2) (.con (.int 0))) (.cmp .Lt (.var 3) (.con (.int 3)))) (.cons (.ret (.ifx (.cmp .Gt (.var 3) (.con (.int 0))) (.tup (.cons (.con (.str "value")) (.cons (.call "_law_pick" (.cons (.var 0) (.cons (.b1 .sorted (.var 1)) .nil))) .nil))) (.tup (.cons (.con (.str "number")) (.cons (.call "_law_take" (.cons (.var 0) (.cons (.con (.int 3)) .nil))) .nil))))) .nil) .nil) (.cons (.ite (.cmp .Eq (.var 3) (.con (.int 5))) (.cons (.ret (.tup (.cons (.con (.str "if")) (.cons (.call "_law_condition" (.cons (.var 0) (.cons (.var 1) (.cons (.bin .Sub (.var 2) (.con (.int 1))) .nil)))) (.cons (.call "_law_expression" (.cons (.var 0) (.cons (.var 1) (.cons (.bin .Sub (.var 2) (.con (.int 1))) .nil)))) (.cons (.call "_law_expression" (.cons (.var 0) (.cons (.var 1) (.cons (.bin .Sub (.var 2) (.con (.int 1))) .nil)))) .nil)))))) .nil) .nil) (.cons (.ret (.tup (.cons (.sub (.lst (.cons (.con (.str "plus")) (.cons (.con (.str "minus")) .nil))) (.bin .Sub (.var 3) (.con (.int 3)))) (.cons (.call "_law_expression" (.cons (.var 0) (.cons (.var 1) (.cons (.bin .Sub (.var 2) (.con (.int 1))) .nil)))) (.cons (.call "_law_expression" (.cons (.var 0) (.cons (.var 1) (.cons (.bin .Sub (.var 2) (.con (.int 1))) .nil)))) .nil))))) .nil))))
def f__law_expression : Fn := { name := "_law_expression", arity := 3, slots := 4, dfl := [], body := b__law_expression }
def N__law_condition : List Str := ["draw", "variables", "deep", "kind", "name", "value"]
def b__law_condition : CB := (.cons (.par [3, 4] (.cons (.call "_law_take" (.cons (.var 0) (.cons (.con (.int 9)) .nil))) (.cons (.call "_law_pick" (.cons (.var 0) (.cons (.b1 .sorted (.var 1)) .nil))) .nil))) (.cons (.ite (.or (.cmp .Eq (.var 2) (.con (.int 0))) (.cmp .Lt (.var 3) (.con (.int 4)))) (.cons (.ret (.ifx (.cmp .Gt (.var 3) (.con (.int 0))) (.tup (.cons (.con (.str "in")) (.cons (.var 4) (.cons (.b1 .tuple (.lc [5] (.one 5) (.range (.sub (.var 1) (.var 4))) (.some (.cmp .Eq (.call "_law_take" (.cons (.var 0) (.cons (.con (.int 2)) .nil))) (.con (.int 0)))) (.var 5))) .nil)))) (.tup (.cons (.con (.str "any")) .nil)))) .nil) .nil) (.cons (.ite (.cmp .Eq (.var 3) (.con (.int 4))) (.cons (.ret (.tup (.cons (.con (.str "not")) (.cons (.call "_law_condition" (.cons (.var 0) (.cons (.var 1) (.cons (.bin .Sub (.var 2) (.con (.int 1))) .nil)))) .nil)))) .nil) .nil) (.cons (.ite (.cmp .Lt (.var 3) (.con (.int 7))) (.cons (.ret (.tup (.cons (.sub (.lst (.cons (.con (.str "and")) (.cons (.con (.str "or")) .nil))) (.bin .Sub (.var 3) (.con (.int 5)))) (.cons (.call "_law_condition" (.cons (.var 0) (.cons (.var 1) (.cons (.bin .Sub (.var 2) (.con (.int 1))) .nil)))) (.cons (.call "_law_condition" (.cons (.var 0) (.cons (.var 1) (.cons (.bin .Sub (.var 2) (.con (.int 1))) .nil)))) .nil))))) .nil) .nil) (.cons (.ret (.tup (.cons (.sub (.lst (.cons (.con (.str "same")) (.cons (.con (.str "less")) .nil))) (.bin .Sub (.var 3) (.con (.int 7)))) (.cons (.call "_law_expression" (.cons (.var 0) (.cons (.var 1) (.cons (.bin .Sub (.var 2) (.con (.int 1))) .nil)))) (.cons (.call "_law_expression" (.cons (.var 0) (.cons (.var 1) (.cons (.bin .Sub (.var 2) (.con (.int 1))) .nil)))) .nil))))) .nil)))))
def f__law_condition : Fn := { name := "_law_condition", arity := 3, slots := 6, dfl := [], body := b__law_condition }
def N__law_worked : List Str := ["term", "values", "word", "one", "other"]
def b__law_worked : CB := (.cons (.set 2 (.sub (.var 0) (.con (.int 0)))) (.cons (.ite (.cmp .In (.var 2) (.tup (.cons (.con (.str "number")) (.cons (.con (.str "value")) .nil)))) (.cons (.ret (.ifx (.cmp .Eq (.var 2) (.con (.str "number"))) (.sub (.var 0) (.con (.int 1))) (.sub (.var 1) (.sub (.var 0) (.con (.int 1)))))) .nil) .nil) (.cons (.ite (.cmp .Eq (.var 2) (.con (.str "if"))) (.cons (.ret (.call "_law_worked" (.cons (.ifx (.call "_law_holds" (.cons (.sub (.var 0) (.con (.int 1))) (.cons (.var 1) .nil))) (.sub (.var 0) (.con (.int 2))) (.sub (.var 0) (.con (.int 3)))) (.cons (.var 1) .nil)))) .nil) .nil) (.cons (.par [3, 4] (.cons (.call "_law_worked" (.cons (.sub (.var 0) (.con (.int 1))) (.cons (.var 1) .nil))) (.cons (.call "_law_worked" (.cons (.sub (.var 0) (.con (.int 2))) (.cons (.var 1) .nil))) .nil))) (.cons (.ret (.ifx (.cmp .Eq (.var 2) (.con (.str "plus"))) (.bin .Add (.var 3) (.var 4)) (.ifx (.cmp .Gt (.var 3) (.var 4)) (.bin .Sub (.var 3) (.var 4)) (.con (.int 0))))) .nil)))))
def f__law_worked : Fn := { name := "_law_worked", arity := 2, slots := 5, dfl := [], body := b__law_worked }
def N__law_holds : List Str := ["term", "values", "word", "one", "other", "parts", "part"]
def b__law_holds : CB := (.cons (.set 2 (.sub (.var 0) (.con (.int 0)))) (.cons (.ite (.cmp .Eq (.var 2) (.con (.str "in"))) (.cons (.ret (.cmp .In (.sub (.var 1) (.sub (.var 0) (.con (.int 1)))) (.sub (.var 0) (.con (.int 2))))) .nil) .nil) (.cons (.ite (.cmp .In (.var 2) (.tup (.cons (.con (.str "same")) (.cons (.con (.str "less")) .nil)))) (.cons (.par [3, 4] (.cons (.call "_law_worked" (.cons (.sub (.var 0) (.con (.int 1))) (.cons (.var 1) .nil))) (.cons (.call "_law_worked" (.cons (.sub (.var 0) (.con (.int 2))) (.cons (.var 1) .nil))) .nil))) (.cons (.ret (.ifx (.cmp .Eq (.var 2) (.con (.str "same"))) (.cmp .Eq (.var 3) (.var 4)) (.cmp .Lt (.var 3) (.var 4)))) .nil)) .nil) (.cons (.set 5 (.lc [6] (.one 6) (.of (.slc (.var 0) (.some (.con (.int 1))) .no)) .no (.call "_law_holds" (.cons (.var 6) (.cons (.var 1) .nil))))) (.cons (.ret (.or (.cmp .Eq (.var 2) (.con (.str "any"))) (.or (.and (.cmp .Eq (.var 2) (.con (.str "not"))) (.not (.sub (.var 5) (.con (.int 0))))) (.or (.and (.cmp .Eq (.var 2) (.con (.str "and"))) (.b1 .all (.var 5))) (.and (.cmp .Eq (.var 2) (.con (.str "or"))) (.b1 .any (.var 5))))))) .nil)))))
def f__law_holds : Fn := { name := "_law_holds", arity := 2, slots := 7, dfl := [], body := b__law_holds }
def N__law_states : List Str := ["told", "found", "name", "late", "row", "value"]
def b__law_states : CB := (.cons (.set 1 (.lst (.cons (.tup .nil) .nil))) (.cons (.for_ (.one 2) (.of (.b1 .sorted (.sub (.var 0) (.con (.str "variables"))))) (.cons (.set 3 (.lst .nil)) (.cons (.for_ (.one 4) (.of (.var 1)) (.cons (.set 3 (.bin .Add (.var 3) (.lc [5] (.one 5) (.range (.sub (.sub (.var 0) (.con (.str "variables"))) (.var 2))) .no (.bin .Add (.var 4) (.tup (.cons (.var 5) .nil)))))) .nil)) (.cons (.set 1 (.var 3)) .nil)))) (.cons (.ret (.var 1)) .nil)))
def f__law_states : Fn := { name := "_law_states", arity := 1, slots := 6, dfl := [], body := b__law_states }
def N__law_values : List Str := ["told", "state"]
def b__law_values : CB := (.cons (.ret (.b2 .zipDict (.b1 .sorted (.sub (.var 0) (.con (.str "variables")))) (.var 1))) .nil)
def f__law_values : Fn := { name := "_law_values", arity := 2, slots := 2, dfl := [], body := b__law_values }
def N__law_names : List Str := ["term", "found", "part"]
def b__law_names : CB := (.cons (.ite (.cmp .In (.sub (.var 0) (.con (.int 0))) (.tup (.cons (.con (.str "in")) (.cons (.con (.str "value")) .nil)))) (.cons (.ret (.lst (.cons (.sub (.var 0) (.con (.int 1))) .nil))) .nil) .nil) (.cons (.set 1 (.lst .nil)) (.cons (.for_ (.one 2) (.of (.slc (.var 0) (.some (.con (.int 1))) .no)) (.cons (.set 1 (.bin .Add (.var 1) (.ifx (.isi (.var 2) ["tuple"]) (.call "_law_names" (.cons (.var 2) .nil)) (.lst .nil)))) .nil)) (.cons (.ret (.var 1)) .nil))))
def f__law_names : Fn := { name := "_law_names", arity := 1, slots := 3, dfl := [], body := b__law_names }
def N_law : List Str := ["script", "draw", "variables", "name", "told", "one", "other", "number", "states", "state", "values", "late", "names", "known", "turn", "bad", "part", "deep"]
def b_law : CB := (.cons (.ref 1 (.cons (.var 0) (.cons (.con (.int 0)) .nil))) (.cons (.set 2 (.b1 .dict (.lc [3] (.one 3) (.of (.slc (.lst (.cons (.con (.str "a")) (.cons (.con (.str "b")) (.cons (.con (.str "c")) .nil)))) .no (.some (.bin .Add (.con (.int 1)) (.call "_law_take" (.cons (.var 1) (.cons (.con (.int 3)) .nil))))))) .no (.tup (.cons (.var 3) (.cons (.bin .Add (.con (.int 1)) (.call "_law_take" (.cons (.var 1) (.cons (.con (.int 4)) .nil)))) .nil)))))) (.cons (.set 4 (.dsp (.cons (.con (.str "variables")) (.cons (.var 2) .nil)))) (.cons (.par [5, 6, 7] (.cons (.call "_law_condition" (.cons (.var 1) (.cons (.var 2) (.cons (.con (.int 3)) .nil)))) (.cons (.call "_law_condition" (.cons (.var 1) (.cons (.var 2) (.cons (.con (.int 2)) .nil)))) (.cons (.call "_law_expression" (.cons (.var 1) (.cons (.var 2) (.cons (.con (.int 3)) .nil)))) .nil)))) (.cons (.expr (.call "check_condition" (.cons (.var 2) (.cons (.var 5) .nil)))) (.cons (.expr (.call "check_expression" (.cons (.var 2) (.cons (.var 7) .nil)))) (.cons (.set 8 (.call "_law_states" (.cons (.var 4) .nil))) (.cons (.for_ (.one 9) (.of (.var 8)) (.cons (.set 10 (.call "_law_values" (.cons (.var 4) (.cons (.var 9) .nil)))) (.cons (.ite (.or (.cmp .NotEq (.call "holds" (.cons (.var 5) (.cons (.var 10) .nil))) (.call "_law_holds" (.cons (.var 5) (.cons (.var 10) .nil)))) (.or (.cmp .NotEq (.call "worked" (.cons (.var 7) (.cons (.var 10) .nil))) (.call "_law_worked" (.cons (.var 7) (.cons (.var 10) .nil)))) (.cmp .NotEq (.call "holds" (.cons (.call "kept" (.cons (.var 5) .nil)) (.cons (.var 10) .nil))) (.call "holds" (.cons (.var 5) (.cons (.var 10) .nil)))))) (.cons (.ret (.con (.bl false))) .nil) .nil) (.cons (.ite (.or (.cmp .NotEq (.call "holds" (.cons (.tup (.cons (.con (.str "and")) (.cons (.var 5) (.cons (.var 6) .nil)))) (.cons (.var 10) .nil))) (.and (.call "holds" (.cons (.var 5) (.cons (.var 10) .nil))) (.call "holds" (.cons (.var 6) (.cons (.var 10) .nil))))) (.cmp .Eq (.call "holds" (.cons (.tup (.cons (.con (.str "not")) (.cons (.var 5) .nil))) (.cons (.var 10) .nil))) (.call "holds" (.cons (.var 5) (.cons (.var 10) .nil))))) (.cons (.ret (.con (.bl false))) .nil) .nil) (.cons (.ite (.or (.cmp .NotEq (.call "holds" (.cons (.call "all_of" (.cons (.lst (.cons (.var 5) (.cons (.var 6) (.cons (.tup (.cons (.con (.str "any")) .nil)) .nil)))) .nil)) (.cons (.var 10) .nil))) (.and (.call "holds" (.cons (.var 5) (.cons (.var 10) .nil))) (.call "holds" (.cons (.var 6) (.cons (.var 10) .nil))))) (.not (.call "holds" (.cons (.call "all_of" (.cons (.lst .nil) .nil)) (.cons (.var 10) .nil))))) (.cons (.ret (.con (.bl false))) .nil) .nil) (.cons (.ite (.cmp .NotEq (.lc [11] (.one 11) (.of (.var 8)) (.some (.call "holds" (.cons (.call "state_term" (.cons (.var 2) (.cons (.var 9) .nil))) (.cons (.call "_law_values" (.cons (.var 4) (.cons (.var 11) .nil))) .nil)))) (.var 11)) (.lst (.cons (.var 9) .nil))) (.cons (.ret (.con (.bl false))) .nil) .nil) .nil)))))) (.cons (.ite (.or (.cmp .NotEq (.b1 .sorted (.call "names_in" (.cons (.var 5) .nil))) (.b1 .setSorted (.call "_law_names" (.cons (.var 5) .nil)))) (.cmp .NotEq (.b1 .sorted (.call "names_in" (.cons (.var 7) .nil))) (.b1 .setSorted (.call "_law_names" (.cons (.var 7) .nil))))) (.cons (.ret (.con (.bl false))) .nil) .nil) (.cons (.set 12 (.b1 .dict (.lc [3] (.one 3) (.keys 2) (.some (.cmp .Eq (.call "_law_take" (.cons (.var 1) (.cons (.con (.int 2)) .nil))) (.con (.int 0)))) (.tup (.cons (.var 3) (.cons (.bin .Add (.con (.str "v")) (.var 3)) .nil)))))) (.cons (.for_ (.one 9) (.of (.slc (.var 8) .no (.some (.con (.int 20))))) (.cons (.set 10 (.call "_law_values" (.cons (.var 4) (.cons (.var 9) .nil)))) (.cons (.set 11 (.b1 .dict (.lc [3] (.one 3) (.keys 10) .no (.tup (.cons (.get2 (.var 12) (.var 3) (.var 3)) (.cons (.sub (.var 10) (.var 3)) .nil)))))) (.cons (.ite (.or (.cmp .NotEq (.call "holds" (.cons (.call "called" (.cons (.var 5) (.cons (.var 12) .nil))) (.cons (.var 11) .nil))) (.call "holds" (.cons (.var 5) (.cons (.var 10) .nil)))) (.cmp .NotEq (.call "worked" (.cons (.call "called" (.cons (.var 7) (.cons (.var 12) .nil))) (.cons (.var 11) .nil))) (.call "worked" (.cons (.var 7) (.cons (.var 10) .nil))))) (.cons (.ret (.con (.bl false))) .nil) .nil) .nil)))) (.cons (.ite (.or (.cmp .NotEq (.call "kept" (.cons (.tup (.cons (.con (.str "in")) (.cons (.con (.str "a")) (.cons (.lst (.cons (.con (.int 0)) (.cons (.con (.int 0)) .nil))) .nil)))) .nil)) (.tup (.cons (.con (.str "in")) (.cons (.con (.str "a")) (.cons (.tup (.cons (.con (.int 0)) .nil)) .nil))))) (.cmp .NotEq (.call "kept" (.cons (.call "kept" (.cons (.var 5) .nil)) .nil)) (.call "kept" (.cons (.var 5) .nil)))) (.cons (.ret (.con (.bl false))) .nil) .nil) (.cons (.set 13 (.lst (.cons (.tup (.cons (.con .non) (.cons (.con .non) .nil))) (.cons (.tup (.cons (.tup .nil) (.cons (.tup .nil) .nil))) (.cons (.tup (.cons (.tup (.cons (.con (.str "zz")) .nil)) (.cons (.tup (.cons (.con (.str "zz")) .nil)) .nil))) (.cons (.tup (.cons (.tup (.cons (.con (.str "any")) (.cons (.con (.int 1)) .nil))) (.cons (.tup (.cons (.con (.str "any")) (.cons (.con (.int 1)) .nil))) .nil))) (.cons (.tup (.cons (.tup (.cons (.con (.str "in")) (.cons (.con (.str "zz")) (.cons (.tup .nil) .nil)))) (.cons (.tup (.cons (.con (.str "in")) (.cons (.con (.str "zz")) (.cons (.tup .nil) .nil)))) .nil))) .nil))))))) (.cons (.set 13 (.bin .Add (.var 13) (.lst (.cons (.tup (.cons (.tup (.cons (.con (.str "in")) (.cons (.con (.str "a")) (.cons (.tup (.cons (.con (.int 9)) .nil)) .nil)))) (.cons (.tup (.cons (.con (.str "in")) (.cons (.con (.str "a")) (.cons (.tup (.cons (.con (.int 9)) .nil)) .nil)))) .nil))) (.cons (.tup (.cons (.tup (.cons (.con (.str "and")) (.cons (.tup (.cons (.con (.str "any")) .nil)) (.cons (.tup (.cons (.con (.str "zz")) .nil)) .nil)))) (.cons (.tup (.cons (.con (.str "zz")) .nil)) .nil))) .nil))))) (.cons (.set 13 (.bin .Add (.var 13) (.lst (.cons (.tup (.cons (.tup (.cons (.con (.str "not")) (.cons (.tup (.cons (.con (.str "any")) .nil)) (.cons (.tup (.cons (.con (.str "any")) .nil)) .nil)))) (.cons (.tup (.cons (.con (.str "not")) (.cons (.tup (.cons (.con (.str "any")) .nil)) (.cons (.tup (.cons (.con (.str "any")) .nil)) .nil)))) .nil))) (.cons (.tup (.cons (.tup (.cons (.con (.str "same")) (.cons (.tup (.cons (.con (.str "value")) (.cons (.con (.str "a")) .nil))) (.cons (.tup (.cons (.con (.str "number")) (.cons (.con (.int 10)) .nil))) .nil)))) (.cons (.tup (.cons (.con (.str "number")) (.cons (.con (.int 10)) .nil))) .nil))) .nil))))) (.cons (.set 13 (.bin .Add (.var 13) (.lst (.cons (.tup (.cons (.tup (.cons (.con (.str "less")) (.cons (.tup (.cons (.con (.str "value")) (.cons (.con (.str "zz")) .nil))) (.cons (.con .non) .nil)))) (.cons (.tup (.cons (.con (.str "value")) (.cons (.con (.str "zz")) .nil))) .nil))) (.cons (.tup (.cons (.lst (.cons (.con (.str "any")) .nil)) (.cons (.lst (.cons (.con (.str "any")) .nil)) .nil))) (.cons (.tup (.cons (.tup (.cons (.con (.str "in")) (.cons (.con (.str "a")) (.cons (.con .non) .nil)))) (.cons (.tup (.cons (.con (.str "in")) (.cons (.con (.str "a")) (.cons (.con .non) .nil)))) .nil))) .nil)))))) (.cons (.set 13 (.bin .Add (.var 13) (.lst (.cons (.tup (.cons (.tup (.cons (.con (.str "same")) (.cons (.tup (.cons (.con (.str "plus")) (.cons (.tup (.cons (.con (.str "number")) (.cons (.con (.int 1)) .nil))) .nil))) (.cons (.tup (.cons (.con (.str "number")) (.cons (.con (.int 1)) .nil))) .nil)))) (.cons (.tup (.cons (.con (.str "plus")) (.cons (.tup (.cons (.con (.str "number")) (.cons (.con (.int 1)) .nil))) .nil))) .nil))) (.cons (.tup (.cons (.tup (.cons (.con (.str "less")) (.cons (.tup (.cons (.con (.str "if")) (.cons (.tup (.cons (.con (.str "zz")) .nil)) (.cons (.tup (.cons (.con (.str "number")) (.cons (.con (.int 1)) .nil))) (.cons (.tup (.cons (.con (.str "number")) (.cons (.con (.int 1)) .nil))) .nil))))) (.cons (.tup (.cons (.con (.str "number")) (.cons (.con (.int 1)) .nil))) .nil)))) (.cons (.tup (.cons (.con (.str "zz")) .nil)) .nil))) .nil))))) (.cons (.for_ (.one 14) (.range (.con (.int 4))) (.cons (.setT [15, 16] (.call "_law_pick" (.cons (.var 1) (.cons (.var 13) .nil)))) (.cons (.ite (.cmp .NotEq (.part "BadTerm" "part" (.call "check_condition" (.cons (.var 2) (.cons (.var 15) .nil)))) (.var 16)) (.cons (.ret (.con (.bl false))) .nil) .nil) .nil))) (.cons (.setT [17, 11] (.tup (.cons (.tup (.cons (.con (.str "any")) .nil)) (.cons (.tup (.cons (.con (.str "number")) (.cons (.con (.int 1)) .nil))) .nil)))) (.cons (.for_ (.one 14) (.range (.con (.int 7))) (.cons (.setT [17, 11] (.tup (.cons (.tup (.cons (.con (.str "not")) (.cons (.var 17) .nil))) (.cons (.tup (.cons (.con (.str "plus")) (.cons (.var 11) (.cons (.tup (.cons (.con (.str "number")) (.cons (.con (.int 0)) .nil))) .nil)))) .nil)))) .nil)) (.cons (.ite (.cmp .NotEq (.part "BadTerm" "part" (.call "check_condition" (.cons (.var 2) (.cons (.var 17) .nil)))) (.con (.str "none"))) (.cons (.ret (.con (.bl false))) .nil) .nil) (.cons (.ite (.cmp .NotEq (.part "BadTerm" "part" (.call "check_condition" (.cons (.var 2) (.cons (.tup (.cons (.con (.str "not")) (.cons (.var 17) .nil))) .nil)))) (.tup (.cons (.con (.str "any")) .nil))) (.cons (.ret (.con (.bl false))) .nil) .nil) (.cons (.ite (.not (.cmp .Eq (.part "BadTerm" "part" (.call "check_expression" (.cons (.var 2) (.cons (.var 11) .nil)))) (.con (.str "none")))) (.cons (.ret (.con (.bl false))) .nil) .nil) (.cons (.ret (.cmp .Eq (.part "BadTerm" "part" (.call "check_expression" (.cons (.var 2) (.cons (.tup (.cons (.con (.str "plus")) (.cons (.var 11) (.cons (.tup (.cons (.con (.str "number")) (.cons (.con (.int 0)) .nil))) .nil)))) .nil)))) (.tup (.cons (.con (.str "number")) (.cons (.con (.int 1)) .nil))))) .nil))))))))))))))))))))))))
def f_law : Fn := { name := "law", arity := 1, slots := 18, dfl := [], body := b_law }
def T0 : List Fn := [f_is_row, f_is_number, f_is_below, f_check_condition, f_check_expression, f_is_variable, f_kept, f_holds, f_worked, f_names_in, f_called, f_all_of, f_state_term, f__law_number, f__law_take, f__law_pick, f__law_expression, f__law_condition, f__law_worked, f__law_holds, f__law_states, f__law_values, f__law_names]
end PC
set_option linter.all false
set_option maxRecDepth 100000
set_option maxHeartbeats 0
set_option autoImplicit false
set_option Elab.async false
namespace PC
open PySem PySem.Spec PyProof.Rows L2
/-- a statement of the top -/
def tp (i : Nat) : Stmt := PySem.Challenge.pw_refinesteps_k02_whole_terms.main.body.getD i (.Pass ⟨0, 0, 0, 0⟩)
/-- a class's j-th statement -/
def inCls (i j : Nat) : Stmt := match tp i with
  | .ClassDef _ _ _ b _ _ _ _ _ _ _ => b.getD j (.Pass ⟨0, 0, 0, 0⟩)
  | _ => .Pass ⟨0, 0, 0, 0⟩
def exs0 : List (Str × Str) := [("BadTerm", "part")]
abbrev dOf (x : Str) (i : Nat) (dv : List He.Dv) : He.DefD := ⟨(x, none), x, x, defArgs (tp i), defBody (tp i), defScope (tp i), dv, []⟩
def d_is_row : He.DefD := dOf "is_row" 4 []
def d_is_number : He.DefD := dOf "is_number" 5 []
def d_is_below : He.DefD := dOf "is_below" 6 []
def d_check_condition : He.DefD := dOf "check_condition" 9 [.int 8]
def d_check_expression : He.DefD := dOf "check_expression" 10 [.int 8]
def d_is_variable : He.DefD := dOf "is_variable" 11 []
def d_kept : He.DefD := dOf "kept" 12 []
def d_holds : He.DefD := dOf "holds" 13 []
def d_worked : He.DefD := dOf "worked" 14 []
def d_names_in : He.DefD := dOf "names_in" 15 []
def d_called : He.DefD := dOf "called" 16 []
def d_all_of : He.DefD := dOf "all_of" 17 []
def d_state_term : He.DefD := dOf "state_term" 18 []
def d__law_number : He.DefD := dOf "_law_number" 20 []
def d__law_take : He.DefD := dOf "_law_take" 21 []
def d__law_pick : He.DefD := dOf "_law_pick" 22 []
def d__law_expression : He.DefD := dOf "_law_expression" 23 []
def d__law_condition : He.DefD := dOf "_law_condition" 24 []
def d__law_worked : He.DefD := dOf "_law_worked" 25 []
def d__law_holds : He.DefD := dOf "_law_holds" 26 []
def d__law_states : He.DefD := dOf "_law_states" 27 []
def d__law_values : He.DefD := dOf "_law_values" 28 []
def d__law_names : He.DefD := dOf "_law_names" 29 []
def d__law_part : He.DefD := dOf "_law_part" 30 []
def d_law : He.DefD := dOf "law" 31 []
def d_init : He.DefD := ⟨("BadTerm", some "__init__"), "__init__", "BadTerm.__init__", defArgs (inCls 2 0), defBody (inCls 2 0), defScope (inCls 2 0), [], []⟩
def fnA : List He.DefD := [d_is_row, d_is_number, d_is_below, d_check_condition, d_check_expression, d_is_variable, d_kept, d_holds, d_worked, d_names_in, d_called, d_all_of, d_state_term, d__law_number, d__law_take, d__law_pick, d__law_expression, d__law_condition, d__law_worked, d__law_holds, d__law_states, d__law_values, d__law_names, d__law_part, d_law, d_init]
def faA : List He.Fa := [.glo "is_row", .glo "is_number", .glo "is_below", .glo "check_condition", .glo "check_expression", .glo "is_variable", .glo "kept", .glo "holds", .glo "worked", .glo "names_in", .glo "called", .glo "all_of", .glo "state_term", .glo "_law_number", .glo "_law_take", .glo "_law_pick", .glo "_law_expression", .glo "_law_condition", .glo "_law_worked", .glo "_law_holds", .glo "_law_states", .glo "_law_values", .glo "_law_names", .glo "_law_part", .glo "law", .glo "BadTerm", .free "isinstance", .free "len", .free "all", .free "any", .free "tuple", .free "list", .free "sorted", .free "dict", .free "int", .free "max", .free "range", .free "zip", .free "enumerate", .free "set", .free "str", .free "bool"]
/-- what an own exception's class must be -/
def oexK (K : PySem.W.Frag) (C : Addr) : Bool := (match K.lookup C with
  | some ⟨.type "type", _, .cls cd, sl⟩ => (match cd.mro, sl.toList with
    | .ref D :: bm, [_, _, _, _, some (.builtin nn), _] => D == C && (nn == "ValueError.__new__" && (!cd.hasDel && (cd.hasDict && PySem.HandSPX.refsVE bm)))
    | _, _ => false)
  | _ => false) && (decide (PySem.W.findIn K (.ref C) "__setattr__" = some (some (.builtin "object.__setattr__"))) && (decide (PySem.W.subIn K (.ref C) (.type "BaseException") = some true) && (decide (PySem.W.typeIn K (.ref C) = some (.type "type")) && PySem.W.keepIn K (.ref C))))
theorem oexK_ok {K : PySem.W.Frag} {C : Addr} (q : oexK K C = true) : OexC K C := by
  unfold oexK at q
  obtain ⟨q, qs⟩ := Bool.and_eq_true_iff.mp q
  obtain ⟨q1, qs⟩ := Bool.and_eq_true_iff.mp qs
  obtain ⟨q2, qs⟩ := Bool.and_eq_true_iff.mp qs
  obtain ⟨q3, q4⟩ := Bool.and_eq_true_iff.mp qs
  refine ⟨?_, of_decide_eq_true q1, of_decide_eq_true q2, of_decide_eq_true q3, q4⟩
  split at q
  · rename_i dd cd sl ho
    split at q
    · rename_i D bm k0 k1 k2 k3 nn k5 hm hs
      simp only [Bool.and_eq_true, beq_iff_eq, Bool.not_eq_true'] at q
      obtain ⟨rfl, rfl, hdel, hdict, hr⟩ := q
      obtain ⟨nm, bs, mro, ns, qn, hd, sn, sub, ab, col, del⟩ := cd
      dsimp only at hm hdel hdict
      subst hm hdel hdict
      have hsl : sl = #[k0, k1, k2, k3, some (.builtin "ValueError.__new__"), k5] := by
        obtain ⟨l⟩ := sl
        simp only at hs
        rw [hs]
      subst hsl
      exact ⟨nm, qn, ns, bs, bm, sn, sub, ab, col, dd, k0, k1, k2, k3, k5, ho, hr⟩
    · cases q
  · cases q
/-- what is asked of the classes -/
def exK (K : PySem.W.Frag) : Bool := oexK K (He.ga K "BadTerm") && (decide (PySem.W.findIn K (.ref (He.ga K "BadTerm")) "__init__" = some (some (.ref (He.fAd K ("BadTerm", some "__init__"))))) && (decide (PySem.W.typeIn K (.ref (He.fAd K ("BadTerm", some "__init__"))) = some (.type "function")) && (decide (PySem.W.findIn K (.ref (He.ga K "BadTerm")) "part" = some none) && (xfB K (He.ga K "BadTerm") && decide (PySem.W.exmOne K (.ref (He.ga K "BadTerm")) (.ref (He.ga K "BadTerm")) = some true)))))
abbrev RR : PySem.W.OpenRow := PySem.W.OpenLaw.row PySem.Challenge.rw_refinesteps_k02_whole_terms
abbrev hk : PySem.W.Hook := He.hookX 6 faA fnA [] [("law", none)] exK
def ob (s : PySem.W.SharedT) : He.AlX := He.obsX 6 faA fnA [] [("law", none)] exK (HandSHeadRun.getT s)
theorem ob_eq (s : PySem.W.SharedT) : ob s = hk.obs s.abs := He.obsX_eq (HandSHeadRun.getT_eq s)
def looseN : List Str := ["StepError", "BadTerm", "MOST_DEEP", "is_row", "is_number", "is_below", "check_condition", "check_expression", "is_variable", "kept", "holds", "worked", "names_in", "called", "all_of", "state_term", "_law_number", "_law_take", "_law_pick", "_law_expression", "_law_condition", "_law_worked", "_law_holds", "_law_states", "_law_values", "_law_names", "_law_part"]
theorem run (w : World) : HandSHeadRun.RunEq RR (PySem.W.view RR.prog [31]) hk ob 3000 looseN w := by
  intro os
  kernel_rfl
end PC
set_option linter.all false
set_option maxRecDepth 100000
set_option maxHeartbeats 0
set_option autoImplicit false
set_option Elab.async false
namespace PC
open PySem PySem.Spec PyProof.Rows L2
section
variable {P : Program} {w : World} {K : PySem.W.Frag} {h : Heap} {mg : Str → Option Value}
/-- what a def without defaults gives -/
theorem defOk_0 {g : Fn} {N ps : List Str} {d : He.DefD} (X : K.In h) (G : h.Ns mainGlobals mg) (F : ∃ fd, FunD K d.name d.qual d.params d.body d.scope (d.dvs K) (d.kws K) (He.fAd K d.at_) fd) (hat : d.at_ = (g.name, none)) (hn : d.name = g.name) (hd : d.dfl = []) (hk : d.kwd = []) (hg : (He.Fa.glo g.name).ok K = true)
    (S : FnScope N ps d.scope) (hok : okB N (sigs T0) exs0 d.scope g.body d.body = true) (hgd : g.dfl = []) (har : g.arity = ps.length) (hsl : g.slots = N.length) (hf : T0.find? (fun z => z.name == g.name) = some g)
    (hb : ∀ (fd : FuncData), FunD K d.name d.qual d.params d.body d.scope [] [] (He.fAd K d.at_) fd → Binds K fd ps []) : ∃ N ps, DefOk K mg T0 (T0.map fun g => (g.name, g.arity - g.dfl.length, g.arity)) exs0 g N ps := by
  obtain ⟨fd, F⟩ := F
  have e1 : d.dvs K = [] := by unfold He.DefD.dvs; rw [hd]; rfl
  have e2 : d.kws K = [] := by unfold He.DefD.kws; rw [hk]; rfl
  rw [e1, e2] at F
  have B := hb fd F
  refine ⟨N, ps, ⟨⟨d.qual, d.params, d.body, d.scope, [], He.fAd K d.at_, fd, ?_, ?_, S, hok, fun _ _ => by rw [hgd]; exact .nil, fun n h1 h2 => ?_⟩, har, hsl, hf⟩⟩
  · rw [← hn]; exact F
  · rw [hat]; exact He.glo_ok X G hg
  · rw [hgd] at h1
    have : n = g.arity := by simp at h1; omega
    subst this
    exact ⟨[], by rw [List.drop_nil]; exact .nil, B⟩
/-- what a def whose last parameter has a number as its default gives -/
theorem defOk_1 {g : Fn} {N ps : List Str} {d : He.DefD} {i : Int} (X : K.In h) (G : h.Ns mainGlobals mg) (F : ∃ fd, FunD K d.name d.qual d.params d.body d.scope (d.dvs K) (d.kws K) (He.fAd K d.at_) fd) (hat : d.at_ = (g.name, none)) (hn : d.name = g.name) (hd : d.dfl = [.int i]) (hk : d.kwd = []) (hg : (He.Fa.glo g.name).ok K = true)
    (S : FnScope N ps d.scope) (hok : okB N (sigs T0) exs0 d.scope g.body d.body = true) (hgd : g.dfl = [.int i]) (har : g.arity = ps.length) (hsl : g.slots = N.length) (hf : T0.find? (fun z => z.name == g.name) = some g) (h1 : 1 ≤ g.arity)
    (hb0 : ∀ (fd : FuncData), FunD K d.name d.qual d.params d.body d.scope [.int i] [] (He.fAd K d.at_) fd → ∃ ds, Vals ([V.int i].drop 0) ds ∧ Binds K fd ps ds)
    (hb1 : ∀ (fd : FuncData), FunD K d.name d.qual d.params d.body d.scope [.int i] [] (He.fAd K d.at_) fd → ∃ ds, Vals ([V.int i].drop 1) ds ∧ Binds K fd ps ds) : ∃ N ps, DefOk K mg T0 (T0.map fun g => (g.name, g.arity - g.dfl.length, g.arity)) exs0 g N ps := by
  obtain ⟨fd, F⟩ := F
  have e1 : d.dvs K = [.int i] := by unfold He.DefD.dvs; rw [hd]; rfl
  have e2 : d.kws K = [] := by unfold He.DefD.kws; rw [hk]; rfl
  rw [e1, e2] at F
  refine ⟨N, ps, ⟨⟨d.qual, d.params, d.body, d.scope, [.int i], He.fAd K d.at_, fd, ?_, ?_, S, hok, fun _ _ => by rw [hgd]; exact .cons (.int i) .nil, fun n h1 h2 => ?_⟩, har, hsl, hf⟩⟩
  · rw [← hn]; exact F
  · rw [hat]; exact He.glo_ok X G hg
  · rw [hgd] at h1 ⊢
    have : n = g.arity ∨ n + 1 = g.arity := by simp at h1; omega
    rcases this with e | e
    · have e3 : n + [PV.int i].length - g.arity = 1 := by simp; omega
      rw [e3]; exact hb1 fd F
    · have e3 : n + [PV.int i].length - g.arity = 0 := by simp; omega
      rw [e3]; exact hb0 fd F
theorem scope_of {N ps : List Str} {s : Scope} (h : True) (S : FnScope N ps s) : FnScope N ps s := S
end
theorem sc_is_row : FnScope N_is_row ["thing"] d_is_row.scope := ⟨rfl, rfl, rfl, by decide +kernel, rfl, by decide +kernel, by decide +kernel⟩
theorem sc_is_number : FnScope N_is_number ["thing"] d_is_number.scope := ⟨rfl, rfl, rfl, by decide +kernel, rfl, by decide +kernel, by decide +kernel⟩
theorem sc_is_below : FnScope N_is_below ["thing", "bound"] d_is_below.scope := ⟨rfl, rfl, rfl, by decide +kernel, rfl, by decide +kernel, by decide +kernel⟩
theorem sc_check_condition : FnScope N_check_condition ["variables", "term", "deep"] d_check_condition.scope := ⟨rfl, rfl, rfl, by decide +kernel, rfl, by decide +kernel, by decide +kernel⟩
theorem sc_check_expression : FnScope N_check_expression ["variables", "term", "deep"] d_check_expression.scope := ⟨rfl, rfl, rfl, by decide +kernel, rfl, by decide +kernel, by decide +kernel⟩
theorem sc_is_variable : FnScope N_is_variable ["variables", "name"] d_is_variable.scope := ⟨rfl, rfl, rfl, by decide +kernel, rfl, by decide +kernel, by decide +kernel⟩
theorem sc_kept : FnScope N_kept ["term"] d_kept.scope := ⟨rfl, rfl, rfl, by decide +kernel, rfl, by decide +kernel, by decide +kernel⟩
theorem sc_holds : FnScope N_holds ["term", "values"] d_holds.scope := ⟨rfl, rfl, rfl, by decide +kernel, rfl, by decide +kernel, by decide +kernel⟩
theorem sc_worked : FnScope N_worked ["term", "values"] d_worked.scope := ⟨rfl, rfl, rfl, by decide +kernel, rfl, by decide +kernel, by decide +kernel⟩
theorem sc_names_in : FnScope N_names_in ["term"] d_names_in.scope := ⟨rfl, rfl, rfl, by decide +kernel, rfl, by decide +kernel, by decide +kernel⟩
theorem sc_called : FnScope N_called ["term", "names"] d_called.scope := ⟨rfl, rfl, rfl, by decide +kernel, rfl, by decide +kernel, by decide +kernel⟩
theorem sc_all_of : FnScope N_all_of ["terms"] d_all_of.scope := ⟨rfl, rfl, rfl, by decide +kernel, rfl, by decide +kernel, by decide +kernel⟩
theorem sc_state_term : FnScope N_state_term ["variables", "state"] d_state_term.scope := ⟨rfl, rfl, rfl, by decide +kernel, rfl, by decide +kernel, by decide +kernel⟩
theorem sc__law_number : FnScope N__law_number ["script", "index"] d__law_number.scope := ⟨rfl, rfl, rfl, by decide +kernel, rfl, by decide +kernel, by decide +kernel⟩
theorem sc__law_take : FnScope N__law_take ["draw", "many"] d__law_take.scope := ⟨rfl, rfl, rfl, by decide +kernel, rfl, by decide +kernel, by decide +kernel⟩
theorem sc__law_pick : FnScope N__law_pick ["draw", "items"] d__law_pick.scope := ⟨rfl, rfl, rfl, by decide +kernel, rfl, by decide +kernel, by decide +kernel⟩
theorem sc__law_expression : FnScope N__law_expression ["draw", "variables", "deep"] d__law_expression.scope := ⟨rfl, rfl, rfl, by decide +kernel, rfl, by decide +kernel, by decide +kernel⟩
theorem sc__law_condition : FnScope N__law_condition ["draw", "variables", "deep"] d__law_condition.scope := ⟨rfl, rfl, rfl, by decide +kernel, rfl, by decide +kernel, by decide +kernel⟩
theorem sc__law_worked : FnScope N__law_worked ["term", "values"] d__law_worked.scope := ⟨rfl, rfl, rfl, by decide +kernel, rfl, by decide +kernel, by decide +kernel⟩
theorem sc__law_holds : FnScope N__law_holds ["term", "values"] d__law_holds.scope := ⟨rfl, rfl, rfl, by decide +kernel, rfl, by decide +kernel, by decide +kernel⟩
theorem sc__law_states : FnScope N__law_states ["told"] d__law_states.scope := ⟨rfl, rfl, rfl, by decide +kernel, rfl, by decide +kernel, by decide +kernel⟩
theorem sc__law_values : FnScope N__law_values ["told", "state"] d__law_values.scope := ⟨rfl, rfl, rfl, by decide +kernel, rfl, by decide +kernel, by decide +kernel⟩
theorem sc__law_names : FnScope N__law_names ["term"] d__law_names.scope := ⟨rfl, rfl, rfl, by decide +kernel, rfl, by decide +kernel, by decide +kernel⟩
theorem sc_law : FnScope N_law ["script"] d_law.scope := ⟨rfl, rfl, rfl, by decide +kernel, rfl, by decide +kernel, by decide +kernel⟩
theorem ok_is_row {K : PySem.W.Frag} {h : Heap} {mg : Str → Option Value} (X : K.In h) (G : h.Ns mainGlobals mg) (c : He.SaysD faA fnA K) : ∃ N ps, DefOk K mg T0 (T0.map fun g => (g.name, g.arity - g.dfl.length, g.arity)) exs0 f_is_row N ps :=
  defOk_0 (d := d_is_row) X G (c.def_ 0 (d := d_is_row) rfl) rfl rfl rfl rfl (c.fact 0 (f := .glo "is_row") rfl) sc_is_row (by decide +kernel) rfl rfl rfl (by kernel_rfl) fun fd F => F.bindsN fun _ _ _ _ _ _ us hl => match us, hl with | [_], _ => rfl
theorem ok_is_number {K : PySem.W.Frag} {h : Heap} {mg : Str → Option Value} (X : K.In h) (G : h.Ns mainGlobals mg) (c : He.SaysD faA fnA K) : ∃ N ps, DefOk K mg T0 (T0.map fun g => (g.name, g.arity - g.dfl.length, g.arity)) exs0 f_is_number N ps :=
  defOk_0 (d := d_is_number) X G (c.def_ 1 (d := d_is_number) rfl) rfl rfl rfl rfl (c.fact 1 (f := .glo "is_number") rfl) sc_is_number (by decide +kernel) rfl rfl rfl (by kernel_rfl) fun fd F => F.bindsN fun _ _ _ _ _ _ us hl => match us, hl with | [_], _ => rfl
theorem ok_is_below {K : PySem.W.Frag} {h : Heap} {mg : Str → Option Value} (X : K.In h) (G : h.Ns mainGlobals mg) (c : He.SaysD faA fnA K) : ∃ N ps, DefOk K mg T0 (T0.map fun g => (g.name, g.arity - g.dfl.length, g.arity)) exs0 f_is_below N ps :=
  defOk_0 (d := d_is_below) X G (c.def_ 2 (d := d_is_below) rfl) rfl rfl rfl rfl (c.fact 2 (f := .glo "is_below") rfl) sc_is_below (by decide +kernel) rfl rfl rfl (by kernel_rfl) fun fd F => F.bindsN fun _ _ _ _ _ _ us hl => match us, hl with | [_, _], _ => rfl
theorem ok_check_condition {K : PySem.W.Frag} {h : Heap} {mg : Str → Option Value} (X : K.In h) (G : h.Ns mainGlobals mg) (c : He.SaysD faA fnA K) : ∃ N ps, DefOk K mg T0 (T0.map fun g => (g.name, g.arity - g.dfl.length, g.arity)) exs0 f_check_condition N ps :=
  defOk_1 (d := d_check_condition) (i := 8) X G (c.def_ 3 (d := d_check_condition) rfl) rfl rfl rfl rfl (c.fact 3 (f := .glo "check_condition") rfl) sc_check_condition (by decide +kernel) rfl rfl rfl (by kernel_rfl) (by decide)
    (fun fd F => F.binds1 2 0 (by simp) rfl fun _ _ _ _ _ _ _ us its hl hl2 => match us, its, hl, hl2 with | [_, _], [_], _, _ => ⟨_, rfl, rfl⟩)
    (fun fd F => F.binds1 3 1 (by simp) rfl fun _ _ _ _ _ _ _ us its hl hl2 => match us, its, hl, hl2 with | [_, _, _], [_], _, _ => ⟨_, rfl, rfl⟩)
theorem ok_check_expression {K : PySem.W.Frag} {h : Heap} {mg : Str → Option Value} (X : K.In h) (G : h.Ns mainGlobals mg) (c : He.SaysD faA fnA K) : ∃ N ps, DefOk K mg T0 (T0.map fun g => (g.name, g.arity - g.dfl.length, g.arity)) exs0 f_check_expression N ps :=
  defOk_1 (d := d_check_expression) (i := 8) X G (c.def_ 4 (d := d_check_expression) rfl) rfl rfl rfl rfl (c.fact 4 (f := .glo "check_expression") rfl) sc_check_expression (by decide +kernel) rfl rfl rfl (by kernel_rfl) (by decide)
    (fun fd F => F.binds1 2 0 (by simp) rfl fun _ _ _ _ _ _ _ us its hl hl2 => match us, its, hl, hl2 with | [_, _], [_], _, _ => ⟨_, rfl, rfl⟩)
    (fun fd F => F.binds1 3 1 (by simp) rfl fun _ _ _ _ _ _ _ us its hl hl2 => match us, its, hl, hl2 with | [_, _, _], [_], _, _ => ⟨_, rfl, rfl⟩)
theorem ok_is_variable {K : PySem.W.Frag} {h : Heap} {mg : Str → Option Value} (X : K.In h) (G : h.Ns mainGlobals mg) (c : He.SaysD faA fnA K) : ∃ N ps, DefOk K mg T0 (T0.map fun g => (g.name, g.arity - g.dfl.length, g.arity)) exs0 f_is_variable N ps :=
  defOk_0 (d := d_is_variable) X G (c.def_ 5 (d := d_is_variable) rfl) rfl rfl rfl rfl (c.fact 5 (f := .glo "is_variable") rfl) sc_is_variable (by decide +kernel) rfl rfl rfl (by kernel_rfl) fun fd F => F.bindsN fun _ _ _ _ _ _ us hl => match us, hl with | [_, _], _ => rfl
theorem ok_kept {K : PySem.W.Frag} {h : Heap} {mg : Str → Option Value} (X : K.In h) (G : h.Ns mainGlobals mg) (c : He.SaysD faA fnA K) : ∃ N ps, DefOk K mg T0 (T0.map fun g => (g.name, g.arity - g.dfl.length, g.arity)) exs0 f_kept N ps :=
  defOk_0 (d := d_kept) X G (c.def_ 6 (d := d_kept) rfl) rfl rfl rfl rfl (c.fact 6 (f := .glo "kept") rfl) sc_kept (by decide +kernel) rfl rfl rfl (by kernel_rfl) fun fd F => F.bindsN fun _ _ _ _ _ _ us hl => match us, hl with | [_], _ => rfl
theorem ok_holds {K : PySem.W.Frag} {h : Heap} {mg : Str → Option Value} (X : K.In h) (G : h.Ns mainGlobals mg) (c : He.SaysD faA fnA K) : ∃ N ps, DefOk K mg T0 (T0.map fun g => (g.name, g.arity - g.dfl.length, g.arity)) exs0 f_holds N ps :=
  defOk_0 (d := d_holds) X G (c.def_ 7 (d := d_holds) rfl) rfl rfl rfl rfl (c.fact 7 (f := .glo "holds") rfl) sc_holds (by decide +kernel) rfl rfl rfl (by kernel_rfl) fun fd F => F.bindsN fun _ _ _ _ _ _ us hl => match us, hl with | [_, _], _ => rfl
theorem ok_worked {K : PySem.W.Frag} {h : Heap} {mg : Str → Option Value} (X : K.In h) (G : h.Ns mainGlobals mg) (c : He.SaysD faA fnA K) : ∃ N ps, DefOk K mg T0 (T0.map fun g => (g.name, g.arity - g.dfl.length, g.arity)) exs0 f_worked N ps :=
  defOk_0 (d := d_worked) X G (c.def_ 8 (d := d_worked) rfl) rfl rfl rfl rfl (c.fact 8 (f := .glo "worked") rfl) sc_worked (by decide +kernel) rfl rfl rfl (by kernel_rfl) fun fd F => F.bindsN fun _ _ _ _ _ _ us hl => match us, hl with | [_, _], _ => rfl
theorem ok_names_in {K : PySem.W.Frag} {h : Heap} {mg : Str → Option Value} (X : K.In h) (G : h.Ns mainGlobals mg) (c : He.SaysD faA fnA K) : ∃ N ps, DefOk K mg T0 (T0.map fun g => (g.name, g.arity - g.dfl.length, g.arity)) exs0 f_names_in N ps :=
  defOk_0 (d := d_names_in) X G (c.def_ 9 (d := d_names_in) rfl) rfl rfl rfl rfl (c.fact 9 (f := .glo "names_in") rfl) sc_names_in (by decide +kernel) rfl rfl rfl (by kernel_rfl) fun fd F => F.bindsN fun _ _ _ _ _ _ us hl => match us, hl with | [_], _ => rfl
theorem ok_called {K : PySem.W.Frag} {h : Heap} {mg : Str → Option Value} (X : K.In h) (G : h.Ns mainGlobals mg) (c : He.SaysD faA fnA K) : ∃ N ps, DefOk K mg T0 (T0.map fun g => (g.name, g.arity - g.dfl.length, g.arity)) exs0 f_called N ps :=
  defOk_0 (d := d_called) X G (c.def_ 10 (d := d_called) rfl) rfl rfl rfl rfl (c.fact 10 (f := .glo "called") rfl) sc_called (by decide +kernel) rfl rfl rfl (by kernel_rfl) fun fd F => F.bindsN fun _ _ _ _ _ _ us hl => match us, hl with | [_, _], _ => rfl
theorem ok_all_of {K : PySem.W.Frag} {h : Heap} {mg : Str → Option Value} (X : K.In h) (G : h.Ns mainGlobals mg) (c : He.SaysD faA fnA K) : ∃ N ps, DefOk K mg T0 (T0.map fun g => (g.name, g.arity - g.dfl.length, g.arity)) exs0 f_all_of N ps :=
  defOk_0 (d := d_all_of) X G (c.def_ 11 (d := d_all_of) rfl) rfl rfl rfl rfl (c.fact 11 (f := .glo "all_of") rfl) sc_all_of (by decide +kernel) rfl rfl rfl (by kernel_rfl) fun fd F => F.bindsN fun _ _ _ _ _ _ us hl => match us, hl with | [_], _ => rfl
theorem ok_state_term {K : PySem.W.Frag} {h : Heap} {mg : Str → Option Value} (X : K.In h) (G : h.Ns mainGlobals mg) (c : He.SaysD faA fnA K) : ∃ N ps, DefOk K mg T0 (T0.map fun g => (g.name, g.arity - g.dfl.length, g.arity)) exs0 f_state_term N ps :=
  defOk_0 (d := d_state_term) X G (c.def_ 12 (d := d_state_term) rfl) rfl rfl rfl rfl (c.fact 12 (f := .glo "state_term") rfl) sc_state_term (by decide +kernel) rfl rfl rfl (by kernel_rfl) fun fd F => F.bindsN fun _ _ _ _ _ _ us hl => match us, hl with | [_, _], _ => rfl
theorem ok__law_number {K : PySem.W.Frag} {h : Heap} {mg : Str → Option Value} (X : K.In h) (G : h.Ns mainGlobals mg) (c : He.SaysD faA fnA K) : ∃ N ps, DefOk K mg T0 (T0.map fun g => (g.name, g.arity - g.dfl.length, g.arity)) exs0 f__law_number N ps :=
  defOk_0 (d := d__law_number) X G (c.def_ 13 (d := d__law_number) rfl) rfl rfl rfl rfl (c.fact 13 (f := .glo "_law_number") rfl) sc__law_number (by decide +kernel) rfl rfl rfl (by kernel_rfl) fun fd F => F.bindsN fun _ _ _ _ _ _ us hl => match us, hl with | [_, _], _ => rfl
theorem ok__law_take {K : PySem.W.Frag} {h : Heap} {mg : Str → Option Value} (X : K.In h) (G : h.Ns mainGlobals mg) (c : He.SaysD faA fnA K) : ∃ N ps, DefOk K mg T0 (T0.map fun g => (g.name, g.arity - g.dfl.length, g.arity)) exs0 f__law_take N ps :=
  defOk_0 (d := d__law_take) X G (c.def_ 14 (d := d__law_take) rfl) rfl rfl rfl rfl (c.fact 14 (f := .glo "_law_take") rfl) sc__law_take (by decide +kernel) rfl rfl rfl (by kernel_rfl) fun fd F => F.bindsN fun _ _ _ _ _ _ us hl => match us, hl with | [_, _], _ => rfl
theorem ok__law_pick {K : PySem.W.Frag} {h : Heap} {mg : Str → Option Value} (X : K.In h) (G : h.Ns mainGlobals mg) (c : He.SaysD faA fnA K) : ∃ N ps, DefOk K mg T0 (T0.map fun g => (g.name, g.arity - g.dfl.length, g.arity)) exs0 f__law_pick N ps :=
  defOk_0 (d := d__law_pick) X G (c.def_ 15 (d := d__law_pick) rfl) rfl rfl rfl rfl (c.fact 15 (f := .glo "_law_pick") rfl) sc__law_pick (by decide +kernel) rfl rfl rfl (by kernel_rfl) fun fd F => F.bindsN fun _ _ _ _ _ _ us hl => match us, hl with | [_, _], _ => rfl
theorem ok__law_expression {K : PySem.W.Frag} {h : Heap} {mg : Str → Option Value} (X : K.In h) (G : h.Ns mainGlobals mg) (c : He.SaysD faA fnA K) : ∃ N ps, DefOk K mg T0 (T0.map fun g => (g.name, g.arity - g.dfl.length, g.arity)) exs0 f__law_expression N ps :=
  defOk_0 (d := d__law_expression) X G (c.def_ 16 (d := d__law_expression) rfl) rfl rfl rfl rfl (c.fact 16 (f := .glo "_law_expression") rfl) sc__law_expression (by decide +kernel) rfl rfl rfl (by kernel_rfl) fun fd F => F.bindsN fun _ _ _ _ _ _ us hl => match us, hl with | [_, _, _], _ => rfl
theorem ok__law_condition {K : PySem.W.Frag} {h : Heap} {mg : Str → Option Value} (X : K.In h) (G : h.Ns mainGlobals mg) (c : He.SaysD faA fnA K) : ∃ N ps, DefOk K mg T0 (T0.map fun g => (g.name, g.arity - g.dfl.length, g.arity)) exs0 f__law_condition N ps :=
  defOk_0 (d := d__law_condition) X G (c.def_ 17 (d := d__law_condition) rfl) rfl rfl rfl rfl (c.fact 17 (f := .glo "_law_condition") rfl) sc__law_condition (by decide +kernel) rfl rfl rfl (by kernel_rfl) fun fd F => F.bindsN fun _ _ _ _ _ _ us hl => match us, hl with | [_, _, _], _ => rfl
theorem ok__law_worked {K : PySem.W.Frag} {h : Heap} {mg : Str → Option Value} (X : K.In h) (G : h.Ns mainGlobals mg) (c : He.SaysD faA fnA K) : ∃ N ps, DefOk K mg T0 (T0.map fun g => (g.name, g.arity - g.dfl.length, g.arity)) exs0 f__law_worked N ps :=
  defOk_0 (d := d__law_worked) X G (c.def_ 18 (d := d__law_worked) rfl) rfl rfl rfl rfl (c.fact 18 (f := .glo "_law_worked") rfl) sc__law_worked (by decide +kernel) rfl rfl rfl (by kernel_rfl) fun fd F => F.bindsN fun _ _ _ _ _ _ us hl => match us, hl with | [_, _], _ => rfl
theorem ok__law_holds {K : PySem.W.Frag} {h : Heap} {mg : Str → Option Value} (X : K.In h) (G : h.Ns mainGlobals mg) (c : He.SaysD faA fnA K) : ∃ N ps, DefOk K mg T0 (T0.map fun g => (g.name, g.arity - g.dfl.length, g.arity)) exs0 f__law_holds N ps :=
  defOk_0 (d := d__law_holds) X G (c.def_ 19 (d := d__law_holds) rfl) rfl rfl rfl rfl (c.fact 19 (f := .glo "_law_holds") rfl) sc__law_holds (by decide +kernel) rfl rfl rfl (by kernel_rfl) fun fd F => F.bindsN fun _ _ _ _ _ _ us hl => match us, hl with | [_, _], _ => rfl
theorem ok__law_states {K : PySem.W.Frag} {h : Heap} {mg : Str → Option Value} (X : K.In h) (G : h.Ns mainGlobals mg) (c : He.SaysD faA fnA K) : ∃ N ps, DefOk K mg T0 (T0.map fun g => (g.name, g.arity - g.dfl.length, g.arity)) exs0 f__law_states N ps :=
  defOk_0 (d := d__law_states) X G (c.def_ 20 (d := d__law_states) rfl) rfl rfl rfl rfl (c.fact 20 (f := .glo "_law_states") rfl) sc__law_states (by decide +kernel) rfl rfl rfl (by kernel_rfl) fun fd F => F.bindsN fun _ _ _ _ _ _ us hl => match us, hl with | [_], _ => rfl
theorem ok__law_values {K : PySem.W.Frag} {h : Heap} {mg : Str → Option Value} (X : K.In h) (G : h.Ns mainGlobals mg) (c : He.SaysD faA fnA K) : ∃ N ps, DefOk K mg T0 (T0.map fun g => (g.name, g.arity - g.dfl.length, g.arity)) exs0 f__law_values N ps :=
  defOk_0 (d := d__law_values) X G (c.def_ 21 (d := d__law_values) rfl) rfl rfl rfl rfl (c.fact 21 (f := .glo "_law_values") rfl) sc__law_values (by decide +kernel) rfl rfl rfl (by kernel_rfl) fun fd F => F.bindsN fun _ _ _ _ _ _ us hl => match us, hl with | [_, _], _ => rfl
theorem ok__law_names {K : PySem.W.Frag} {h : Heap} {mg : Str → Option Value} (X : K.In h) (G : h.Ns mainGlobals mg) (c : He.SaysD faA fnA K) : ∃ N ps, DefOk K mg T0 (T0.map fun g => (g.name, g.arity - g.dfl.length, g.arity)) exs0 f__law_names N ps :=
  defOk_0 (d := d__law_names) X G (c.def_ 22 (d := d__law_names) rfl) rfl rfl rfl rfl (c.fact 22 (f := .glo "_law_names") rfl) sc__law_names (by decide +kernel) rfl rfl rfl (by kernel_rfl) fun fd F => F.bindsN fun _ _ _ _ _ _ us hl => match us, hl with | [_], _ => rfl
end PC
set_option autoImplicit true
set_option linter.all false
set_option maxRecDepth 100000
namespace PC
open PySem
@[simp] theorem ofStr_inj (a b : String) : (Str.ofString a = Str.ofString b) = (a = b) := by
  apply propext
  constructor
  · intro h
    rw [Str.ofString_eq_toList, Str.ofString_eq_toList] at h
    have h1 := congrArg (fun s : Str => s.cps.toList) h
    simp only [List.toList_toArray] at h1
    have h2 : a.toList = b.toList := by
      have : ∀ (x y : List Char), x.map Char.toNat = y.map Char.toNat → x = y := by
        intro x
        induction x with
        | nil => intro y h; cases y with | nil => rfl | cons c t => simp at h
        | cons c t ih => intro y h; cases y with
          | nil => simp at h
          | cons d u =>
            simp only [List.map_cons, List.cons.injEq] at h
            have e : c = d := by
              apply Char.ext
              exact UInt32.toNat.inj h.1
            rw [e, ih u h.2]
      exact this _ _ h1
    exact String.ext h2
  · intro h; rw [h]
@[simp] theorem ofStr_beq (a b : String) : (Str.ofString a == Str.ofString b) = (a == b) := by
  rw [Bool.eq_iff_iff]; simp [ofStr_inj]
@[simp] theorem bind_ok {α β : Type} (a : α) (st : Store) (f : α → Store → R β) : (R.ok a st).bind f = f a st := rfl
@[simp] theorem bind_exc {α β : Type} (c fs) (st : Store) (f : α → Store → R β) : (R.exc c fs st).bind f = .exc c fs st := rfl
@[simp] theorem bind_bad {α β : Type} (f : α → Store → R β) : (R.bad).bind f = .bad := rfl
@[simp] theorem fl_ok {α : Type} (a : α) (st : Store) (ρ : Env) (f : α → Store → Fl) : (R.ok a st).fl ρ f = f a st := rfl
@[simp] theorem fl_exc {α : Type} (c fs) (st : Store) (ρ : Env) (f : α → Store → Fl) : (R.exc c fs st).fl ρ f = .ex c fs ρ st := rfl
@[simp] theorem fl_bad {α : Type} (ρ : Env) (f : α → Store → Fl) : (R.bad).fl ρ f = .bad := rfl
def Fl.sq (f : Fl) (k : Env → Store → Fl) : Fl := match f with
  | .nx ρ st => k ρ st
  | f => f
@[simp] theorem sq_nx (ρ st k) : (Fl.nx ρ st).sq k = k ρ st := rfl
@[simp] theorem sq_rt (v st k) : (Fl.rt v st).sq k = .rt v st := rfl
@[simp] theorem sq_ex (c fs ρ st k) : (Fl.ex c fs ρ st).sq k = .ex c fs ρ st := rfl
@[simp] theorem sq_bad (k) : Fl.bad.sq k = .bad := rfl
@[simp] theorem evB_nil (G : Ops) (ρ : Env) (st : Store) : evB G .nil ρ st = .nx ρ st := by rw [evB]
theorem evB_cons (G : Ops) (s : CT) (r : CB) (ρ : Env) (st : Store) : evB G (.cons s r) ρ st = (evT G s ρ st).sq fun ρ st => evB G r ρ st := by
  rw [evB]; cases evT G s ρ st <;> rfl
def getS (ρ : Env) (i : Nat) : Option Slot := (ρ[i]?).getD none
def itB : PV → Unit := fun _ => ()
/-- a body's end -/
def endR : Fl → R PV
  | .nx _ st => .ok .non st
  | .rt v st => .ok v st
  | .ex c fs _ st => .exc c fs st
  | _ => .bad
@[simp] theorem endR_nx (ρ st) : endR (.nx ρ st) = .ok .non st := rfl
@[simp] theorem endR_rt (v st) : endR (.rt v st) = .ok v st := rfl
@[simp] theorem endR_ex (c fs ρ st) : endR (.ex c fs ρ st) = .exc c fs st := rfl
theorem bodyR_eq (G : Ops) (f : Fn) (vs : List PV) (st : Store) : bodyR G f vs st = endR (evB G f.body (vs.map (fun v => some (.val v)) ++ List.replicate (f.slots - vs.length) none) st) := by
  unfold bodyR endR; rfl

theorem eqF_int (a b : Int) : eqF (.int a) (.int b) = (a == b) := rfl
theorem eqF_str (a b : Str) : eqF (.str a) (.str b) = (a == b) := rfl
@[simp] theorem isin_s1 (a b : Str) : isin (.str a) (.tup [.str b]) = some (b == a) := by simp [isin, flatP, inF, eqF_str]
@[simp] theorem isin_s2 (a b c : Str) : isin (.str a) (.tup [.str b, .str c]) = some (b == a || c == a) := by simp [isin, flatP, inF, eqF_str]
@[simp] theorem isin_dct (x : PV) (kvs : List (Key × PV)) : isin x (.dct kvs) = (toKey x).map fun k => (dget kvs k).isSome := rfl
def lk (ρ : Env) (i : Nat) : Option Slot := match ρ[i]? with
  | some s => s
  | none => none
@[simp] theorem lk_z (s : Option Slot) (ρ : Env) : lk (s :: ρ) 0 = s := rfl
@[simp] theorem lk_s (s : Option Slot) (ρ : Env) (i : Nat) : lk (s :: ρ) (i + 1) = lk ρ i := by simp [lk]
def seeV (t : Bool) (st : Store) (o : Option Slot) : R PV := match o with
  | some (.val v) => fin t v st
  | _ => .bad
@[simp] theorem seeV_v (t st v) : seeV t st (some (.val v)) = fin t v st := rfl
def seeW (st : Store) (o : Option Slot) : R PV := match o with
  | some (.val v) => .ok v st
  | some (.own v) => .ok v st
  | _ => .bad
@[simp] theorem seeW_v (st v) : seeW st (some (.val v)) = .ok v st := rfl
@[simp] theorem seeW_o (st v) : seeW st (some (.own v)) = .ok v st := rfl
def sel {α : Type} (b : Bool) (x y : α) : α := if b then x else y
@[simp] theorem sel_t {α : Type} (x y : α) : sel true x y = x := rfl
@[simp] theorem sel_f {α : Type} (x y : α) : sel false x y = y := rfl
def onO {α β : Type} (o : Option α) (k : α → R β) : R β := match o with
  | some a => k a
  | none => .bad
@[simp] theorem onO_s {α β : Type} (a : α) (k : α → R β) : onO (some a) k = k a := rfl
@[simp] theorem onO_n {α β : Type} (k : α → R β) : onO (none : Option α) k = .bad := rfl
def onB {β : Type} (r : R PV) (k : Bool → Store → R β) : R β := r.bind fun x st => match x with
  | .bl b => k b st
  | _ => .bad
@[simp] theorem onB_ok {β : Type} (b st) (k : Bool → Store → R β) : onB (.ok (.bl b) st) k = k b st := rfl
@[simp] theorem onB_exc {β : Type} (c fs st) (k : Bool → Store → R β) : onB (.exc c fs st) k = .exc c fs st := rfl
@[simp] theorem onB_bad {β : Type} (k : Bool → Store → R β) : onB .bad k = .bad := rfl
def onI {β : Type} (r : R PV) (k : Int → Store → R β) : R β := r.bind fun x st => match x with
  | .int b => k b st
  | _ => .bad
@[simp] theorem onI_ok {β : Type} (b st) (k : Int → Store → R β) : onI (.ok (.int b) st) k = k b st := rfl
@[simp] theorem onI_exc {β : Type} (c fs st) (k : Int → Store → R β) : onI (.exc c fs st) k = .exc c fs st := rfl
def onD {β : Type} (r : R PV) (k : List (Key × PV) → Store → R β) : R β := r.bind fun x st => match x with
  | .dct b => k b st
  | _ => .bad
@[simp] theorem onD_ok {β : Type} (b st) (k : List (Key × PV) → Store → R β) : onD (.ok (.dct b) st) k = k b st := rfl
def flB (r : R PV) (ρ : Env) (k : Bool → Store → Fl) : Fl := r.fl ρ fun x st => match x with
  | .bl b => k b st
  | _ => .bad
@[simp] theorem flB_ok (b st ρ k) : flB (.ok (.bl b) st) ρ k = k b st := rfl
@[simp] theorem flB_exc (c fs st ρ k) : flB (.exc c fs st) ρ k = .ex c fs ρ st := rfl
def flO {α : Type} (o : Option α) (k : α → Fl) : Fl := match o with
  | some a => k a
  | none => .bad
@[simp] theorem flO_s {α : Type} (a : α) (k : α → Fl) : flO (some a) k = k a := rfl
theorem bindE {α β : Type} {r : R α} {f g : α → Store → R β} (h : ∀ a st, f a st = g a st) : r.bind f = r.bind g := by
  have : f = g := by funext a st; exact h a st
  rw [this]
theorem flE {α : Type} {r : R α} {ρ : Env} {f g : α → Store → Fl} (h : ∀ a st, f a st = g a st) : r.fl ρ f = r.fl ρ g := by
  have : f = g := by funext a st; exact h a st
  rw [this]
theorem ite_sel {α : Type} (p : Prop) [Decidable p] (x y : α) : (if p then x else y) = sel (decide p) x y := by
  by_cases h : p <;> simp [h]
theorem onO_m {α β : Type} (o : Option α) (k : α → R β) : (match o with | some a => k a | none => .bad) = onO o k := rfl
/-- what is not to be looked into -/
class Hold (α : Type) where
  v : α
def bd {α β : Type} (r : R α) [k : Hold (α → Store → R β)] : R β := r.bind k.v
@[simp] theorem bd_ok {α β : Type} (a : α) (st : Store) (f : α → Store → R β) : @bd α β (.ok a st) ⟨f⟩ = f a st := rfl
@[simp] theorem bd_exc {α β : Type} (c fs) (st : Store) (f : α → Store → R β) : @bd α β (.exc c fs st) ⟨f⟩ = .exc c fs st := rfl
def flH {α : Type} (r : R α) (ρ : Env) [k : Hold (α → Store → Fl)] : Fl := r.fl ρ k.v
@[simp] theorem flH_ok {α : Type} (a : α) (st : Store) (ρ : Env) (f : α → Store → Fl) : @flH α (.ok a st) ρ ⟨f⟩ = f a st := rfl
@[simp] theorem flH_exc {α : Type} (c fs) (st : Store) (ρ : Env) (f : α → Store → Fl) : @flH α (.exc c fs st) ρ ⟨f⟩ = .ex c fs ρ st := rfl
def sqH (f : Fl) [k : Hold (Env → Store → Fl)] : Fl := f.sq k.v
@[simp] theorem sqH_nx (ρ st k) : @sqH (.nx ρ st) ⟨k⟩ = k ρ st := rfl
@[simp] theorem sqH_rt (v st k) : @sqH (.rt v st) ⟨k⟩ = .rt v st := rfl
@[simp] theorem sqH_ex (c fs ρ st k) : @sqH (.ex c fs ρ st) ⟨k⟩ = .ex c fs ρ st := rfl
def selH {α : Type} (b : Bool) [x : Hold α] [y : Hold α] : α := sel b x.v y.v
@[simp] theorem selH_t {α : Type} (x y : α) : @selH α true ⟨x⟩ ⟨y⟩ = x := rfl
@[simp] theorem selH_f {α : Type} (x y : α) : @selH α false ⟨x⟩ ⟨y⟩ = y := rfl
def onOH {α β : Type} (o : Option α) [k : Hold (α → R β)] : R β := onO o k.v
@[simp] theorem onOH_s {α β : Type} (a : α) (k : α → R β) : @onOH α β (some a) ⟨k⟩ = k a := rfl
def onBH {β : Type} (r : R PV) [k : Hold (Bool → Store → R β)] : R β := onB r k.v
@[simp] theorem onBH_ok {β : Type} (b st) (k : Bool → Store → R β) : @onBH β (.ok (.bl b) st) ⟨k⟩ = k b st := rfl
@[simp] theorem onBH_exc {β : Type} (c fs st) (k : Bool → Store → R β) : @onBH β (.exc c fs st) ⟨k⟩ = .exc c fs st := rfl
def onIH {β : Type} (r : R PV) [k : Hold (Int → Store → R β)] : R β := onI r k.v
@[simp] theorem onIH_ok {β : Type} (b st) (k : Int → Store → R β) : @onIH β (.ok (.int b) st) ⟨k⟩ = k b st := rfl
@[simp] theorem onIH_exc {β : Type} (c fs st) (k : Int → Store → R β) : @onIH β (.exc c fs st) ⟨k⟩ = .exc c fs st := rfl
def onDH {β : Type} (r : R PV) [k : Hold (List (Key × PV) → Store → R β)] : R β := onD r k.v
@[simp] theorem onDH_ok {β : Type} (b st) (k : List (Key × PV) → Store → R β) : @onDH β (.ok (.dct b) st) ⟨k⟩ = k b st := rfl
def flBH (r : R PV) (ρ : Env) [k : Hold (Bool → Store → Fl)] : Fl := flB r ρ k.v
@[simp] theorem flBH_ok (b st ρ k) : @flBH (.ok (.bl b) st) ρ ⟨k⟩ = k b st := rfl
@[simp] theorem flBH_exc (c fs st ρ k) : @flBH (.exc c fs st) ρ ⟨k⟩ = .ex c fs ρ st := rfl
def flOH {α : Type} (o : Option α) [k : Hold (α → Fl)] : Fl := flO o k.v
@[simp] theorem flOH_s {α : Type} (a : α) (k : α → Fl) : @flOH α (some a) ⟨k⟩ = k a := rfl
/-- a comprehension's turn -/
def lcF (G : Ops) (own : List Nat) (tg : Tg) (c : CO) (elt : CE) (ρ : Env) : PV → Store → R (Option PV) := fun x st => onO (tg.put x (wipeE ρ own)) fun ρ2 => (evC G c ρ2 st).bind fun b st => sel b ((ev G elt false ρ2 st).bind fun y st => .ok (some y) st) (.ok none st)
def dcF (G : Ops) (own : List Nat) (tg : Tg) (c : CO) (k v : CE) (ρ : Env) : PV → Store → R (Option (Key × PV)) := fun x st => onO (tg.put x (wipeE ρ own)) fun ρ2 => (evC G c ρ2 st).bind fun b st => sel b ((ev G k false ρ2 st).bind fun y st => (ev G v false ρ2 st).bind fun z st => onO (toKey y) fun k => .ok (some (k, z)) st) (.ok none st)
@[simp] theorem lcF_ap (G : Ops) (own tg c elt ρ x st) : lcF G own tg c elt ρ x st = @onOH _ _ (tg.put x (wipeE ρ own)) ⟨fun ρ2 => @bd _ _ (evC G c ρ2 st) ⟨fun b st => @selH _ b ⟨(@bd _ _ (ev G elt false ρ2 st) ⟨fun y st => .ok (some y) st⟩)⟩ ⟨(.ok none st)⟩⟩⟩ := rfl
@[simp] theorem dcF_ap (G : Ops) (own tg c k v ρ x st) : dcF G own tg c k v ρ x st = @onOH _ _ (tg.put x (wipeE ρ own)) ⟨fun ρ2 => @bd _ _ (evC G c ρ2 st) ⟨fun b st => @selH _ b ⟨(@bd _ _ (ev G k false ρ2 st) ⟨fun y st => @bd _ _ (ev G v false ρ2 st) ⟨fun z st => @onOH _ _ (toKey y) ⟨fun k => .ok (some (k, z)) st⟩⟩⟩)⟩ ⟨(.ok none st)⟩⟩⟩ := rfl
@[simp] theorem le_big (n : Nat) (h : n ≤ 16777216) : (n ≤ big) = True := eq_true h
@[simp] theorem le_bigI (n : Int) (h : n ≤ 16777216) : (n ≤ ((big : Nat) : Int)) = True := eq_true h
@[simp] theorem sevB_cons (G : Ops) (s : CT) (r : CB) (ρ : Env) (st : Store) : evB G (.cons s r) ρ st = @sqH (evT G s ρ st) ⟨fun ρ st => evB G r ρ st⟩ := evB_cons G s r ρ st
theorem ev_var (G : Ops) i (t : Bool) (ρ : Env) (st : Store) : ev G (.var i) t ρ st = seeV t st (lk ρ i) := by
  rw [ev]; unfold seeV lk; rcases ρ[i]? with _ | _ | s <;> try rfl
  cases s with
  | val v => cases v <;> rfl
  | own v => rfl
@[simp] theorem sev_var (G : Ops) i (t : Bool) (ρ : Env) (st : Store) : ev G (.var i) t ρ st = seeV t st (lk ρ i) := ev_var G i t ρ st
theorem ev_con (G : Ops) v (t : Bool) (ρ : Env) (st : Store) : ev G (.con v) t ρ st = fin t v st := by rw [ev]; (try simp only [ite_sel, Bool.decide_eq_true]); repeat' (first | rfl | (with_reducible refine congrArg (sel _ _) ?_) | (with_reducible refine bindE fun x st => ?_) | (with_reducible refine flE fun x st => ?_) | (unfold onB; refine bindE fun x st => ?_; cases x <;> first | rfl | (rename_i b; cases b <;> rfl)) | (unfold onI; refine bindE fun x st => ?_; cases x <;> try rfl) | (unfold onD; refine bindE fun x st => ?_; cases x <;> try rfl) | (unfold flB; refine flE fun x st => ?_; cases x <;> first | rfl | (rename_i b; cases b <;> rfl)) | (unfold onO; split <;> simp_all; done) | (unfold flO; split <;> simp_all; done))
@[simp] theorem sev_con (G : Ops) v (t : Bool) (ρ : Env) (st : Store) : ev G (.con v) t ρ st = fin t v st := ev_con G v t ρ st
theorem ev_tup (G : Ops) es (t : Bool) (ρ : Env) (st : Store) : ev G (.tup es) t ρ st = sel t .bad ((evA G es ρ st).bind fun xs st => sel (decide (xs.length ≤ big)) (.ok (.tup xs) st) .bad) := by rw [ev]; (try simp only [ite_sel, Bool.decide_eq_true]); repeat' (first | rfl | (with_reducible refine congrArg (sel _ _) ?_) | (with_reducible refine bindE fun x st => ?_) | (with_reducible refine flE fun x st => ?_) | (unfold onB; refine bindE fun x st => ?_; cases x <;> first | rfl | (rename_i b; cases b <;> rfl)) | (unfold onI; refine bindE fun x st => ?_; cases x <;> try rfl) | (unfold onD; refine bindE fun x st => ?_; cases x <;> try rfl) | (unfold flB; refine flE fun x st => ?_; cases x <;> first | rfl | (rename_i b; cases b <;> rfl)) | (unfold onO; split <;> simp_all; done) | (unfold flO; split <;> simp_all; done))
@[simp] theorem sev_tup (G : Ops) es (t : Bool) (ρ : Env) (st : Store) : ev G (.tup es) t ρ st = @selH _ t ⟨.bad⟩ ⟨(@bd _ _ (evA G es ρ st) ⟨fun xs st => @selH _ (decide (xs.length ≤ big)) ⟨(.ok (.tup xs) st)⟩ ⟨.bad⟩⟩)⟩ := ev_tup G es t ρ st
theorem ev_lst (G : Ops) es (t : Bool) (ρ : Env) (st : Store) : ev G (.lst es) t ρ st = sel t .bad ((evA G es ρ st).bind fun xs st => sel (decide (xs.length ≤ big)) (.ok (.lst xs) st) .bad) := by rw [ev]; (try simp only [ite_sel, Bool.decide_eq_true]); repeat' (first | rfl | (with_reducible refine congrArg (sel _ _) ?_) | (with_reducible refine bindE fun x st => ?_) | (with_reducible refine flE fun x st => ?_) | (unfold onB; refine bindE fun x st => ?_; cases x <;> first | rfl | (rename_i b; cases b <;> rfl)) | (unfold onI; refine bindE fun x st => ?_; cases x <;> try rfl) | (unfold onD; refine bindE fun x st => ?_; cases x <;> try rfl) | (unfold flB; refine flE fun x st => ?_; cases x <;> first | rfl | (rename_i b; cases b <;> rfl)) | (unfold onO; split <;> simp_all; done) | (unfold flO; split <;> simp_all; done))
@[simp] theorem sev_lst (G : Ops) es (t : Bool) (ρ : Env) (st : Store) : ev G (.lst es) t ρ st = @selH _ t ⟨.bad⟩ ⟨(@bd _ _ (evA G es ρ st) ⟨fun xs st => @selH _ (decide (xs.length ≤ big)) ⟨(.ok (.lst xs) st)⟩ ⟨.bad⟩⟩)⟩ := ev_lst G es t ρ st
theorem ev_dsp (G : Ops) es (t : Bool) (ρ : Env) (st : Store) : ev G (.dsp es) t ρ st = sel t .bad ((evA G es ρ st).bind fun xs st => onO (kvPairs xs) fun kvs => sel (decide (kvs.length ≤ 15)) (.ok (.dct (dmerge [] kvs)) st) .bad) := by rw [ev]; (try simp only [ite_sel, Bool.decide_eq_true]); repeat' (first | rfl | (with_reducible refine congrArg (sel _ _) ?_) | (with_reducible refine bindE fun x st => ?_) | (with_reducible refine flE fun x st => ?_) | (unfold onB; refine bindE fun x st => ?_; cases x <;> first | rfl | (rename_i b; cases b <;> rfl)) | (unfold onI; refine bindE fun x st => ?_; cases x <;> try rfl) | (unfold onD; refine bindE fun x st => ?_; cases x <;> try rfl) | (unfold flB; refine flE fun x st => ?_; cases x <;> first | rfl | (rename_i b; cases b <;> rfl)) | (unfold onO; split <;> simp_all; done) | (unfold flO; split <;> simp_all; done))
@[simp] theorem sev_dsp (G : Ops) es (t : Bool) (ρ : Env) (st : Store) : ev G (.dsp es) t ρ st = @selH _ t ⟨.bad⟩ ⟨(@bd _ _ (evA G es ρ st) ⟨fun xs st => @onOH _ _ (kvPairs xs) ⟨fun kvs => @selH _ (decide (kvs.length ≤ 15)) ⟨(.ok (.dct (dmerge [] kvs)) st)⟩ ⟨.bad⟩⟩⟩)⟩ := ev_dsp G es t ρ st
theorem ev_bin (G : Ops) op a b (t : Bool) (ρ : Env) (st : Store) : ev G (.bin op a b) t ρ st = sel t .bad ((vw a ρ st (ev G a false ρ st)).bind fun x st => (vw b ρ st (ev G b false ρ st)).bind fun y st => R.of (binP op x y) st) := by rw [ev]; (try simp only [ite_sel, Bool.decide_eq_true]); repeat' (first | rfl | (with_reducible refine congrArg (sel _ _) ?_) | (with_reducible refine bindE fun x st => ?_) | (with_reducible refine flE fun x st => ?_) | (unfold onB; refine bindE fun x st => ?_; cases x <;> first | rfl | (rename_i b; cases b <;> rfl)) | (unfold onI; refine bindE fun x st => ?_; cases x <;> try rfl) | (unfold onD; refine bindE fun x st => ?_; cases x <;> try rfl) | (unfold flB; refine flE fun x st => ?_; cases x <;> first | rfl | (rename_i b; cases b <;> rfl)) | (unfold onO; split <;> simp_all; done) | (unfold flO; split <;> simp_all; done))
@[simp] theorem sev_bin (G : Ops) op a b (t : Bool) (ρ : Env) (st : Store) : ev G (.bin op a b) t ρ st = @selH _ t ⟨.bad⟩ ⟨(@bd _ _ (vw a ρ st (ev G a false ρ st)) ⟨fun x st => @bd _ _ (vw b ρ st (ev G b false ρ st)) ⟨fun y st => R.of (binP op x y) st⟩⟩)⟩ := ev_bin G op a b t ρ st
theorem ev_cmp (G : Ops) op a b (t : Bool) (ρ : Env) (st : Store) : ev G (.cmp op a b) t ρ st = ((vw a ρ st (ev G a false ρ st)).bind fun x st => (vw b ρ st (ev G b false ρ st)).bind fun y st => R.of ((cmpP op x y).map .bl) st) := by rw [ev]; (try simp only [ite_sel, Bool.decide_eq_true]); repeat' (first | rfl | (with_reducible refine congrArg (sel _ _) ?_) | (with_reducible refine bindE fun x st => ?_) | (with_reducible refine flE fun x st => ?_) | (unfold onB; refine bindE fun x st => ?_; cases x <;> first | rfl | (rename_i b; cases b <;> rfl)) | (unfold onI; refine bindE fun x st => ?_; cases x <;> try rfl) | (unfold onD; refine bindE fun x st => ?_; cases x <;> try rfl) | (unfold flB; refine flE fun x st => ?_; cases x <;> first | rfl | (rename_i b; cases b <;> rfl)) | (unfold onO; split <;> simp_all; done) | (unfold flO; split <;> simp_all; done))
@[simp] theorem sev_cmp (G : Ops) op a b (t : Bool) (ρ : Env) (st : Store) : ev G (.cmp op a b) t ρ st = @bd _ _ (vw a ρ st (ev G a false ρ st)) ⟨fun x st => @bd _ _ (vw b ρ st (ev G b false ρ st)) ⟨fun y st => R.of ((cmpP op x y).map .bl) st⟩⟩ := ev_cmp G op a b t ρ st
theorem ev_neg (G : Ops) a (t : Bool) (ρ : Env) (st : Store) : ev G (.neg a) t ρ st = sel t .bad (onI (ev G a false ρ st) fun i st => .ok (.int (-i)) st) := by rw [ev]; (try simp only [ite_sel, Bool.decide_eq_true]); repeat' (first | rfl | (with_reducible refine congrArg (sel _ _) ?_) | (with_reducible refine bindE fun x st => ?_) | (with_reducible refine flE fun x st => ?_) | (unfold onB; refine bindE fun x st => ?_; cases x <;> first | rfl | (rename_i b; cases b <;> rfl)) | (unfold onI; refine bindE fun x st => ?_; cases x <;> try rfl) | (unfold onD; refine bindE fun x st => ?_; cases x <;> try rfl) | (unfold flB; refine flE fun x st => ?_; cases x <;> first | rfl | (rename_i b; cases b <;> rfl)) | (unfold onO; split <;> simp_all; done) | (unfold flO; split <;> simp_all; done))
@[simp] theorem sev_neg (G : Ops) a (t : Bool) (ρ : Env) (st : Store) : ev G (.neg a) t ρ st = @selH _ t ⟨.bad⟩ ⟨(@onIH _ (ev G a false ρ st) ⟨fun i st => .ok (.int (-i)) st⟩)⟩ := ev_neg G a t ρ st
theorem ev_not (G : Ops) a (t : Bool) (ρ : Env) (st : Store) : ev G (.not a) t ρ st = (onB (ev G a t ρ st) fun b st => .ok (.bl (!b)) st) := by rw [ev]; (try simp only [ite_sel, Bool.decide_eq_true]); repeat' (first | rfl | (with_reducible refine congrArg (sel _ _) ?_) | (with_reducible refine bindE fun x st => ?_) | (with_reducible refine flE fun x st => ?_) | (unfold onB; refine bindE fun x st => ?_; cases x <;> first | rfl | (rename_i b; cases b <;> rfl)) | (unfold onI; refine bindE fun x st => ?_; cases x <;> try rfl) | (unfold onD; refine bindE fun x st => ?_; cases x <;> try rfl) | (unfold flB; refine flE fun x st => ?_; cases x <;> first | rfl | (rename_i b; cases b <;> rfl)) | (unfold onO; split <;> simp_all; done) | (unfold flO; split <;> simp_all; done))
@[simp] theorem sev_not (G : Ops) a (t : Bool) (ρ : Env) (st : Store) : ev G (.not a) t ρ st = @onBH _ (ev G a t ρ st) ⟨fun b st => .ok (.bl (!b)) st⟩ := ev_not G a t ρ st
theorem ev_and (G : Ops) a b (t : Bool) (ρ : Env) (st : Store) : ev G (.and a b) t ρ st = (onB (ev G a t ρ st) fun x st => sel x (ev G b t ρ st) (.ok (.bl false) st)) := by rw [ev]; (try simp only [ite_sel, Bool.decide_eq_true]); repeat' (first | rfl | (with_reducible refine congrArg (sel _ _) ?_) | (with_reducible refine bindE fun x st => ?_) | (with_reducible refine flE fun x st => ?_) | (unfold onB; refine bindE fun x st => ?_; cases x <;> first | rfl | (rename_i b; cases b <;> rfl)) | (unfold onI; refine bindE fun x st => ?_; cases x <;> try rfl) | (unfold onD; refine bindE fun x st => ?_; cases x <;> try rfl) | (unfold flB; refine flE fun x st => ?_; cases x <;> first | rfl | (rename_i b; cases b <;> rfl)) | (unfold onO; split <;> simp_all; done) | (unfold flO; split <;> simp_all; done))
@[simp] theorem sev_and (G : Ops) a b (t : Bool) (ρ : Env) (st : Store) : ev G (.and a b) t ρ st = @onBH _ (ev G a t ρ st) ⟨fun x st => @selH _ x ⟨(ev G b t ρ st)⟩ ⟨(.ok (.bl false) st)⟩⟩ := ev_and G a b t ρ st
theorem ev_or (G : Ops) a b (t : Bool) (ρ : Env) (st : Store) : ev G (.or a b) t ρ st = (onB (ev G a t ρ st) fun x st => sel x (.ok (.bl true) st) (ev G b t ρ st)) := by rw [ev]; (try simp only [ite_sel, Bool.decide_eq_true]); repeat' (first | rfl | (with_reducible refine congrArg (sel _ _) ?_) | (with_reducible refine bindE fun x st => ?_) | (with_reducible refine flE fun x st => ?_) | (unfold onB; refine bindE fun x st => ?_; cases x <;> first | rfl | (rename_i b; cases b <;> rfl)) | (unfold onI; refine bindE fun x st => ?_; cases x <;> try rfl) | (unfold onD; refine bindE fun x st => ?_; cases x <;> try rfl) | (unfold flB; refine flE fun x st => ?_; cases x <;> first | rfl | (rename_i b; cases b <;> rfl)) | (unfold onO; split <;> simp_all; done) | (unfold flO; split <;> simp_all; done))
@[simp] theorem sev_or (G : Ops) a b (t : Bool) (ρ : Env) (st : Store) : ev G (.or a b) t ρ st = @onBH _ (ev G a t ρ st) ⟨fun x st => @selH _ x ⟨(.ok (.bl true) st)⟩ ⟨(ev G b t ρ st)⟩⟩ := ev_or G a b t ρ st
theorem ev_ifx (G : Ops) c a b (t : Bool) (ρ : Env) (st : Store) : ev G (.ifx c a b) t ρ st = sel t .bad (onB (ev G c true ρ st) fun x st => sel x (ev G a false ρ st) (ev G b false ρ st)) := by rw [ev]; (try simp only [ite_sel, Bool.decide_eq_true]); repeat' (first | rfl | (with_reducible refine congrArg (sel _ _) ?_) | (with_reducible refine bindE fun x st => ?_) | (with_reducible refine flE fun x st => ?_) | (unfold onB; refine bindE fun x st => ?_; cases x <;> first | rfl | (rename_i b; cases b <;> rfl)) | (unfold onI; refine bindE fun x st => ?_; cases x <;> try rfl) | (unfold onD; refine bindE fun x st => ?_; cases x <;> try rfl) | (unfold flB; refine flE fun x st => ?_; cases x <;> first | rfl | (rename_i b; cases b <;> rfl)) | (unfold onO; split <;> simp_all; done) | (unfold flO; split <;> simp_all; done))
@[simp] theorem sev_ifx (G : Ops) c a b (t : Bool) (ρ : Env) (st : Store) : ev G (.ifx c a b) t ρ st = @selH _ t ⟨.bad⟩ ⟨(@onBH _ (ev G c true ρ st) ⟨fun x st => @selH _ x ⟨(ev G a false ρ st)⟩ ⟨(ev G b false ρ st)⟩⟩)⟩ := ev_ifx G c a b t ρ st
theorem ev_sub (G : Ops) a i (t : Bool) (ρ : Env) (st : Store) : ev G (.sub a i) t ρ st = ((vw a ρ st (ev G a false ρ st)).bind fun x st => (ev G i false ρ st).bind fun y st => onO (subP st x y) fun v => fin t v st) := by rw [ev]; (try simp only [ite_sel, Bool.decide_eq_true]); repeat' (first | rfl | (with_reducible refine congrArg (sel _ _) ?_) | (with_reducible refine bindE fun x st => ?_) | (with_reducible refine flE fun x st => ?_) | (unfold onB; refine bindE fun x st => ?_; cases x <;> first | rfl | (rename_i b; cases b <;> rfl)) | (unfold onI; refine bindE fun x st => ?_; cases x <;> try rfl) | (unfold onD; refine bindE fun x st => ?_; cases x <;> try rfl) | (unfold flB; refine flE fun x st => ?_; cases x <;> first | rfl | (rename_i b; cases b <;> rfl)) | (unfold onO; split <;> simp_all; done) | (unfold flO; split <;> simp_all; done))
@[simp] theorem sev_sub (G : Ops) a i (t : Bool) (ρ : Env) (st : Store) : ev G (.sub a i) t ρ st = @bd _ _ (vw a ρ st (ev G a false ρ st)) ⟨fun x st => @bd _ _ (ev G i false ρ st) ⟨fun y st => @onOH _ _ (subP st x y) ⟨fun v => fin t v st⟩⟩⟩ := ev_sub G a i t ρ st
theorem ev_slc (G : Ops) a lo hi (t : Bool) (ρ : Env) (st : Store) : ev G (.slc a lo hi) t ρ st = sel t .bad ((vw a ρ st (ev G a false ρ st)).bind fun x st => (evO G lo ρ st).bind fun l st => (evO G hi ρ st).bind fun h st => R.of (slcP x l h) st) := by rw [ev]; (try simp only [ite_sel, Bool.decide_eq_true]); repeat' (first | rfl | (with_reducible refine congrArg (sel _ _) ?_) | (with_reducible refine bindE fun x st => ?_) | (with_reducible refine flE fun x st => ?_) | (unfold onB; refine bindE fun x st => ?_; cases x <;> first | rfl | (rename_i b; cases b <;> rfl)) | (unfold onI; refine bindE fun x st => ?_; cases x <;> try rfl) | (unfold onD; refine bindE fun x st => ?_; cases x <;> try rfl) | (unfold flB; refine flE fun x st => ?_; cases x <;> first | rfl | (rename_i b; cases b <;> rfl)) | (unfold onO; split <;> simp_all; done) | (unfold flO; split <;> simp_all; done))
@[simp] theorem sev_slc (G : Ops) a lo hi (t : Bool) (ρ : Env) (st : Store) : ev G (.slc a lo hi) t ρ st = @selH _ t ⟨.bad⟩ ⟨(@bd _ _ (vw a ρ st (ev G a false ρ st)) ⟨fun x st => @bd _ _ (evO G lo ρ st) ⟨fun l st => @bd _ _ (evO G hi ρ st) ⟨fun h st => R.of (slcP x l h) st⟩⟩⟩)⟩ := ev_slc G a lo hi t ρ st
theorem ev_call (G : Ops) f es (t : Bool) (ρ : Env) (st : Store) : ev G (.call f es) t ρ st = ((evA G es ρ st).bind fun xs st => (G f xs st).bind fun v st => fin t v st) := by rw [ev]; (try simp only [ite_sel, Bool.decide_eq_true]); repeat' (first | rfl | (with_reducible refine congrArg (sel _ _) ?_) | (with_reducible refine bindE fun x st => ?_) | (with_reducible refine flE fun x st => ?_) | (unfold onB; refine bindE fun x st => ?_; cases x <;> first | rfl | (rename_i b; cases b <;> rfl)) | (unfold onI; refine bindE fun x st => ?_; cases x <;> try rfl) | (unfold onD; refine bindE fun x st => ?_; cases x <;> try rfl) | (unfold flB; refine flE fun x st => ?_; cases x <;> first | rfl | (rename_i b; cases b <;> rfl)) | (unfold onO; split <;> simp_all; done) | (unfold flO; split <;> simp_all; done))
@[simp] theorem sev_call (G : Ops) f es (t : Bool) (ρ : Env) (st : Store) : ev G (.call f es) t ρ st = @bd _ _ (evA G es ρ st) ⟨fun xs st => @bd _ _ (G f xs st) ⟨fun v st => fin t v st⟩⟩ := ev_call G f es t ρ st
theorem ev_b1 (G : Ops) f a (t : Bool) (ρ : Env) (st : Store) : ev G (.b1 f a) t ρ st = ((vw a ρ st (ev G a false ρ st)).bind fun x st => onO (b1P f x) fun v => fin t v st) := by rw [ev]; (try simp only [ite_sel, Bool.decide_eq_true]); repeat' (first | rfl | (with_reducible refine congrArg (sel _ _) ?_) | (with_reducible refine bindE fun x st => ?_) | (with_reducible refine flE fun x st => ?_) | (unfold onB; refine bindE fun x st => ?_; cases x <;> first | rfl | (rename_i b; cases b <;> rfl)) | (unfold onI; refine bindE fun x st => ?_; cases x <;> try rfl) | (unfold onD; refine bindE fun x st => ?_; cases x <;> try rfl) | (unfold flB; refine flE fun x st => ?_; cases x <;> first | rfl | (rename_i b; cases b <;> rfl)) | (unfold onO; split <;> simp_all; done) | (unfold flO; split <;> simp_all; done))
@[simp] theorem sev_b1 (G : Ops) f a (t : Bool) (ρ : Env) (st : Store) : ev G (.b1 f a) t ρ st = @bd _ _ (vw a ρ st (ev G a false ρ st)) ⟨fun x st => @onOH _ _ (b1P f x) ⟨fun v => fin t v st⟩⟩ := ev_b1 G f a t ρ st
theorem ev_b2 (G : Ops) f a b (t : Bool) (ρ : Env) (st : Store) : ev G (.b2 f a b) t ρ st = ((vw a ρ st (ev G a false ρ st)).bind fun x st => (vw b ρ st (ev G b false ρ st)).bind fun y st => onO (b2P f x y) fun v => fin t v st) := by rw [ev]; (try simp only [ite_sel, Bool.decide_eq_true]); repeat' (first | rfl | (with_reducible refine congrArg (sel _ _) ?_) | (with_reducible refine bindE fun x st => ?_) | (with_reducible refine flE fun x st => ?_) | (unfold onB; refine bindE fun x st => ?_; cases x <;> first | rfl | (rename_i b; cases b <;> rfl)) | (unfold onI; refine bindE fun x st => ?_; cases x <;> try rfl) | (unfold onD; refine bindE fun x st => ?_; cases x <;> try rfl) | (unfold flB; refine flE fun x st => ?_; cases x <;> first | rfl | (rename_i b; cases b <;> rfl)) | (unfold onO; split <;> simp_all; done) | (unfold flO; split <;> simp_all; done))
@[simp] theorem sev_b2 (G : Ops) f a b (t : Bool) (ρ : Env) (st : Store) : ev G (.b2 f a b) t ρ st = @bd _ _ (vw a ρ st (ev G a false ρ st)) ⟨fun x st => @bd _ _ (vw b ρ st (ev G b false ρ st)) ⟨fun y st => @onOH _ _ (b2P f x y) ⟨fun v => fin t v st⟩⟩⟩ := ev_b2 G f a b t ρ st
theorem ev_isi (G : Ops) a ts (t : Bool) (ρ : Env) (st : Store) : ev G (.isi a ts) t ρ st = ((vw a ρ st (ev G a false ρ st)).bind fun x st => onO (tyOf x) fun u => .ok (.bl (isiP u ts)) st) := by rw [ev]; (try simp only [ite_sel, Bool.decide_eq_true]); repeat' (first | rfl | (with_reducible refine congrArg (sel _ _) ?_) | (with_reducible refine bindE fun x st => ?_) | (with_reducible refine flE fun x st => ?_) | (unfold onB; refine bindE fun x st => ?_; cases x <;> first | rfl | (rename_i b; cases b <;> rfl)) | (unfold onI; refine bindE fun x st => ?_; cases x <;> try rfl) | (unfold onD; refine bindE fun x st => ?_; cases x <;> try rfl) | (unfold flB; refine flE fun x st => ?_; cases x <;> first | rfl | (rename_i b; cases b <;> rfl)) | (unfold onO; split <;> simp_all; done) | (unfold flO; split <;> simp_all; done))
@[simp] theorem sev_isi (G : Ops) a ts (t : Bool) (ρ : Env) (st : Store) : ev G (.isi a ts) t ρ st = @bd _ _ (vw a ρ st (ev G a false ρ st)) ⟨fun x st => @onOH _ _ (tyOf x) ⟨fun u => .ok (.bl (isiP u ts)) st⟩⟩ := ev_isi G a ts t ρ st
theorem ev_get2 (G : Ops) o k d (t : Bool) (ρ : Env) (st : Store) : ev G (.get2 o k d) t ρ st = sel t .bad (onD (vw o ρ st (ev G o false ρ st)) fun kvs st => (ev G k false ρ st).bind fun y st => (ev G d false ρ st).bind fun z st => onO (toKey y) fun k => .ok ((dget kvs k).getD z) st) := by rw [ev]; (try simp only [ite_sel, Bool.decide_eq_true]); repeat' (first | rfl | (with_reducible refine congrArg (sel _ _) ?_) | (with_reducible refine bindE fun x st => ?_) | (with_reducible refine flE fun x st => ?_) | (unfold onB; refine bindE fun x st => ?_; cases x <;> first | rfl | (rename_i b; cases b <;> rfl)) | (unfold onI; refine bindE fun x st => ?_; cases x <;> try rfl) | (unfold onD; refine bindE fun x st => ?_; cases x <;> try rfl) | (unfold flB; refine flE fun x st => ?_; cases x <;> first | rfl | (rename_i b; cases b <;> rfl)) | (unfold onO; split <;> simp_all; done) | (unfold flO; split <;> simp_all; done))
@[simp] theorem sev_get2 (G : Ops) o k d (t : Bool) (ρ : Env) (st : Store) : ev G (.get2 o k d) t ρ st = @selH _ t ⟨.bad⟩ ⟨(@onDH _ (vw o ρ st (ev G o false ρ st)) ⟨fun kvs st => @bd _ _ (ev G k false ρ st) ⟨fun y st => @bd _ _ (ev G d false ρ st) ⟨fun z st => @onOH _ _ (toKey y) ⟨fun k => .ok ((dget kvs k).getD z) st⟩⟩⟩⟩)⟩ := ev_get2 G o k d t ρ st
theorem ev_lc (G : Ops) own tg src c elt (t : Bool) (ρ : Env) (st : Store) : ev G (.lc own tg src c elt) t ρ st = sel t .bad ((evS G src ρ st).bind fun xs st => (turns (fun x st => onO (tg.put x (wipeE ρ own)) fun ρ2 => (evC G c ρ2 st).bind fun b st => sel b ((ev G elt false ρ2 st).bind fun y st => .ok (some y) st) (.ok none st)) xs st).bind fun ys st => .ok (.lst ys) st) := by
  rw [ev]; simp only [ite_sel, Bool.decide_eq_true]; refine congrArg (sel t _) ?_; refine bindE fun xs st => ?_; congr 2; funext x st2; rcases tg.put x (wipeE ρ own) with _ | ρ2
  · rfl
  · refine bindE fun b st => ?_; cases b
    · rfl
    · first | rfl | (refine bindE fun y st => ?_; refine bindE fun z st => ?_; cases toKey y <;> rfl)
@[simp] theorem sev_lc (G : Ops) own tg src c elt (t : Bool) (ρ : Env) (st : Store) : ev G (.lc own tg src c elt) t ρ st = @selH _ t ⟨.bad⟩ ⟨(@bd _ _ (evS G src ρ st) ⟨fun xs st => @bd _ _ (turns (lcF G own tg c elt ρ) xs st) ⟨fun ys st => .ok (.lst ys) st⟩⟩)⟩ := ev_lc G own tg src c elt t ρ st
theorem ev_dc (G : Ops) own tg src c k v (t : Bool) (ρ : Env) (st : Store) : ev G (.dc own tg src c k v) t ρ st = sel t .bad ((evS G src ρ st).bind fun xs st => (turnsD (fun x st => onO (tg.put x (wipeE ρ own)) fun ρ2 => (evC G c ρ2 st).bind fun b st => sel b ((ev G k false ρ2 st).bind fun y st => (ev G v false ρ2 st).bind fun z st => onO (toKey y) fun k => .ok (some (k, z)) st) (.ok none st)) xs [] st).bind fun kvs st => .ok (.dct kvs) st) := by
  rw [ev]; simp only [ite_sel, Bool.decide_eq_true]; refine congrArg (sel t _) ?_; refine bindE fun xs st => ?_; congr 2; funext x st2; rcases tg.put x (wipeE ρ own) with _ | ρ2
  · rfl
  · refine bindE fun b st => ?_; cases b
    · rfl
    · first | rfl | (refine bindE fun y st => ?_; refine bindE fun z st => ?_; cases toKey y <;> rfl)
@[simp] theorem sev_dc (G : Ops) own tg src c k v (t : Bool) (ρ : Env) (st : Store) : ev G (.dc own tg src c k v) t ρ st = @selH _ t ⟨.bad⟩ ⟨(@bd _ _ (evS G src ρ st) ⟨fun xs st => @bd _ _ (turnsD (dcF G own tg c k v ρ) xs [] st) ⟨fun kvs st => .ok (.dct kvs) st⟩⟩)⟩ := ev_dc G own tg src c k v t ρ st
theorem ev_part (G : Ops) c fld body (t : Bool) (ρ : Env) (st : Store) : ev G (.part c fld body) t ρ st = sel t .bad (partR c fld (ev G body false ρ st)) := by rw [ev]; (try simp only [ite_sel, Bool.decide_eq_true]); repeat' (first | rfl | (with_reducible refine congrArg (sel _ _) ?_) | (with_reducible refine bindE fun x st => ?_) | (with_reducible refine flE fun x st => ?_) | (unfold onB; refine bindE fun x st => ?_; cases x <;> first | rfl | (rename_i b; cases b <;> rfl)) | (unfold onI; refine bindE fun x st => ?_; cases x <;> try rfl) | (unfold onD; refine bindE fun x st => ?_; cases x <;> try rfl) | (unfold flB; refine flE fun x st => ?_; cases x <;> first | rfl | (rename_i b; cases b <;> rfl)) | (unfold onO; split <;> simp_all; done) | (unfold flO; split <;> simp_all; done))
@[simp] theorem sev_part (G : Ops) c fld body (t : Bool) (ρ : Env) (st : Store) : ev G (.part c fld body) t ρ st = @selH _ t ⟨.bad⟩ ⟨(partR c fld (ev G body false ρ st))⟩ := ev_part G c fld body t ρ st
theorem evA_nil (G : Ops) (ρ : Env) (st : Store) : evA G .nil ρ st = .ok [] st := by rw [evA]; (try simp only [ite_sel, Bool.decide_eq_true]); repeat' (first | rfl | (with_reducible refine congrArg (sel _ _) ?_) | (with_reducible refine bindE fun x st => ?_) | (with_reducible refine flE fun x st => ?_) | (unfold onB; refine bindE fun x st => ?_; cases x <;> first | rfl | (rename_i b; cases b <;> rfl)) | (unfold onI; refine bindE fun x st => ?_; cases x <;> try rfl) | (unfold onD; refine bindE fun x st => ?_; cases x <;> try rfl) | (unfold flB; refine flE fun x st => ?_; cases x <;> first | rfl | (rename_i b; cases b <;> rfl)) | (unfold onO; split <;> simp_all; done) | (unfold flO; split <;> simp_all; done))
@[simp] theorem sevA_nil (G : Ops) (ρ : Env) (st : Store) : evA G .nil ρ st = .ok [] st := evA_nil G ρ st
theorem evA_cons (G : Ops) e r (ρ : Env) (st : Store) : evA G (.cons e r) ρ st = ((ev G e false ρ st).bind fun x st => (evA G r ρ st).bind fun xs st => .ok (x :: xs) st) := by rw [evA]; (try simp only [ite_sel, Bool.decide_eq_true]); repeat' (first | rfl | (with_reducible refine congrArg (sel _ _) ?_) | (with_reducible refine bindE fun x st => ?_) | (with_reducible refine flE fun x st => ?_) | (unfold onB; refine bindE fun x st => ?_; cases x <;> first | rfl | (rename_i b; cases b <;> rfl)) | (unfold onI; refine bindE fun x st => ?_; cases x <;> try rfl) | (unfold onD; refine bindE fun x st => ?_; cases x <;> try rfl) | (unfold flB; refine flE fun x st => ?_; cases x <;> first | rfl | (rename_i b; cases b <;> rfl)) | (unfold onO; split <;> simp_all; done) | (unfold flO; split <;> simp_all; done))
@[simp] theorem sevA_cons (G : Ops) e r (ρ : Env) (st : Store) : evA G (.cons e r) ρ st = @bd _ _ (ev G e false ρ st) ⟨fun x st => @bd _ _ (evA G r ρ st) ⟨fun xs st => .ok (x :: xs) st⟩⟩ := evA_cons G e r ρ st
theorem evA_star (G : Ops) e r (ρ : Env) (st : Store) : evA G (.star e r) ρ st = ((vw e ρ st (ev G e false ρ st)).bind fun x st => onO (iterP x) fun ys => (evA G r ρ st).bind fun xs st => .ok (ys ++ xs) st) := by rw [evA]; (try simp only [ite_sel, Bool.decide_eq_true]); repeat' (first | rfl | (with_reducible refine congrArg (sel _ _) ?_) | (with_reducible refine bindE fun x st => ?_) | (with_reducible refine flE fun x st => ?_) | (unfold onB; refine bindE fun x st => ?_; cases x <;> first | rfl | (rename_i b; cases b <;> rfl)) | (unfold onI; refine bindE fun x st => ?_; cases x <;> try rfl) | (unfold onD; refine bindE fun x st => ?_; cases x <;> try rfl) | (unfold flB; refine flE fun x st => ?_; cases x <;> first | rfl | (rename_i b; cases b <;> rfl)) | (unfold onO; split <;> simp_all; done) | (unfold flO; split <;> simp_all; done))
@[simp] theorem sevA_star (G : Ops) e r (ρ : Env) (st : Store) : evA G (.star e r) ρ st = @bd _ _ (vw e ρ st (ev G e false ρ st)) ⟨fun x st => @onOH _ _ (iterP x) ⟨fun ys => @bd _ _ (evA G r ρ st) ⟨fun xs st => .ok (ys ++ xs) st⟩⟩⟩ := evA_star G e r ρ st
theorem evO_no (G : Ops) (ρ : Env) (st : Store) : evO G .no ρ st = .ok none st := by rw [evO]; (try simp only [ite_sel, Bool.decide_eq_true]); repeat' (first | rfl | (with_reducible refine congrArg (sel _ _) ?_) | (with_reducible refine bindE fun x st => ?_) | (with_reducible refine flE fun x st => ?_) | (unfold onB; refine bindE fun x st => ?_; cases x <;> first | rfl | (rename_i b; cases b <;> rfl)) | (unfold onI; refine bindE fun x st => ?_; cases x <;> try rfl) | (unfold onD; refine bindE fun x st => ?_; cases x <;> try rfl) | (unfold flB; refine flE fun x st => ?_; cases x <;> first | rfl | (rename_i b; cases b <;> rfl)) | (unfold onO; split <;> simp_all; done) | (unfold flO; split <;> simp_all; done))
@[simp] theorem sevO_no (G : Ops) (ρ : Env) (st : Store) : evO G .no ρ st = .ok none st := evO_no G ρ st
theorem evO_some (G : Ops) e (ρ : Env) (st : Store) : evO G (.some e) ρ st = onI (ev G e false ρ st) fun i st => .ok (some i) st := by rw [evO]; (try simp only [ite_sel, Bool.decide_eq_true]); repeat' (first | rfl | (with_reducible refine congrArg (sel _ _) ?_) | (with_reducible refine bindE fun x st => ?_) | (with_reducible refine flE fun x st => ?_) | (unfold onB; refine bindE fun x st => ?_; cases x <;> first | rfl | (rename_i b; cases b <;> rfl)) | (unfold onI; refine bindE fun x st => ?_; cases x <;> try rfl) | (unfold onD; refine bindE fun x st => ?_; cases x <;> try rfl) | (unfold flB; refine flE fun x st => ?_; cases x <;> first | rfl | (rename_i b; cases b <;> rfl)) | (unfold onO; split <;> simp_all; done) | (unfold flO; split <;> simp_all; done))
@[simp] theorem sevO_some (G : Ops) e (ρ : Env) (st : Store) : evO G (.some e) ρ st = @onIH _ (ev G e false ρ st) ⟨fun i st => .ok (some i) st⟩ := evO_some G e ρ st
theorem evC_no (G : Ops) (ρ : Env) (st : Store) : evC G .no ρ st = .ok true st := by rw [evC]; (try simp only [ite_sel, Bool.decide_eq_true]); repeat' (first | rfl | (with_reducible refine congrArg (sel _ _) ?_) | (with_reducible refine bindE fun x st => ?_) | (with_reducible refine flE fun x st => ?_) | (unfold onB; refine bindE fun x st => ?_; cases x <;> first | rfl | (rename_i b; cases b <;> rfl)) | (unfold onI; refine bindE fun x st => ?_; cases x <;> try rfl) | (unfold onD; refine bindE fun x st => ?_; cases x <;> try rfl) | (unfold flB; refine flE fun x st => ?_; cases x <;> first | rfl | (rename_i b; cases b <;> rfl)) | (unfold onO; split <;> simp_all; done) | (unfold flO; split <;> simp_all; done))
@[simp] theorem sevC_no (G : Ops) (ρ : Env) (st : Store) : evC G .no ρ st = .ok true st := evC_no G ρ st
theorem evC_some (G : Ops) e (ρ : Env) (st : Store) : evC G (.some e) ρ st = onB (ev G e true ρ st) fun b st => .ok b st := by rw [evC]; (try simp only [ite_sel, Bool.decide_eq_true]); repeat' (first | rfl | (with_reducible refine congrArg (sel _ _) ?_) | (with_reducible refine bindE fun x st => ?_) | (with_reducible refine flE fun x st => ?_) | (unfold onB; refine bindE fun x st => ?_; cases x <;> first | rfl | (rename_i b; cases b <;> rfl)) | (unfold onI; refine bindE fun x st => ?_; cases x <;> try rfl) | (unfold onD; refine bindE fun x st => ?_; cases x <;> try rfl) | (unfold flB; refine flE fun x st => ?_; cases x <;> first | rfl | (rename_i b; cases b <;> rfl)) | (unfold onO; split <;> simp_all; done) | (unfold flO; split <;> simp_all; done))
@[simp] theorem sevC_some (G : Ops) e (ρ : Env) (st : Store) : evC G (.some e) ρ st = @onBH _ (ev G e true ρ st) ⟨fun b st => .ok b st⟩ := evC_some G e ρ st
theorem evS_of (G : Ops) a (ρ : Env) (st : Store) : evS G (.of a) ρ st = ((ev G a false ρ st).bind fun x st => R.of (iterP x) st) := by rw [evS]; (try simp only [ite_sel, Bool.decide_eq_true]); repeat' (first | rfl | (with_reducible refine congrArg (sel _ _) ?_) | (with_reducible refine bindE fun x st => ?_) | (with_reducible refine flE fun x st => ?_) | (unfold onB; refine bindE fun x st => ?_; cases x <;> first | rfl | (rename_i b; cases b <;> rfl)) | (unfold onI; refine bindE fun x st => ?_; cases x <;> try rfl) | (unfold onD; refine bindE fun x st => ?_; cases x <;> try rfl) | (unfold flB; refine flE fun x st => ?_; cases x <;> first | rfl | (rename_i b; cases b <;> rfl)) | (unfold onO; split <;> simp_all; done) | (unfold flO; split <;> simp_all; done))
@[simp] theorem sevS_of (G : Ops) a (ρ : Env) (st : Store) : evS G (.of a) ρ st = @bd _ _ (ev G a false ρ st) ⟨fun x st => R.of (iterP x) st⟩ := evS_of G a ρ st
def seeK (st : Store) (o : Option Slot) : R (List PV) := match o with
  | some (.val (.dct kvs)) => .ok (kvs.map fun kv => kP kv.1) st
  | _ => .bad
@[simp] theorem seeK_v (st kvs) : seeK st (some (.val (.dct kvs))) = .ok (kvs.map fun kv => kP kv.1) st := rfl
theorem evS_keys (G : Ops) i (ρ : Env) (st : Store) : evS G (.keys i) ρ st = seeK st (lk ρ i) := by
  rw [evS]; unfold seeK lk; rcases ρ[i]? with _ | _ | s <;> try rfl
  cases s with
  | val v => cases v <;> rfl
  | own v => rfl
@[simp] theorem sevS_keys (G : Ops) i (ρ : Env) (st : Store) : evS G (.keys i) ρ st = seeK st (lk ρ i) := evS_keys G i ρ st
theorem evS_range (G : Ops) a (ρ : Env) (st : Store) : evS G (.range a) ρ st = onI (ev G a false ρ st) fun n st => sel (decide (-4611686018427387904 ≤ n ∧ n ≤ big)) (.ok ((List.range n.toNat).map fun (i : Nat) => .int (i : Int)) st) .bad := by rw [evS]; (try simp only [ite_sel, Bool.decide_eq_true]); repeat' (first | rfl | (with_reducible refine congrArg (sel _ _) ?_) | (with_reducible refine bindE fun x st => ?_) | (with_reducible refine flE fun x st => ?_) | (unfold onB; refine bindE fun x st => ?_; cases x <;> first | rfl | (rename_i b; cases b <;> rfl)) | (unfold onI; refine bindE fun x st => ?_; cases x <;> try rfl) | (unfold onD; refine bindE fun x st => ?_; cases x <;> try rfl) | (unfold flB; refine flE fun x st => ?_; cases x <;> first | rfl | (rename_i b; cases b <;> rfl)) | (unfold onO; split <;> simp_all; done) | (unfold flO; split <;> simp_all; done))
@[simp] theorem sevS_range (G : Ops) a (ρ : Env) (st : Store) : evS G (.range a) ρ st = @onIH _ (ev G a false ρ st) ⟨fun n st => @selH _ (decide (-4611686018427387904 ≤ n ∧ n ≤ big)) ⟨(.ok ((List.range n.toNat).map fun (i : Nat) => .int (i : Int)) st)⟩ ⟨.bad⟩⟩ := evS_range G a ρ st
def zipK (x y : PV) (st : Store) : R (List PV) := match x, y with
    | .lst xs, .tup ys => .ok (List.zipWith (fun a b => .tup [a, b]) xs ys) st
    | _, _ => .bad
@[simp] theorem zipK_v (xs ys st) : zipK (.lst xs) (.tup ys) st = .ok (List.zipWith (fun a b => .tup [a, b]) xs ys) st := rfl
def enumK (x : PV) (st : Store) : R (List PV) := match x with
    | .lst xs => .ok (List.zipWith (fun (i : Nat) b => .tup [.int i, b]) (List.range xs.length) xs) st
    | _ => .bad
@[simp] theorem enumK_v (xs st) : enumK (.lst xs) st = .ok (List.zipWith (fun (i : Nat) b => .tup [.int i, b]) (List.range xs.length) xs) st := rfl
theorem evS_zip (G : Ops) a b (ρ : Env) (st : Store) : evS G (.zip a b) ρ st = ((ev G a false ρ st).bind fun x st => (ev G b false ρ st).bind fun y st => zipK x y st) := by rw [evS]; (try simp only [ite_sel, Bool.decide_eq_true]); repeat' (first | rfl | (with_reducible refine congrArg (sel _ _) ?_) | (with_reducible refine bindE fun x st => ?_) | (with_reducible refine flE fun x st => ?_) | (unfold onB; refine bindE fun x st => ?_; cases x <;> first | rfl | (rename_i b; cases b <;> rfl)) | (unfold onI; refine bindE fun x st => ?_; cases x <;> try rfl) | (unfold onD; refine bindE fun x st => ?_; cases x <;> try rfl) | (unfold flB; refine flE fun x st => ?_; cases x <;> first | rfl | (rename_i b; cases b <;> rfl)) | (unfold onO; split <;> simp_all; done) | (unfold flO; split <;> simp_all; done))
@[simp] theorem sevS_zip (G : Ops) a b (ρ : Env) (st : Store) : evS G (.zip a b) ρ st = @bd _ _ (ev G a false ρ st) ⟨fun x st => @bd _ _ (ev G b false ρ st) ⟨fun y st => zipK x y st⟩⟩ := evS_zip G a b ρ st
theorem evS_enum (G : Ops) a (ρ : Env) (st : Store) : evS G (.enum a) ρ st = ((ev G a false ρ st).bind fun x st => enumK x st) := by rw [evS]; (try simp only [ite_sel, Bool.decide_eq_true]); repeat' (first | rfl | (with_reducible refine congrArg (sel _ _) ?_) | (with_reducible refine bindE fun x st => ?_) | (with_reducible refine flE fun x st => ?_) | (unfold onB; refine bindE fun x st => ?_; cases x <;> first | rfl | (rename_i b; cases b <;> rfl)) | (unfold onI; refine bindE fun x st => ?_; cases x <;> try rfl) | (unfold onD; refine bindE fun x st => ?_; cases x <;> try rfl) | (unfold flB; refine flE fun x st => ?_; cases x <;> first | rfl | (rename_i b; cases b <;> rfl)) | (unfold onO; split <;> simp_all; done) | (unfold flO; split <;> simp_all; done))
@[simp] theorem sevS_enum (G : Ops) a (ρ : Env) (st : Store) : evS G (.enum a) ρ st = @bd _ _ (ev G a false ρ st) ⟨fun x st => enumK x st⟩ := evS_enum G a ρ st
theorem evT_expr (G : Ops) e (ρ : Env) (st : Store) : evT G (.expr e) ρ st = (ev G e false ρ st).fl ρ fun _ st => .nx ρ st := by rw [evT]; (try simp only [ite_sel, Bool.decide_eq_true]); repeat' (first | rfl | (with_reducible refine congrArg (sel _ _) ?_) | (with_reducible refine bindE fun x st => ?_) | (with_reducible refine flE fun x st => ?_) | (unfold onB; refine bindE fun x st => ?_; cases x <;> first | rfl | (rename_i b; cases b <;> rfl)) | (unfold onI; refine bindE fun x st => ?_; cases x <;> try rfl) | (unfold onD; refine bindE fun x st => ?_; cases x <;> try rfl) | (unfold flB; refine flE fun x st => ?_; cases x <;> first | rfl | (rename_i b; cases b <;> rfl)) | (unfold onO; split <;> simp_all; done) | (unfold flO; split <;> simp_all; done))
@[simp] theorem sevT_expr (G : Ops) e (ρ : Env) (st : Store) : evT G (.expr e) ρ st = @flH _ (ev G e false ρ st) ρ ⟨fun _ st => .nx ρ st⟩ := evT_expr G e ρ st
theorem evT_set (G : Ops) i e (ρ : Env) (st : Store) : evT G (.set i e) ρ st = (ev G e false ρ st).fl ρ fun v st => .nx (ρ.set i (some (.val v))) st := by rw [evT]; (try simp only [ite_sel, Bool.decide_eq_true]); repeat' (first | rfl | (with_reducible refine congrArg (sel _ _) ?_) | (with_reducible refine bindE fun x st => ?_) | (with_reducible refine flE fun x st => ?_) | (unfold onB; refine bindE fun x st => ?_; cases x <;> first | rfl | (rename_i b; cases b <;> rfl)) | (unfold onI; refine bindE fun x st => ?_; cases x <;> try rfl) | (unfold onD; refine bindE fun x st => ?_; cases x <;> try rfl) | (unfold flB; refine flE fun x st => ?_; cases x <;> first | rfl | (rename_i b; cases b <;> rfl)) | (unfold onO; split <;> simp_all; done) | (unfold flO; split <;> simp_all; done))
@[simp] theorem sevT_set (G : Ops) i e (ρ : Env) (st : Store) : evT G (.set i e) ρ st = @flH _ (ev G e false ρ st) ρ ⟨fun v st => .nx (ρ.set i (some (.val v))) st⟩ := evT_set G i e ρ st
theorem evT_newD (G : Ops) i (ρ : Env) (st : Store) : evT G (.newD i) ρ st = .nx (ρ.set i (some (.own (.dct [])))) st := by rw [evT]; (try simp only [ite_sel, Bool.decide_eq_true]); repeat' (first | rfl | (with_reducible refine congrArg (sel _ _) ?_) | (with_reducible refine bindE fun x st => ?_) | (with_reducible refine flE fun x st => ?_) | (unfold onB; refine bindE fun x st => ?_; cases x <;> first | rfl | (rename_i b; cases b <;> rfl)) | (unfold onI; refine bindE fun x st => ?_; cases x <;> try rfl) | (unfold onD; refine bindE fun x st => ?_; cases x <;> try rfl) | (unfold flB; refine flE fun x st => ?_; cases x <;> first | rfl | (rename_i b; cases b <;> rfl)) | (unfold onO; split <;> simp_all; done) | (unfold flO; split <;> simp_all; done))
@[simp] theorem sevT_newD (G : Ops) i (ρ : Env) (st : Store) : evT G (.newD i) ρ st = .nx (ρ.set i (some (.own (.dct [])))) st := evT_newD G i ρ st
theorem evT_newL (G : Ops) i es (ρ : Env) (st : Store) : evT G (.newL i es) ρ st = (evA G es ρ st).fl ρ fun vs st => sel (decide (vs.length ≤ big)) (.nx (ρ.set i (some (.own (.lst vs)))) st) .bad := by rw [evT]; (try simp only [ite_sel, Bool.decide_eq_true]); repeat' (first | rfl | (with_reducible refine congrArg (sel _ _) ?_) | (with_reducible refine bindE fun x st => ?_) | (with_reducible refine flE fun x st => ?_) | (unfold onB; refine bindE fun x st => ?_; cases x <;> first | rfl | (rename_i b; cases b <;> rfl)) | (unfold onI; refine bindE fun x st => ?_; cases x <;> try rfl) | (unfold onD; refine bindE fun x st => ?_; cases x <;> try rfl) | (unfold flB; refine flE fun x st => ?_; cases x <;> first | rfl | (rename_i b; cases b <;> rfl)) | (unfold onO; split <;> simp_all; done) | (unfold flO; split <;> simp_all; done))
@[simp] theorem sevT_newL (G : Ops) i es (ρ : Env) (st : Store) : evT G (.newL i es) ρ st = @flH _ (evA G es ρ st) ρ ⟨fun vs st => @selH _ (decide (vs.length ≤ big)) ⟨(.nx (ρ.set i (some (.own (.lst vs)))) st)⟩ ⟨.bad⟩⟩ := evT_newL G i es ρ st
theorem evT_ref (G : Ops) i es (ρ : Env) (st : Store) : evT G (.ref i es) ρ st = (evA G es ρ st).fl ρ fun xs st => sel (decide (xs.length ≤ big)) (.nx (ρ.set i (some (.val (.rf st.length)))) (st ++ [xs])) .bad := by rw [evT]; (try simp only [ite_sel, Bool.decide_eq_true]); repeat' (first | rfl | (with_reducible refine congrArg (sel _ _) ?_) | (with_reducible refine bindE fun x st => ?_) | (with_reducible refine flE fun x st => ?_) | (unfold onB; refine bindE fun x st => ?_; cases x <;> first | rfl | (rename_i b; cases b <;> rfl)) | (unfold onI; refine bindE fun x st => ?_; cases x <;> try rfl) | (unfold onD; refine bindE fun x st => ?_; cases x <;> try rfl) | (unfold flB; refine flE fun x st => ?_; cases x <;> first | rfl | (rename_i b; cases b <;> rfl)) | (unfold onO; split <;> simp_all; done) | (unfold flO; split <;> simp_all; done))
@[simp] theorem sevT_ref (G : Ops) i es (ρ : Env) (st : Store) : evT G (.ref i es) ρ st = @flH _ (evA G es ρ st) ρ ⟨fun xs st => @selH _ (decide (xs.length ≤ big)) ⟨(.nx (ρ.set i (some (.val (.rf st.length)))) (st ++ [xs]))⟩ ⟨.bad⟩⟩ := evT_ref G i es ρ st
theorem evT_setT (G : Ops) is e (ρ : Env) (st : Store) : evT G (.setT is e) ρ st = (ev G e false ρ st).fl ρ fun v st => flO (Tg.put (.many is) v ρ) fun ρ => .nx ρ st := by rw [evT]; (try simp only [ite_sel, Bool.decide_eq_true]); repeat' (first | rfl | (with_reducible refine congrArg (sel _ _) ?_) | (with_reducible refine bindE fun x st => ?_) | (with_reducible refine flE fun x st => ?_) | (unfold onB; refine bindE fun x st => ?_; cases x <;> first | rfl | (rename_i b; cases b <;> rfl)) | (unfold onI; refine bindE fun x st => ?_; cases x <;> try rfl) | (unfold onD; refine bindE fun x st => ?_; cases x <;> try rfl) | (unfold flB; refine flE fun x st => ?_; cases x <;> first | rfl | (rename_i b; cases b <;> rfl)) | (unfold onO; split <;> simp_all; done) | (unfold flO; split <;> simp_all; done))
@[simp] theorem sevT_setT (G : Ops) is e (ρ : Env) (st : Store) : evT G (.setT is e) ρ st = @flH _ (ev G e false ρ st) ρ ⟨fun v st => @flOH _ (Tg.put (.many is) v ρ) ⟨fun ρ => .nx ρ st⟩⟩ := evT_setT G is e ρ st
theorem evT_par (G : Ops) is es (ρ : Env) (st : Store) : evT G (.par is es) ρ st = (evA G es ρ st).fl ρ fun vs st => sel (decide (is.length = vs.length ∧ vs.length ≤ big)) (.nx ((is.zip vs).foldl (fun ρ p => ρ.set p.1 (some (.val p.2))) ρ) st) .bad := by rw [evT]; (try simp only [ite_sel, Bool.decide_eq_true]); repeat' (first | rfl | (with_reducible refine congrArg (sel _ _) ?_) | (with_reducible refine bindE fun x st => ?_) | (with_reducible refine flE fun x st => ?_) | (unfold onB; refine bindE fun x st => ?_; cases x <;> first | rfl | (rename_i b; cases b <;> rfl)) | (unfold onI; refine bindE fun x st => ?_; cases x <;> try rfl) | (unfold onD; refine bindE fun x st => ?_; cases x <;> try rfl) | (unfold flB; refine flE fun x st => ?_; cases x <;> first | rfl | (rename_i b; cases b <;> rfl)) | (unfold onO; split <;> simp_all; done) | (unfold flO; split <;> simp_all; done))
@[simp] theorem sevT_par (G : Ops) is es (ρ : Env) (st : Store) : evT G (.par is es) ρ st = @flH _ (evA G es ρ st) ρ ⟨fun vs st => @selH _ (decide (is.length = vs.length ∧ vs.length ≤ big)) ⟨(.nx ((is.zip vs).foldl (fun ρ p => ρ.set p.1 (some (.val p.2))) ρ) st)⟩ ⟨.bad⟩⟩ := evT_par G is es ρ st
def frzK (ρ : Env) (i : Nat) (st : Store) (o : Option Slot) : Fl := match o with
  | some (.own v) => .nx (ρ.set i (some (.val v))) st
  | _ => .bad
@[simp] theorem frzK_o (ρ i st v) : frzK ρ i st (some (.own v)) = .nx (ρ.set i (some (.val v))) st := rfl
def updK (ρ : Env) (i : Nat) (r : R PV) (o : Option Slot) : Fl := match o with
  | some (.own (.dct kvs)) => r.fl ρ fun v st => match v with
      | .dct more => sel (decide (kvs.length + more.length ≤ big)) (.nx (ρ.set i (some (.own (.dct (dmerge kvs more))))) st) .bad
      | _ => .bad
  | _ => .bad
@[simp] theorem updK_o (ρ i kvs more st) : updK ρ i (.ok (.dct more) st) (some (.own (.dct kvs))) = sel (decide (kvs.length + more.length ≤ big)) (.nx (ρ.set i (some (.own (.dct (dmerge kvs more))))) st) .bad := rfl
theorem evT_frz (G : Ops) i (ρ : Env) (st : Store) : evT G (.frz i) ρ st = frzK ρ i st (lk ρ i) := by
  rw [evT]; unfold frzK lk; rcases ρ[i]? with _ | _ | s <;> try rfl
  cases s with
  | val v => cases v <;> rfl
  | own v => rfl
@[simp] theorem sevT_frz (G : Ops) i (ρ : Env) (st : Store) : evT G (.frz i) ρ st = frzK ρ i st (lk ρ i) := evT_frz G i ρ st
theorem evT_upd (G : Ops) i e (ρ : Env) (st : Store) : evT G (.upd i e) ρ st = updK ρ i (ev G e false ρ st) (lk ρ i) := by
  rw [evT]; unfold updK lk
  cases ρ[i]? with
  | none => rfl
  | some s => cases s with
    | none => rfl
    | some s => cases s with
      | val v => rfl
      | own v => cases v <;> try rfl
                 simp only []
                 congr 1; funext v st; cases v <;> first | rfl | simp only [sel, decide_eq_true_eq]
@[simp] theorem sevT_upd (G : Ops) i e (ρ : Env) (st : Store) : evT G (.upd i e) ρ st = updK ρ i (ev G e false ρ st) (lk ρ i) := evT_upd G i e ρ st
theorem evT_ite (G : Ops) c a b (ρ : Env) (st : Store) : evT G (.ite c a b) ρ st = flB (ev G c true ρ st) ρ fun x st => sel x (evB G a ρ st) (evB G b ρ st) := by rw [evT]; (try simp only [ite_sel, Bool.decide_eq_true]); repeat' (first | rfl | (with_reducible refine congrArg (sel _ _) ?_) | (with_reducible refine bindE fun x st => ?_) | (with_reducible refine flE fun x st => ?_) | (unfold onB; refine bindE fun x st => ?_; cases x <;> first | rfl | (rename_i b; cases b <;> rfl)) | (unfold onI; refine bindE fun x st => ?_; cases x <;> try rfl) | (unfold onD; refine bindE fun x st => ?_; cases x <;> try rfl) | (unfold flB; refine flE fun x st => ?_; cases x <;> first | rfl | (rename_i b; cases b <;> rfl)) | (unfold onO; split <;> simp_all; done) | (unfold flO; split <;> simp_all; done))
@[simp] theorem sevT_ite (G : Ops) c a b (ρ : Env) (st : Store) : evT G (.ite c a b) ρ st = @flBH (ev G c true ρ st) ρ ⟨fun x st => @selH _ x ⟨(evB G a ρ st)⟩ ⟨(evB G b ρ st)⟩⟩ := evT_ite G c a b ρ st
theorem evT_for_ (G : Ops) tg src body (ρ : Env) (st : Store) : evT G (.for_ tg src body) ρ st = (evS G src ρ st).fl ρ fun xs st => forF tg.put (evB G body) xs ρ st := by rw [evT]; (try simp only [ite_sel, Bool.decide_eq_true]); repeat' (first | rfl | (with_reducible refine congrArg (sel _ _) ?_) | (with_reducible refine bindE fun x st => ?_) | (with_reducible refine flE fun x st => ?_) | (unfold onB; refine bindE fun x st => ?_; cases x <;> first | rfl | (rename_i b; cases b <;> rfl)) | (unfold onI; refine bindE fun x st => ?_; cases x <;> try rfl) | (unfold onD; refine bindE fun x st => ?_; cases x <;> try rfl) | (unfold flB; refine flE fun x st => ?_; cases x <;> first | rfl | (rename_i b; cases b <;> rfl)) | (unfold onO; split <;> simp_all; done) | (unfold flO; split <;> simp_all; done))
@[simp] theorem sevT_for_ (G : Ops) tg src body (ρ : Env) (st : Store) : evT G (.for_ tg src body) ρ st = @flH _ (evS G src ρ st) ρ ⟨fun xs st => forF tg.put (evB G body) xs ρ st⟩ := evT_for_ G tg src body ρ st
theorem evT_ret (G : Ops) e (ρ : Env) (st : Store) : evT G (.ret e) ρ st = (ev G e false ρ st).fl ρ fun v st => .rt v st := by rw [evT]; (try simp only [ite_sel, Bool.decide_eq_true]); repeat' (first | rfl | (with_reducible refine congrArg (sel _ _) ?_) | (with_reducible refine bindE fun x st => ?_) | (with_reducible refine flE fun x st => ?_) | (unfold onB; refine bindE fun x st => ?_; cases x <;> first | rfl | (rename_i b; cases b <;> rfl)) | (unfold onI; refine bindE fun x st => ?_; cases x <;> try rfl) | (unfold onD; refine bindE fun x st => ?_; cases x <;> try rfl) | (unfold flB; refine flE fun x st => ?_; cases x <;> first | rfl | (rename_i b; cases b <;> rfl)) | (unfold onO; split <;> simp_all; done) | (unfold flO; split <;> simp_all; done))
@[simp] theorem sevT_ret (G : Ops) e (ρ : Env) (st : Store) : evT G (.ret e) ρ st = @flH _ (ev G e false ρ st) ρ ⟨fun v st => .rt v st⟩ := evT_ret G e ρ st
theorem evT_retN (G : Ops) (ρ : Env) (st : Store) : evT G .retN ρ st = .rt .non st := by rw [evT]; (try simp only [ite_sel, Bool.decide_eq_true]); repeat' (first | rfl | (with_reducible refine congrArg (sel _ _) ?_) | (with_reducible refine bindE fun x st => ?_) | (with_reducible refine flE fun x st => ?_) | (unfold onB; refine bindE fun x st => ?_; cases x <;> first | rfl | (rename_i b; cases b <;> rfl)) | (unfold onI; refine bindE fun x st => ?_; cases x <;> try rfl) | (unfold onD; refine bindE fun x st => ?_; cases x <;> try rfl) | (unfold flB; refine flE fun x st => ?_; cases x <;> first | rfl | (rename_i b; cases b <;> rfl)) | (unfold onO; split <;> simp_all; done) | (unfold flO; split <;> simp_all; done))
@[simp] theorem sevT_retN (G : Ops) (ρ : Env) (st : Store) : evT G .retN ρ st = .rt .non st := evT_retN G ρ st
theorem evT_raise (G : Ops) c fld e (ρ : Env) (st : Store) : evT G (.raise c fld e) ρ st = (ev G e false ρ st).fl ρ fun v st => .ex c [(fld, v)] ρ st := by rw [evT]; (try simp only [ite_sel, Bool.decide_eq_true]); repeat' (first | rfl | (with_reducible refine congrArg (sel _ _) ?_) | (with_reducible refine bindE fun x st => ?_) | (with_reducible refine flE fun x st => ?_) | (unfold onB; refine bindE fun x st => ?_; cases x <;> first | rfl | (rename_i b; cases b <;> rfl)) | (unfold onI; refine bindE fun x st => ?_; cases x <;> try rfl) | (unfold onD; refine bindE fun x st => ?_; cases x <;> try rfl) | (unfold flB; refine flE fun x st => ?_; cases x <;> first | rfl | (rename_i b; cases b <;> rfl)) | (unfold onO; split <;> simp_all; done) | (unfold flO; split <;> simp_all; done))
@[simp] theorem sevT_raise (G : Ops) c fld e (ρ : Env) (st : Store) : evT G (.raise c fld e) ρ st = @flH _ (ev G e false ρ st) ρ ⟨fun v st => .ex c [(fld, v)] ρ st⟩ := evT_raise G c fld e ρ st
def rfK (ρ : Env) (st : Store) (k : Nat) (i : Int) (r : Store → R PV) : Fl := match (st[k]?).bind fun xs => if 0 ≤ i ∧ i < xs.length then xs[i.toNat]? else none with
      | some (.int a) => (r st).fl ρ fun y st => match y, st[k]? with
        | .int b, some xs => if i < xs.length then .nx ρ (st.set k (xs.set i.toNat (.int (a + b)))) else .bad
        | _, _ => .bad
      | _ => .bad
def rfaK (ρ : Env) (x i : PV) (st : Store) (r : Store → R PV) : Fl := match x, i with
  | .rf k, .int i => rfK ρ st k i r
  | _, _ => .bad
@[simp] theorem rfaK_v (ρ st k i r) : rfaK ρ (.rf k) (.int i) st r = rfK ρ st k i r := rfl
theorem evT_rfadd (G : Ops) o idx e (ρ : Env) (st : Store) : evT G (.rfadd o idx e) ρ st = (ev G o false ρ st).fl ρ fun x st => (ev G idx false ρ st).fl ρ fun i st => rfaK ρ x i st fun st => (ev G e false ρ st) := by rw [evT]; rfl
@[simp] theorem sevT_rfadd (G : Ops) o idx e (ρ : Env) (st : Store) : evT G (.rfadd o idx e) ρ st = @flH _ (ev G o false ρ st) ρ ⟨fun x st => @flH _ (ev G idx false ρ st) ρ ⟨fun i st => rfaK ρ x i st fun st => (ev G e false ρ st)⟩⟩ := evT_rfadd G o idx e ρ st
@[simp] theorem fin_f (v : PV) (st : Store) : fin false v st = .ok v st := rfl
@[simp] theorem fin_t (b : Bool) (st : Store) : fin true (.bl b) st = .ok (.bl b) st := rfl
@[simp] theorem of_some {α : Type} (a : α) (st : Store) : R.of (some a) st = .ok a st := rfl
@[simp] theorem quiet_ok {α : Type} (a : α) (st : Store) : (R.ok a st).quiet = .ok a st := rfl
@[simp] theorem vw_var (i : Nat) (ρ : Env) (st : Store) (r : R PV) : vw (.var i) ρ st r = seeW st (lk ρ i) := by
  show (match ρ[i]? with | some (some (.val v)) => R.ok v st | some (some (.own v)) => R.ok v st | _ => R.bad) = _
  unfold seeW lk; rcases ρ[i]? with _ | _ | s <;> try rfl
  cases s <;> rfl
@[simp] theorem vw_con v (ρ : Env) (st : Store) (r : R PV) : vw (.con v) ρ st r = r := rfl
@[simp] theorem vw_tup e (ρ : Env) (st : Store) (r : R PV) : vw (.tup e) ρ st r = r := rfl
@[simp] theorem vw_lst e (ρ : Env) (st : Store) (r : R PV) : vw (.lst e) ρ st r = r := rfl
@[simp] theorem vw_dsp e (ρ : Env) (st : Store) (r : R PV) : vw (.dsp e) ρ st r = r := rfl
@[simp] theorem vw_bin o a b (ρ : Env) (st : Store) (r : R PV) : vw (.bin o a b) ρ st r = r := rfl
@[simp] theorem vw_cmp o a b (ρ : Env) (st : Store) (r : R PV) : vw (.cmp o a b) ρ st r = r := rfl
@[simp] theorem vw_neg a (ρ : Env) (st : Store) (r : R PV) : vw (.neg a) ρ st r = r := rfl
@[simp] theorem vw_not a (ρ : Env) (st : Store) (r : R PV) : vw (.not a) ρ st r = r := rfl
@[simp] theorem vw_and a b (ρ : Env) (st : Store) (r : R PV) : vw (.and a b) ρ st r = r := rfl
@[simp] theorem vw_or a b (ρ : Env) (st : Store) (r : R PV) : vw (.or a b) ρ st r = r := rfl
@[simp] theorem vw_ifx c a b (ρ : Env) (st : Store) (r : R PV) : vw (.ifx c a b) ρ st r = r := rfl
@[simp] theorem vw_sub a i (ρ : Env) (st : Store) (r : R PV) : vw (.sub a i) ρ st r = r := rfl
@[simp] theorem vw_slc a l h (ρ : Env) (st : Store) (r : R PV) : vw (.slc a l h) ρ st r = r := rfl
@[simp] theorem vw_call f e (ρ : Env) (st : Store) (r : R PV) : vw (.call f e) ρ st r = r := rfl
@[simp] theorem vw_b1 f a (ρ : Env) (st : Store) (r : R PV) : vw (.b1 f a) ρ st r = r := rfl
@[simp] theorem vw_b2 f a b (ρ : Env) (st : Store) (r : R PV) : vw (.b2 f a b) ρ st r = r := rfl
@[simp] theorem vw_isi a t (ρ : Env) (st : Store) (r : R PV) : vw (.isi a t) ρ st r = r := rfl
@[simp] theorem vw_get2 o k d (ρ : Env) (st : Store) (r : R PV) : vw (.get2 o k d) ρ st r = r := rfl
@[simp] theorem vw_lc o t s c e (ρ : Env) (st : Store) (r : R PV) : vw (.lc o t s c e) ρ st r = r := rfl
@[simp] theorem vw_dc o t s c k v (ρ : Env) (st : Store) (r : R PV) : vw (.dc o t s c k v) ρ st r = r := rfl
@[simp] theorem vw_part c f b (ρ : Env) (st : Store) (r : R PV) : vw (.part c f b) ρ st r = r := rfl
@[simp] theorem at0_tup (st : Store) (a : PV) (r : List PV) : subP st (.tup (a :: r)) (.int 0) = some a := by simp [subP, atP] <;> omega
@[simp] theorem at0_lst (st : Store) (a : PV) (r : List PV) : subP st (.lst (a :: r)) (.int 0) = some a := by simp [subP, atP] <;> omega
@[simp] theorem at1_tup (st : Store) (a b : PV) (r : List PV) : subP st (.tup (a :: b :: r)) (.int 1) = some b := by simp [subP, atP] <;> omega
@[simp] theorem at1_lst (st : Store) (a b : PV) (r : List PV) : subP st (.lst (a :: b :: r)) (.int 1) = some b := by simp [subP, atP] <;> omega
@[simp] theorem at2_tup (st : Store) (a b c : PV) (r : List PV) : subP st (.tup (a :: b :: c :: r)) (.int 2) = some c := by simp [subP, atP] <;> omega
@[simp] theorem at2_lst (st : Store) (a b c : PV) (r : List PV) : subP st (.lst (a :: b :: c :: r)) (.int 2) = some c := by simp [subP, atP] <;> omega
@[simp] theorem at3_tup (st : Store) (a b c d : PV) (r : List PV) : subP st (.tup (a :: b :: c :: d :: r)) (.int 3) = some d := by simp [subP, atP] <;> omega
@[simp] theorem at3_lst (st : Store) (a b c d : PV) (r : List PV) : subP st (.lst (a :: b :: c :: d :: r)) (.int 3) = some d := by simp [subP, atP] <;> omega
@[simp] theorem sub_ds (st : Store) (kvs : List (Key × PV)) (x : Str) : subP st (.dct kvs) (.str x) = dget kvs (.inr x) := rfl
@[simp] theorem cut1 (a : PV) (r : List PV) : slcP (.tup (a :: r)) (some 1) none = some (.tup r) := by
  simp [slcP, cutP, HT.sIx]
@[simp] theorem cut2 (a b : PV) (r : List PV) : slcP (.tup (a :: b :: r)) (some 2) none = some (.tup r) := by
  simp [slcP, cutP, HT.sIx]
@[simp] theorem turns_nil (f : PV → Store → R (Option PV)) (st : Store) : turns f [] st = .ok [] st := rfl
theorem turns_cons (f : PV → Store → R (Option PV)) (x : PV) (xs : List PV) (st : Store) : turns f (x :: xs) st = (f x st).quiet.bind fun y st => (turns f xs st).bind fun ys st => .ok (addO y ys) st := rfl
@[simp] theorem turnsD_nil (f : PV → Store → R (Option (Key × PV))) (acc) (st : Store) : turnsD f [] acc st = .ok acc st := rfl
theorem turnsD_cons (f : PV → Store → R (Option (Key × PV))) (x : PV) (xs : List PV) (acc) (st : Store) : turnsD f (x :: xs) acc st = (f x st).quiet.bind fun y st => turnsD f xs (addD y acc) st := rfl
@[simp] theorem sturns_cons (f : PV → Store → R (Option PV)) (x : PV) (xs : List PV) (st : Store) : turns f (x :: xs) st = @bd _ _ (f x st).quiet ⟨fun y st => @bd _ _ (turns f xs st) ⟨fun ys st => .ok (addO y ys) st⟩⟩ := rfl
@[simp] theorem sturnsD_cons (f : PV → Store → R (Option (Key × PV))) (x : PV) (xs : List PV) (acc) (st : Store) : turnsD f (x :: xs) acc st = @bd _ _ (f x st).quiet ⟨fun y st => turnsD f xs (addD y acc) st⟩ := rfl
@[simp] theorem addO_s (y : PV) (ys : List PV) : addO (some y) ys = y :: ys := rfl
@[simp] theorem addO_n (ys : List PV) : addO none ys = ys := rfl
@[simp] theorem addD_s (y : Key × PV) (ys : List (Key × PV)) : addD (some y) ys = dput ys y.1 y.2 := rfl
@[simp] theorem addD_n (ys : List (Key × PV)) : addD none ys = ys := rfl
def forK (f : Fl) (k : Env → Store → Fl) : Fl := match f with
  | .nx ρ st => k ρ st
  | .ct ρ st => k ρ st
  | .bk ρ st => .nx ρ st
  | r => r
@[simp] theorem forK_nx (ρ st k) : forK (.nx ρ st) k = k ρ st := rfl
@[simp] theorem forK_rt (v st k) : forK (.rt v st) k = .rt v st := rfl
@[simp] theorem forK_ex (c fs ρ st k) : forK (.ex c fs ρ st) k = .ex c fs ρ st := rfl
@[simp] theorem forF_nil (put body ρ st) : forF put body [] ρ st = .nx ρ st := rfl
theorem forF_cons (put : PV → Env → Option Env) (body : Env → Store → Fl) (x : PV) (xs : List PV) (ρ : Env) (st : Store) : forF put body (x :: xs) ρ st = flO (put x ρ) fun ρ => forK (body ρ st) fun ρ st => forF put body xs ρ st := by
  rw [forF]; cases put x ρ with
  | none => rfl
  | some ρ => simp only [flO]; cases body ρ st <;> rfl
def forKH (f : Fl) [k : Hold (Env → Store → Fl)] : Fl := forK f k.v
@[simp] theorem forKH_nx (ρ st k) : @forKH (.nx ρ st) ⟨k⟩ = k ρ st := rfl
@[simp] theorem forKH_rt (v st k) : @forKH (.rt v st) ⟨k⟩ = .rt v st := rfl
@[simp] theorem forKH_ex (c fs ρ st k) : @forKH (.ex c fs ρ st) ⟨k⟩ = .ex c fs ρ st := rfl
@[simp] theorem sforF_cons (put : PV → Env → Option Env) (body : Env → Store → Fl) (x : PV) (xs : List PV) (ρ : Env) (st : Store) : forF put body (x :: xs) ρ st = @flOH _ (put x ρ) ⟨fun ρ => @forKH (body ρ st) ⟨fun ρ st => forF put body xs ρ st⟩⟩ := forF_cons put body x xs ρ st
/-- every turn adds one thing and leaves the store -/
theorem turns_all {f : PV → Store → R (Option PV)} {xs : List PV} {st : Store} (g : PV → PV) (h : ∀ x ∈ xs, f x st = .ok (some (g x)) st) : turns f xs st = .ok (xs.map g) st := by
  induction xs with
  | nil => rfl
  | cons x xs ih =>
    rw [turns_cons, h x (by simp), quiet_ok, bind_ok, ih fun y hy => h y (by simp [hy])]
    rfl
theorem turns_opt {f : PV → Store → R (Option PV)} {xs : List PV} {st : Store} (g : PV → Option PV) (h : ∀ x ∈ xs, f x st = .ok (g x) st) : turns f xs st = .ok (xs.filterMap g) st := by
  induction xs with
  | nil => rfl
  | cons x xs ih =>
    rw [turns_cons, h x (by simp), quiet_ok, bind_ok, ih fun y hy => h y (by simp [hy])]
    cases e : g x <;> simp [addO, e, List.filterMap_cons]
theorem turnsD_all {f : PV → Store → R (Option (Key × PV))} {st : Store} (g : PV → Key × PV) : ∀ {xs : List PV} (acc : List (Key × PV)), (∀ x ∈ xs, f x st = .ok (some (g x)) st) → turnsD f xs acc st = .ok (dmerge acc (xs.map g)) st
  | [], acc, _ => rfl
  | x :: xs, acc, h => by
    rw [turnsD_cons, h x (by simp), quiet_ok, bind_ok, turnsD_all g _ fun y hy => h y (by simp [hy])]
    rfl
/-- a loop whose turns keep P -/
theorem forF_inv {put : PV → Env → Option Env} {body : Env → Store → Fl} (P : Env → Store → Prop) : ∀ (xs : List PV) (ρ : Env) (st : Store), P ρ st → (∀ x ∈ xs, ∀ ρ st, P ρ st → ∃ ρ1 ρ2 st2, put x ρ = some ρ1 ∧ body ρ1 st = .nx ρ2 st2 ∧ P ρ2 st2) → ∃ ρ2 st2, forF put body xs ρ st = .nx ρ2 st2 ∧ P ρ2 st2
  | [], ρ, st, h, _ => ⟨ρ, st, rfl, h⟩
  | x :: xs, ρ, st, h, H => by
    obtain ⟨ρ1, ρ2, st2, e1, e2, h2⟩ := H x (by simp) ρ st h
    obtain ⟨ρ3, st3, e3, h3⟩ := forF_inv P xs ρ2 st2 h2 fun y hy => H y (by simp [hy])
    exact ⟨ρ3, st3, by rw [forF_cons, e1, flO_s, e2, forK_nx, e3], h3⟩
theorem isort_id {α : Type} {le : α → α → Bool} : ∀ l : List α, l.Pairwise (fun a b => le a b = true) → isort le l = l
  | [], _ => rfl
  | [a], _ => rfl
  | a :: b :: r, h => by
    rw [List.pairwise_cons] at h
    show ins le a (isort le (b :: r)) = _
    rw [isort_id _ h.2]
    show (if le a b = true then _ else _) = _
    rw [if_pos (h.1 b (by simp))]
theorem intsP_map : ∀ vs : List Int, intsP (vs.map PV.int) = some vs
  | [] => rfl
  | v :: vs => by simp [intsP, intsP_map vs]
theorem strsP_map : ∀ vs : List Str, strsP (vs.map PV.str) = some vs
  | [] => rfl
  | v :: vs => by simp [strsP, strsP_map vs]
theorem boolsP_map : ∀ vs : List Bool, boolsP (vs.map PV.bl) = some vs
  | [] => rfl
  | v :: vs => by simp [boolsP, boolsP_map vs]
@[simp] theorem ty_non : tyOf .non = some "NoneType" := rfl
@[simp] theorem ty_bl (b : Bool) : tyOf (.bl b) = some "bool" := rfl
@[simp] theorem ty_int (i : Int) : tyOf (.int i) = some "int" := rfl
@[simp] theorem ty_str (x : Str) : tyOf (.str x) = some "str" := rfl
@[simp] theorem ty_tup (xs : List PV) : tyOf (.tup xs) = some "tuple" := rfl
@[simp] theorem ty_lst (xs : List PV) : tyOf (.lst xs) = some "list" := rfl
end PC
set_option autoImplicit true
set_option linter.all false
set_option maxRecDepth 100000
set_option maxHeartbeats 0
namespace PC
open PySem
/-- drawn terms -/
inductive Tm where
  | any | inn (x : Str) (vs : List Int) | nt (c : Tm) | con (k : Bool) (a b : Tm) | cmp (k : Bool) (a b : Tm)
  | num (i : Int) | val (x : Str) | ife (c a b : Tm) | ar (k : Bool) (a b : Tm)
def Tm.pv : Tm → PV
  | .any => .tup [.str "any"]
  | .inn x vs => .tup [.str "in", .str x, .tup (vs.map .int)]
  | .nt c => .tup [.str "not", c.pv]
  | .con true a b => .tup [.str "and", a.pv, b.pv]
  | .con false a b => .tup [.str "or", a.pv, b.pv]
  | .cmp true a b => .tup [.str "same", a.pv, b.pv]
  | .cmp false a b => .tup [.str "less", a.pv, b.pv]
  | .num i => .tup [.str "number", .int i]
  | .val x => .tup [.str "value", .str x]
  | .ife c a b => .tup [.str "if", c.pv, a.pv, b.pv]
  | .ar true a b => .tup [.str "plus", a.pv, b.pv]
  | .ar false a b => .tup [.str "minus", a.pv, b.pv]
def Tm.dp : Tm → Nat
  | .any => 1
  | .inn _ _ => 1
  | .nt c => c.dp + 1
  | .con _ a b => max a.dp b.dp + 1
  | .cmp _ a b => max a.dp b.dp + 1
  | .num _ => 1
  | .val _ => 1
  | .ife c a b => max c.dp (max a.dp b.dp) + 1
  | .ar _ a b => max a.dp b.dp + 1
/-- a condition (true) or an expression (false), its names in B, its values below B's bounds -/
def Tm.wf (B : Str → Option Int) : Bool → Tm → Prop
  | true, .any => True
  | true, .inn x vs => ∃ n, B x = some n ∧ (∀ v ∈ vs, 0 ≤ v ∧ v < n) ∧ vs.Pairwise (· < ·) ∧ vs.length < 64
  | true, .nt c => c.wf B true
  | true, .con _ a b => a.wf B true ∧ b.wf B true
  | true, .cmp _ a b => a.wf B false ∧ b.wf B false
  | false, .num i => 0 ≤ i ∧ i < 10
  | false, .val x => ∃ n, B x = some n
  | false, .ife c a b => c.wf B true ∧ a.wf B false ∧ b.wf B false
  | false, .ar _ a b => a.wf B false ∧ b.wf B false
  | _, _ => False
mutual
def Tm.sC (f : Str → Int) : Tm → Bool
  | .any => true
  | .inn x vs => vs.any fun v => v == f x
  | .nt c => !c.sC f
  | .con true a b => a.sC f && b.sC f
  | .con false a b => a.sC f || b.sC f
  | .cmp true a b => a.sE f == b.sE f
  | .cmp false a b => decide (a.sE f < b.sE f)
  | _ => false
def Tm.sE (f : Str → Int) : Tm → Int
  | .num i => i
  | .val x => f x
  | .ife c a b => if c.sC f then a.sE f else b.sE f
  | .ar true a b => a.sE f + b.sE f
  | .ar false a b => if b.sE f < a.sE f then a.sE f - b.sE f else 0
  | _ => 0
end
theorem c_holds (n : Nat) (a b : PV) (st : Store) : call T0 (n+1) "holds" [a, b] st = endR (evB (call T0 n) b_holds [some (.val a), some (.val b), none, none, none] st) := rfl
theorem c_worked (n : Nat) (a b : PV) (st : Store) : call T0 (n+1) "worked" [a, b] st = endR (evB (call T0 n) b_worked [some (.val a), some (.val b), none, none, none] st) := rfl
theorem c_lworked (n : Nat) (a b : PV) (st : Store) : call T0 (n+1) "_law_worked" [a, b] st = endR (evB (call T0 n) b__law_worked [some (.val a), some (.val b), none, none, none] st) := rfl
theorem c_lholds (n : Nat) (a b : PV) (st : Store) : call T0 (n+1) "_law_holds" [a, b] st = endR (evB (call T0 n) b__law_holds [some (.val a), some (.val b), none, none, none, none, none] st) := rfl
theorem shaped_int (i : Int) : SeqAt.shaped (.int i) = true := rfl
theorem strOk_of (a : String) : PyData.strOk (Str.ofString a) = true := by
  rw [Str.ofString_eq_toList]
  simp only [PyData.strOk, List.all_toArray, List.all_map, List.all_eq_true, Function.comp, decide_eq_true_eq]
  intro c _
  have := c.valid
  rcases this with h | h
  · have : c.val.toNat < 55296 := h
    show c.val.toNat < 1114112
    omega
  · have : c.val.toNat < 1114112 := h.2
    exact this
theorem shaped_str (a : String) : SeqAt.shaped (.str (Str.ofString a)) = true := by
  simp [SeqAt.shaped, PyData.canLay0, strOk_of, PyData.depth]
theorem eqP_str (a b : String) : eqP (.str (Str.ofString a)) (.str (Str.ofString b)) = some (decide (a = b)) := by
  simp [eqP, PV.data, shaped_str, PyData.eqv, ofStr_beq]; rfl
theorem eqP_int (a b : Int) : eqP (.int a) (.int b) = some (decide (a = b)) := by
  simp [eqP, PV.data, shaped_int, PyData.eqv]; rfl
theorem flat_ints (vs : List Int) : (vs.map PV.int).all flatP = true := by simp [flatP]
theorem inF_ints (i : Int) (vs : List Int) : inF (.int i) (vs.map PV.int) = vs.any fun v => v == i := by simp [inF, List.any_map, Function.comp_def, eqF_int]
/-- kvs tells f of the names that B tells of -/
def Tells (B : Str → Option Int) (kvs : List (Key × PV)) (f : Str → Int) : Prop := ∀ x n, B x = some n → dget kvs (.inr x) = some (.int (f x))
theorem isin_int (i : Int) (vs : List Int) : isin (.int i) (.tup (vs.map PV.int)) = some (vs.any fun v => v == i) := by
  simp only [isin, flat_ints, inF_ints]; simp [flatP]
theorem sound_hw (B : Str → Option Int) (kvs : List (Key × PV)) (f : Str → Int) (hT : Tells B kvs f) (st : Store) : ∀ (t : Tm) (n : Nat), t.dp ≤ n → (t.wf B true → call T0 n "holds" [t.pv, .dct kvs] st = .ok (.bl (t.sC f)) st) ∧ (t.wf B false → call T0 n "worked" [t.pv, .dct kvs] st = .ok (.int (t.sE f)) st) := by
  intro t
  induction t with
  | any => intro n hn; cases n with
    | zero => simp [Tm.dp] at hn
    | succ n =>
      refine ⟨fun _ => ?_, fun h => h.elim⟩
      rw [c_holds]; unfold b_holds
      simp [Tg.put, wipeE, kvPairs, toKey, iterP, List.replicate, binP, cmpP, isiP, fin_f, Tm.pv, Tm.sC, eqP_str]
  | inn x vs => intro n hn; cases n with
    | zero => simp [Tm.dp] at hn
    | succ n =>
      refine ⟨fun h => ?_, fun h => h.elim⟩
      rw [c_holds]; unfold b_holds
      obtain ⟨m, hm, h1, h2, h3⟩ := h
      have e := hT x m hm
      simp [Tg.put, wipeE, kvPairs, toKey, iterP, List.replicate, binP, cmpP, isiP, fin_f, Tm.pv, Tm.sC, eqP_str, e, isin_int]
  | nt c ih => intro n hn; cases n with
    | zero => simp [Tm.dp] at hn
    | succ n =>
      refine ⟨fun h => ?_, fun h => h.elim⟩
      rw [c_holds]; unfold b_holds
      have e := (ih n (by simp [Tm.dp] at hn; omega)).1 h
      simp [Tg.put, wipeE, kvPairs, toKey, iterP, List.replicate, binP, cmpP, isiP, fin_f, Tm.pv, Tm.sC, eqP_str, e]
  | con k a b iha ihb => intro n hn; cases n with
    | zero => simp [Tm.dp] at hn
    | succ n =>
      refine ⟨fun h => ?_, fun h => h.elim⟩
      rw [c_holds]; unfold b_holds
      have e := (iha n (by simp [Tm.dp] at hn; omega)).1 h.1
      have e2 := (ihb n (by simp [Tm.dp] at hn; omega)).1 h.2
      cases k
      · cases hs : a.sC f <;> simp [Tg.put, wipeE, kvPairs, toKey, iterP, List.replicate, binP, cmpP, isiP, fin_f, Tm.pv, Tm.sC, eqP_str, e, e2, hs]
      · cases hs : a.sC f <;> simp [Tg.put, wipeE, kvPairs, toKey, iterP, List.replicate, binP, cmpP, isiP, fin_f, Tm.pv, Tm.sC, eqP_str, e, e2, hs]
  | cmp k a b iha ihb => intro n hn; cases n with
    | zero => simp [Tm.dp] at hn
    | succ n =>
      refine ⟨fun h => ?_, fun h => h.elim⟩
      rw [c_holds]; unfold b_holds
      have e := (iha n (by simp [Tm.dp] at hn; omega)).2 h.1
      have e2 := (ihb n (by simp [Tm.dp] at hn; omega)).2 h.2
      cases k <;> simp [Tg.put, wipeE, kvPairs, toKey, iterP, List.replicate, binP, cmpP, isiP, fin_f, Tm.pv, Tm.sC, eqP_str, e, e2, eqP_int, Bool.beq_eq_decide_eq]
  | num i => intro n hn; cases n with
    | zero => simp [Tm.dp] at hn
    | succ n =>
      refine ⟨fun h => h.elim, fun h => ?_⟩
      rw [c_worked]; unfold b_worked
      simp [Tg.put, wipeE, kvPairs, toKey, iterP, List.replicate, binP, cmpP, isiP, fin_f, Tm.pv, Tm.sE, eqP_str]
  | val x => intro n hn; cases n with
    | zero => simp [Tm.dp] at hn
    | succ n =>
      refine ⟨fun h => h.elim, fun h => ?_⟩
      rw [c_worked]; unfold b_worked
      obtain ⟨m, hm⟩ := h
      have e := hT x m hm
      simp [Tg.put, wipeE, kvPairs, toKey, iterP, List.replicate, binP, cmpP, isiP, fin_f, Tm.pv, Tm.sE, eqP_str, e]
  | ife c a b ihc iha ihb => intro n hn; cases n with
    | zero => simp [Tm.dp] at hn
    | succ n =>
      refine ⟨fun h => h.elim, fun h => ?_⟩
      rw [c_worked]; unfold b_worked
      have e := (ihc n (by simp [Tm.dp] at hn; omega)).1 h.1
      have e2 := (iha n (by simp [Tm.dp] at hn; omega)).2 h.2.1
      have e3 := (ihb n (by simp [Tm.dp] at hn; omega)).2 h.2.2
      cases hs : c.sC f <;> simp [Tg.put, wipeE, kvPairs, toKey, iterP, List.replicate, binP, cmpP, isiP, fin_f, Tm.pv, Tm.sE, eqP_str, e, e2, e3, hs]
  | ar k a b iha ihb => intro n hn; cases n with
    | zero => simp [Tm.dp] at hn
    | succ n =>
      refine ⟨fun h => h.elim, fun h => ?_⟩
      rw [c_worked]; unfold b_worked
      have e := (iha n (by simp [Tm.dp] at hn; omega)).2 h.1
      have e2 := (ihb n (by simp [Tm.dp] at hn; omega)).2 h.2
      have e3 : (0 : Int) < a.sE f - b.sE f ↔ b.sE f < a.sE f := by omega
      cases k <;> simp [Tg.put, wipeE, kvPairs, toKey, iterP, List.replicate, binP, cmpP, isiP, fin_f, Tm.pv, Tm.sE, eqP_str, e, e2, b2P, e3]
end PC
set_option autoImplicit true
set_option linter.all false
set_option maxRecDepth 100000
set_option maxHeartbeats 0
namespace PC
open PySem
theorem c_kept (n : Nat) (a : PV) (st : Store) : call T0 (n+1) "kept" [a] st = endR (evB (call T0 n) b_kept [some (.val a), none, none] st) := rfl
theorem c_names (n : Nat) (a : PV) (st : Store) : call T0 (n+1) "names_in" [a] st = endR (evB (call T0 n) b_names_in [some (.val a), none, none] st) := rfl
theorem c_lnames (n : Nat) (a : PV) (st : Store) : call T0 (n+1) "_law_names" [a] st = endR (evB (call T0 n) b__law_names [some (.val a), none, none] st) := rfl
theorem c_called (n : Nat) (a b : PV) (st : Store) : call T0 (n+1) "called" [a, b] st = endR (evB (call T0 n) b_called [some (.val a), some (.val b), none] st) := rfl
theorem c_cond (n : Nat) (a b c : PV) (st : Store) : call T0 (n+1) "check_condition" [a, b, c] st = endR (evB (call T0 n) b_check_condition [some (.val a), some (.val b), some (.val c), none, none, none] st) := rfl
theorem c_cond2 (n : Nat) (a b : PV) (st : Store) : call T0 (n+1) "check_condition" [a, b] st = endR (evB (call T0 n) b_check_condition [some (.val a), some (.val b), some (.val (.int 8)), none, none, none] st) := rfl
theorem c_expr (n : Nat) (a b c : PV) (st : Store) : call T0 (n+1) "check_expression" [a, b, c] st = endR (evB (call T0 n) b_check_expression [some (.val a), some (.val b), some (.val c), none, none] st) := rfl
theorem c_expr2 (n : Nat) (a b : PV) (st : Store) : call T0 (n+1) "check_expression" [a, b] st = endR (evB (call T0 n) b_check_expression [some (.val a), some (.val b), some (.val (.int 8)), none, none] st) := rfl
theorem c_isvar (n : Nat) (a b : PV) (st : Store) : call T0 (n+1) "is_variable" [a, b] st = endR (evB (call T0 n) b_is_variable [some (.val a), some (.val b)] st) := rfl
theorem c_isrow (n : Nat) (a : PV) (st : Store) : call T0 (n+1) "is_row" [a] st = endR (evB (call T0 n) b_is_row [some (.val a)] st) := rfl
theorem c_isnum (n : Nat) (a : PV) (st : Store) : call T0 (n+1) "is_number" [a] st = endR (evB (call T0 n) b_is_number [some (.val a)] st) := rfl
theorem c_below (n : Nat) (a b : PV) (st : Store) : call T0 (n+1) "is_below" [a, b] st = endR (evB (call T0 n) b_is_below [some (.val a), some (.val b)] st) := rfl
theorem tup_pv (t : Tm) : ∃ a r, t.pv = .tup (a :: r) := by
  cases t with
  | con k _ _ => cases k <;> exact ⟨_, _, rfl⟩
  | cmp k _ _ => cases k <;> exact ⟨_, _, rfl⟩
  | ar k _ _ => cases k <;> exact ⟨_, _, rfl⟩
  | _ => exact ⟨_, _, rfl⟩
theorem ty_pv (t : Tm) : tyOf t.pv = some "tuple" := by
  obtain ⟨a, r, e⟩ := tup_pv t
  rw [e]; rfl

theorem sound_l (B : Str → Option Int) (kvs : List (Key × PV)) (f : Str → Int) (hT : Tells B kvs f) (st : Store) : ∀ (t : Tm) (n : Nat), t.dp ≤ n → (t.wf B true → call T0 n "_law_holds" [t.pv, .dct kvs] st = .ok (.bl (t.sC f)) st) ∧ (t.wf B false → call T0 n "_law_worked" [t.pv, .dct kvs] st = .ok (.int (t.sE f)) st) := by
  intro t
  induction t with
  | any   => intro n hn; cases n with
    | zero => simp [Tm.dp] at hn
    | succ n =>
      refine ⟨fun h => ?_, fun h => h.elim⟩
      rw [c_lholds]; unfold b__law_holds
      simp [Tg.put, wipeE, kvPairs, toKey, iterP, List.replicate, binP, cmpP, isiP, Tm.pv, Tm.sC, Tm.sE, eqP_str, eqP_int, b1P, boolsP, isin_int]
  | inn x vs  => intro n hn; cases n with
    | zero => simp [Tm.dp] at hn
    | succ n =>
      refine ⟨fun h => ?_, fun h => h.elim⟩
      rw [c_lholds]; unfold b__law_holds
      obtain ⟨m, hm, h1, h2, h3⟩ := h
      have hx := hT x m hm
      simp [Tg.put, wipeE, kvPairs, toKey, iterP, List.replicate, binP, cmpP, isiP, Tm.pv, Tm.sC, Tm.sE, eqP_str, eqP_int, hx, b1P, boolsP, isin_int]
  | nt c ihc => intro n hn; cases n with
    | zero => simp [Tm.dp] at hn
    | succ n =>
      refine ⟨fun h => ?_, fun h => h.elim⟩
      rw [c_lholds]; unfold b__law_holds
      have ec := (ihc n (by simp [Tm.dp] at hn; omega)).1 h
      cases hs : c.sC f <;> simp [Tg.put, wipeE, kvPairs, toKey, iterP, List.replicate, binP, cmpP, isiP, Tm.pv, Tm.sC, Tm.sE, eqP_str, eqP_int, ec, hs, b1P, boolsP]
  | con k a b iha ihb => intro n hn; cases n with
    | zero => simp [Tm.dp] at hn
    | succ n =>
      refine ⟨fun h => ?_, fun h => h.elim⟩
      rw [c_lholds]; unfold b__law_holds
      have ea := (iha n (by simp [Tm.dp] at hn; omega)).1 h.1
      have eb := (ihb n (by simp [Tm.dp] at hn; omega)).1 h.2
      cases k <;> cases hs : a.sC f <;> cases hs2 : b.sC f <;> simp [Tg.put, wipeE, kvPairs, toKey, iterP, List.replicate, binP, cmpP, isiP, Tm.pv, Tm.sC, Tm.sE, eqP_str, eqP_int, ea, eb, hs, hs2, b1P, boolsP]
  | cmp k a b iha ihb => intro n hn; cases n with
    | zero => simp [Tm.dp] at hn
    | succ n =>
      refine ⟨fun h => ?_, fun h => h.elim⟩
      rw [c_lholds]; unfold b__law_holds
      have ea := (iha n (by simp [Tm.dp] at hn; omega)).2 h.1
      have eb := (ihb n (by simp [Tm.dp] at hn; omega)).2 h.2
      cases k <;> simp [Tg.put, wipeE, kvPairs, toKey, iterP, List.replicate, binP, cmpP, isiP, Tm.pv, Tm.sC, Tm.sE, eqP_str, eqP_int, ea, eb, Bool.beq_eq_decide_eq]
  | num i  => intro n hn; cases n with
    | zero => simp [Tm.dp] at hn
    | succ n =>
      refine ⟨fun h => h.elim, fun h => ?_⟩
      rw [c_lworked]; unfold b__law_worked
      simp [Tg.put, wipeE, kvPairs, toKey, iterP, List.replicate, binP, cmpP, isiP, Tm.pv, Tm.sC, Tm.sE, eqP_str, eqP_int, b1P, boolsP, isin_int]
  | val x  => intro n hn; cases n with
    | zero => simp [Tm.dp] at hn
    | succ n =>
      refine ⟨fun h => h.elim, fun h => ?_⟩
      rw [c_lworked]; unfold b__law_worked
      obtain ⟨m, hm⟩ := h
      have hx := hT x m hm
      simp [Tg.put, wipeE, kvPairs, toKey, iterP, List.replicate, binP, cmpP, isiP, Tm.pv, Tm.sC, Tm.sE, eqP_str, eqP_int, hx, b1P, boolsP, isin_int]
  | ife c a b ihc iha ihb => intro n hn; cases n with
    | zero => simp [Tm.dp] at hn
    | succ n =>
      refine ⟨fun h => h.elim, fun h => ?_⟩
      rw [c_lworked]; unfold b__law_worked
      have ec := (ihc n (by simp [Tm.dp] at hn; omega)).1 h.1
      have ea := (iha n (by simp [Tm.dp] at hn; omega)).2 h.2.1
      have eb := (ihb n (by simp [Tm.dp] at hn; omega)).2 h.2.2
      cases hs : c.sC f <;> simp [Tg.put, wipeE, kvPairs, toKey, iterP, List.replicate, binP, cmpP, isiP, Tm.pv, Tm.sC, Tm.sE, eqP_str, eqP_int, ec, ea, eb, hs]
  | ar k a b iha ihb => intro n hn; cases n with
    | zero => simp [Tm.dp] at hn
    | succ n =>
      refine ⟨fun h => h.elim, fun h => ?_⟩
      rw [c_lworked]; unfold b__law_worked
      have ea := (iha n (by simp [Tm.dp] at hn; omega)).2 h.1
      have eb := (ihb n (by simp [Tm.dp] at hn; omega)).2 h.2
      cases k
      · by_cases h3 : b.sE f < a.sE f <;> simp [Tg.put, wipeE, kvPairs, toKey, iterP, List.replicate, binP, cmpP, isiP, Tm.pv, Tm.sC, Tm.sE, eqP_str, eqP_int, ea, eb, h3]
      · simp [Tg.put, wipeE, kvPairs, toKey, iterP, List.replicate, binP, cmpP, isiP, Tm.pv, Tm.sC, Tm.sE, eqP_str, eqP_int, ea, eb]

end PC
set_option autoImplicit true
set_option linter.all false
set_option maxRecDepth 100000
set_option maxHeartbeats 0
namespace PC
open PySem
theorem wf_or {B : Str → Option Int} {t : Tm} (k : Bool) (h : t.wf B k) : t.wf B true ∨ t.wf B false := by
  cases k
  · exact Or.inr h
  · exact Or.inl h
/-! ### dicts of names or numbers -/
def kdI (vs : List Int) : List (Key × PV) := vs.map fun v => (.inl v, .bl true)
def kd (vs : List Str) : List (Key × PV) := vs.map fun v => (.inr v, .bl true)
def addK (acc : List Str) (x : Str) : List Str := if x ∈ acc then acc else acc ++ [x]
theorem dput_kdI (vs : List Int) (v : Int) (h : v ∉ vs) : dput (kdI vs) (.inl v) (.bl true) = kdI (vs ++ [v]) := by
  unfold dput
  rw [if_neg]
  · simp [kdI]
  · simp only [kdI, List.any_map, List.any_eq_true, Function.comp, decide_eq_true_eq, not_exists, not_and]
    intro x hx e
    injection e with e
    exact h (e ▸ hx)
theorem dput_kd (vs : List Str) (v : Str) : dput (kd vs) (.inr v) (.bl true) = kd (addK vs v) := by
  unfold dput addK
  by_cases h : v ∈ vs
  · rw [if_pos, if_pos h]
    · simp only [kd, List.map_map]
      apply List.map_congr_left
      intro x hx
      show (if (Sum.inr x : Key) = Sum.inr v then _ else _) = _
      split <;> rfl
    · simp only [kd, List.any_map, List.any_eq_true, Function.comp, decide_eq_true_eq]
      exact ⟨v, h, rfl⟩
  · rw [if_neg, if_neg h]
    · simp [kd]
    · simp only [kd, List.any_map, List.any_eq_true, Function.comp, decide_eq_true_eq, not_exists, not_and]
      intro x hx e
      injection e with e
      exact h (e ▸ hx)
theorem dmerge_kdI : ∀ (vs acc : List Int), (acc ++ vs).Nodup → dmerge (kdI acc) (kdI vs) = kdI (acc ++ vs)
  | [], acc, _ => by simp [dmerge, kdI]
  | v :: vs, acc, h => by
    have h1 : v ∉ acc := by
      intro hm
      have := (List.nodup_append.mp h).2.2 v hm v (by simp)
      exact this rfl
    have e : dmerge (kdI acc) (kdI (v :: vs)) = dmerge (dput (kdI acc) (.inl v) (.bl true)) (kdI vs) := rfl
    rw [e, dput_kdI acc v h1, dmerge_kdI vs (acc ++ [v]) (by simpa using h)]
    simp
theorem dmerge_kd : ∀ (vs acc : List Str), dmerge (kd acc) (kd vs) = kd (vs.foldl addK acc)
  | [], acc => by simp [dmerge, kd]
  | v :: vs, acc => by
    have e : dmerge (kd acc) (kd (v :: vs)) = dmerge (dput (kd acc) (.inr v) (.bl true)) (kd vs) := rfl
    rw [e, dput_kd acc v, dmerge_kd vs]
    rfl
theorem mem_addK {acc : List Str} {x y : Str} : y ∈ addK acc x ↔ y ∈ acc ∨ y = x := by
  unfold addK; split
  · constructor
    · exact Or.inl
    · rintro (h | rfl) <;> assumption
  · simp
theorem mem_foldK : ∀ (l acc : List Str) (y : Str), y ∈ l.foldl addK acc ↔ y ∈ acc ∨ y ∈ l
  | [], acc, y => by simp
  | x :: l, acc, y => by
    rw [List.foldl_cons, mem_foldK l]
    rw [mem_addK]
    simp [or_assoc]
theorem foldK_add (acc b : List Str) (x : Str) : (addK b x).foldl addK acc = addK (b.foldl addK acc) x := by
  by_cases h : x ∈ b
  · have e1 : addK b x = b := if_pos h
    have e2 : addK (b.foldl addK acc) x = b.foldl addK acc := if_pos ((mem_foldK b acc x).mpr (Or.inr h))
    rw [e1, e2]
  · have e1 : addK b x = b ++ [x] := if_neg h
    rw [e1, List.foldl_append]
    rfl
theorem foldK_foldK (acc : List Str) : ∀ (l b : List Str), (l.foldl addK b).foldl addK acc = l.foldl addK (b.foldl addK acc)
  | [], b => rfl
  | x :: l, b => by
    rw [List.foldl_cons, foldK_foldK acc l, foldK_add, List.foldl_cons]
/-- each once -/
def onceS (l : List Str) : List Str := l.foldl addK []
theorem onceS_app (a b : List Str) : (onceS b).foldl addK ((onceS a).foldl addK []) = onceS (a ++ b) := by
  unfold onceS
  rw [foldK_foldK, foldK_foldK, List.foldl_append]
  rfl
theorem loop_eq : ∀ (l bs : List Str), List.eraseDupsBy.loop (fun x y => x == y) l bs = l.foldl addK bs.reverse
  | [], bs => by simp [List.eraseDupsBy.loop]
  | a :: l, bs => by
    rw [List.eraseDupsBy.loop, List.foldl_cons]
    have e : (bs.any fun y => a == y) = decide (a ∈ bs) := by
      rw [Bool.eq_iff_iff]; simp
    by_cases h : a ∈ bs
    · rw [e, decide_eq_true h]
      simp only []
      rw [loop_eq l bs, addK, if_pos (by simpa using h)]
    · rw [e, decide_eq_false h]
      simp only []
      rw [loop_eq l (a :: bs), addK, if_neg (by simpa using h), List.reverse_cons]
theorem erase_once (l : List Str) : l.eraseDups = onceS l := by
  rw [List.eraseDups, List.eraseDupsBy]
  exact loop_eq l []
/-! ### names -/
def Tm.names : Tm → List Str
  | .any => []
  | .inn x _ => [x]
  | .nt c => c.names
  | .con _ a b => a.names ++ b.names
  | .cmp _ a b => a.names ++ b.names
  | .num _ => []
  | .val x => [x]
  | .ife c a b => c.names ++ a.names ++ b.names
  | .ar _ a b => a.names ++ b.names
theorem dd (xs : List Str) : dmerge [] (kd xs) = kd (onceS xs) := dmerge_kd xs []
theorem kd_1 (x : Str) : dmerge [] [(Sum.inr x, PV.bl true)] = kd [x] := by
  simp [dmerge, dput, kd]
theorem dd1 (a : List Str) : dmerge [] (kd (onceS a)) = kd (onceS a) := by
  rw [dd]; congr 1; exact foldK_foldK [] a []
theorem dd2 (a b : List Str) : dmerge (kd (onceS a)) (kd (onceS b)) = kd (onceS (a ++ b)) := by
  rw [dmerge_kd, ← onceS_app]; congr 2; exact (foldK_foldK [] a []).symm
theorem len_kd (a : List Str) : (kd a).length = a.length := by simp [kd]
theorem once_len (a : List Str) : (onceS a).length ≤ a.length := by
  have : ∀ (l acc : List Str), (l.foldl addK acc).length ≤ acc.length + l.length := by
    intro l
    induction l with
    | nil => intro acc; simp
    | cons x l ih =>
      intro acc
      rw [List.foldl_cons]
      refine Nat.le_trans (ih _) ?_
      have : (addK acc x).length ≤ acc.length + 1 := by
        unfold addK; split <;> simp
      simp only [List.length_cons]; omega
  simpa [onceS] using this a []
theorem kdone (x : Str) : kd [x] = kd (onceS [x]) := rfl
theorem sound_names (st : Store) : ∀ (t : Tm) (n : Nat), t.dp ≤ n → t.names.length ≤ 1000 → call T0 n "names_in" [t.pv] st = .ok (.dct (kd (onceS t.names))) st := by
  intro t
  induction t with
  | any => intro n hn hl; cases n with
    | zero => simp [Tm.dp] at hn
    | succ n =>
      rw [c_names]; unfold b_names_in
      simp [Tg.put, wipeE, kvPairs, toKey, iterP, List.replicate, binP, cmpP, isiP, Tm.pv, Tm.names]; rfl
  | inn x vs => intro n hn hl; cases n with
    | zero => simp [Tm.dp] at hn
    | succ n =>
      rw [c_names]; unfold b_names_in
      simp [Tg.put, wipeE, kvPairs, toKey, iterP, List.replicate, binP, cmpP, isiP, Tm.pv, Tm.names, kd_1, kdone]
  | num x => intro n hn hl; cases n with
    | zero => simp [Tm.dp] at hn
    | succ n =>
      rw [c_names]; unfold b_names_in
      simp [Tg.put, wipeE, kvPairs, toKey, iterP, List.replicate, binP, cmpP, isiP, Tm.pv, Tm.names]; rfl
  | val x => intro n hn hl; cases n with
    | zero => simp [Tm.dp] at hn
    | succ n =>
      rw [c_names]; unfold b_names_in
      simp [Tg.put, wipeE, kvPairs, toKey, iterP, List.replicate, binP, cmpP, isiP, Tm.pv, Tm.names, kd_1, kdone]
  | nt c ih => intro n hn hl; cases n with
    | zero => simp [Tm.dp] at hn
    | succ n =>
      rw [c_names]; unfold b_names_in
      have ec := ih n (by simp [Tm.dp] at hn; omega) (by simpa [Tm.names] using hl)
      have l1 := once_len c.names
      simp [Tm.names] at hl
      have q : (onceS c.names).length ≤ 16777216 := by omega
      simp [Tg.put, wipeE, kvPairs, toKey, iterP, List.replicate, binP, cmpP, isiP, Tm.pv, Tm.names, ec, ty_pv, dd1, len_kd, q, -List.length_append]
  | con k a b iha ihb => intro n hn hl; cases n with
    | zero => simp [Tm.dp] at hn
    | succ n =>
      rw [c_names]; unfold b_names_in
      simp only [Tm.names, List.length_append] at hl
      have ea := iha n (by simp [Tm.dp] at hn; omega) (by omega)
      have eb := ihb n (by simp [Tm.dp] at hn; omega) (by omega)
      have l1 := once_len a.names
      have l2 := once_len b.names
      have q : (onceS a.names).length ≤ 16777216 := by omega
      have q2 : (onceS a.names).length + (onceS b.names).length ≤ 16777216 := by omega
      cases k <;> simp [Tg.put, wipeE, kvPairs, toKey, iterP, List.replicate, binP, cmpP, isiP, Tm.pv, Tm.names, ea, eb, ty_pv, dd1, dd2, len_kd, q, q2]
  | cmp k a b iha ihb => intro n hn hl; cases n with
    | zero => simp [Tm.dp] at hn
    | succ n =>
      rw [c_names]; unfold b_names_in
      simp only [Tm.names, List.length_append] at hl
      have ea := iha n (by simp [Tm.dp] at hn; omega) (by omega)
      have eb := ihb n (by simp [Tm.dp] at hn; omega) (by omega)
      have l1 := once_len a.names
      have l2 := once_len b.names
      have q : (onceS a.names).length ≤ 16777216 := by omega
      have q2 : (onceS a.names).length + (onceS b.names).length ≤ 16777216 := by omega
      cases k <;> simp [Tg.put, wipeE, kvPairs, toKey, iterP, List.replicate, binP, cmpP, isiP, Tm.pv, Tm.names, ea, eb, ty_pv, dd1, dd2, len_kd, q, q2]
  | ar k a b iha ihb => intro n hn hl; cases n with
    | zero => simp [Tm.dp] at hn
    | succ n =>
      rw [c_names]; unfold b_names_in
      simp only [Tm.names, List.length_append] at hl
      have ea := iha n (by simp [Tm.dp] at hn; omega) (by omega)
      have eb := ihb n (by simp [Tm.dp] at hn; omega) (by omega)
      have l1 := once_len a.names
      have l2 := once_len b.names
      have q : (onceS a.names).length ≤ 16777216 := by omega
      have q2 : (onceS a.names).length + (onceS b.names).length ≤ 16777216 := by omega
      cases k <;> simp [Tg.put, wipeE, kvPairs, toKey, iterP, List.replicate, binP, cmpP, isiP, Tm.pv, Tm.names, ea, eb, ty_pv, dd1, dd2, len_kd, q, q2]
  | ife c a b ihc iha ihb => intro n hn hl; cases n with
    | zero => simp [Tm.dp] at hn
    | succ n =>
      rw [c_names]; unfold b_names_in
      simp only [Tm.names, List.length_append] at hl
      have ec := ihc n (by simp [Tm.dp] at hn; omega) (by omega)
      have ea := iha n (by simp [Tm.dp] at hn; omega) (by omega)
      have eb := ihb n (by simp [Tm.dp] at hn; omega) (by omega)
      have l0 := once_len c.names
      have l1 := once_len a.names
      have l2 := once_len b.names
      have l3 := once_len (c.names ++ a.names)
      rw [List.length_append] at l3
      have q : (onceS c.names).length ≤ 16777216 := by omega
      have q2 : (onceS c.names).length + (onceS a.names).length ≤ 16777216 := by omega
      have q3 : (onceS (c.names ++ a.names)).length + (onceS b.names).length ≤ 16777216 := by omega
      simp [Tg.put, wipeE, kvPairs, toKey, iterP, List.replicate, binP, cmpP, isiP, Tm.pv, Tm.names, ec, ea, eb, ty_pv, dd1, dd2, len_kd, q, q2, q3]
theorem sound_lnames (st : Store) : ∀ (t : Tm) (n : Nat), t.dp ≤ n → t.names.length ≤ 1000 → call T0 n "_law_names" [t.pv] st = .ok (.lst (t.names.map .str)) st := by
  intro t
  induction t with
  | any => intro n hn hl; cases n with
    | zero => simp [Tm.dp] at hn
    | succ n =>
      rw [c_lnames]; unfold b__law_names
      simp [Tg.put, wipeE, kvPairs, toKey, iterP, List.replicate, binP, cmpP, isiP, Tm.pv, Tm.names]
  | inn x vs => intro n hn hl; cases n with
    | zero => simp [Tm.dp] at hn
    | succ n =>
      rw [c_lnames]; unfold b__law_names
      simp [Tg.put, wipeE, kvPairs, toKey, iterP, List.replicate, binP, cmpP, isiP, Tm.pv, Tm.names]
  | num x => intro n hn hl; cases n with
    | zero => simp [Tm.dp] at hn
    | succ n =>
      rw [c_lnames]; unfold b__law_names
      simp [Tg.put, wipeE, kvPairs, toKey, iterP, List.replicate, binP, cmpP, isiP, Tm.pv, Tm.names]
  | val x => intro n hn hl; cases n with
    | zero => simp [Tm.dp] at hn
    | succ n =>
      rw [c_lnames]; unfold b__law_names
      simp [Tg.put, wipeE, kvPairs, toKey, iterP, List.replicate, binP, cmpP, isiP, Tm.pv, Tm.names]
  | nt c ih => intro n hn hl; cases n with
    | zero => simp [Tm.dp] at hn
    | succ n =>
      rw [c_lnames]; unfold b__law_names
      have ec := ih n (by simp [Tm.dp] at hn; omega) (by simpa [Tm.names] using hl)
      simp [Tm.names] at hl
      have q : c.names.length ≤ 16777216 := by omega
      simp [Tg.put, wipeE, kvPairs, toKey, iterP, List.replicate, binP, cmpP, isiP, Tm.pv, Tm.names, ec, ty_pv, q]
  | con k a b iha ihb => intro n hn hl; cases n with
    | zero => simp [Tm.dp] at hn
    | succ n =>
      rw [c_lnames]; unfold b__law_names
      simp only [Tm.names, List.length_append] at hl
      have ea := iha n (by simp [Tm.dp] at hn; omega) (by omega)
      have eb := ihb n (by simp [Tm.dp] at hn; omega) (by omega)
      have q : a.names.length ≤ 16777216 := by omega
      have q2 : a.names.length + b.names.length ≤ 16777216 := by omega
      cases k <;> simp [Tg.put, wipeE, kvPairs, toKey, iterP, List.replicate, binP, cmpP, isiP, Tm.pv, Tm.names, ea, eb, ty_pv, q, q2]
  | cmp k a b iha ihb => intro n hn hl; cases n with
    | zero => simp [Tm.dp] at hn
    | succ n =>
      rw [c_lnames]; unfold b__law_names
      simp only [Tm.names, List.length_append] at hl
      have ea := iha n (by simp [Tm.dp] at hn; omega) (by omega)
      have eb := ihb n (by simp [Tm.dp] at hn; omega) (by omega)
      have q : a.names.length ≤ 16777216 := by omega
      have q2 : a.names.length + b.names.length ≤ 16777216 := by omega
      cases k <;> simp [Tg.put, wipeE, kvPairs, toKey, iterP, List.replicate, binP, cmpP, isiP, Tm.pv, Tm.names, ea, eb, ty_pv, q, q2]
  | ar k a b iha ihb => intro n hn hl; cases n with
    | zero => simp [Tm.dp] at hn
    | succ n =>
      rw [c_lnames]; unfold b__law_names
      simp only [Tm.names, List.length_append] at hl
      have ea := iha n (by simp [Tm.dp] at hn; omega) (by omega)
      have eb := ihb n (by simp [Tm.dp] at hn; omega) (by omega)
      have q : a.names.length ≤ 16777216 := by omega
      have q2 : a.names.length + b.names.length ≤ 16777216 := by omega
      cases k <;> simp [Tg.put, wipeE, kvPairs, toKey, iterP, List.replicate, binP, cmpP, isiP, Tm.pv, Tm.names, ea, eb, ty_pv, q, q2]
  | ife c a b ihc iha ihb => intro n hn hl; cases n with
    | zero => simp [Tm.dp] at hn
    | succ n =>
      rw [c_lnames]; unfold b__law_names
      simp only [Tm.names, List.length_append] at hl
      have ec := ihc n (by simp [Tm.dp] at hn; omega) (by omega)
      have ea := iha n (by simp [Tm.dp] at hn; omega) (by omega)
      have eb := ihb n (by simp [Tm.dp] at hn; omega) (by omega)
      have q : c.names.length ≤ 16777216 := by omega
      have q2 : c.names.length + a.names.length ≤ 16777216 := by omega
      have q3 : c.names.length + (a.names.length + b.names.length) ≤ 16777216 := by omega
      have q4 : c.names.length + a.names.length + b.names.length ≤ 16777216 := by omega
      simp [Tg.put, wipeE, kvPairs, toKey, iterP, List.replicate, binP, cmpP, isiP, Tm.pv, Tm.names, ec, ea, eb, ty_pv, q, q2, q3, q4]
end PC
set_option autoImplicit true
set_option linter.all false
set_option maxRecDepth 100000
set_option maxHeartbeats 0
namespace PC
open PySem
def gI (x : PV) : Key × PV := match x with
  | .int i => (.inl i, .bl true)
  | _ => (.inl 0, .bl true)
theorem asc_nodup : ∀ {vs : List Int}, vs.Pairwise (· < ·) → vs.Nodup := fun {vs} h => h.imp fun hab => by omega
theorem merge_gI (vs : List Int) (h : vs.Pairwise (· < ·)) : dmerge [] ((vs.map PV.int).map gI) = kdI vs := by
  have := dmerge_kdI vs [] (by simpa using asc_nodup h)
  simpa [kdI, gI, List.map_map, Function.comp_def] using this
theorem sorted_kdI (vs : List Int) (h : vs.Pairwise (· < ·)) (hl : vs.length < 64) : b1P .sorted (.dct (kdI vs)) = some (.lst (vs.map .int)) := by
  have e : (kdI vs).map (fun kv => kP kv.1) = vs.map PV.int := by simp [kdI, kP, List.map_map, Function.comp_def]
  have e2 : sortI vs = vs := isort_id vs (h.imp fun hab => by simp [leI]; omega)
  show (if (kdI vs).length < 64 then sortL _ else none) = _
  rw [if_pos (by simpa [kdI] using hl), e, sortL, intsP_map]
  simp [e2]

theorem sound_kept (B : Str → Option Int) (st : Store) : ∀ (t : Tm) (k : Bool) (n : Nat), t.dp ≤ n → t.wf B k → call T0 n "kept" [t.pv] st = .ok t.pv st := by
  intro t
  induction t with
  | any   => intro k n hn h; cases n with
    | zero => simp [Tm.dp] at hn
    | succ n =>
      rw [c_kept]; unfold b_kept
      cases k
      · exact h.elim
      · simp [Tg.put, wipeE, kvPairs, toKey, iterP, List.replicate, binP, cmpP, isiP, Tm.pv, eqP_str, ty_pv, Tm.names]
  | inn x vs  => intro k n hn h; cases n with
    | zero => simp [Tm.dp] at hn
    | succ n =>
      rw [c_kept]; unfold b_kept
      cases k
      · exact h.elim
      · obtain ⟨m, hm, h1, h2, h3⟩ := h
        simp [Tg.put, wipeE, kvPairs, toKey, iterP, List.replicate, binP, cmpP, isiP, Tm.pv, eqP_str]
        rw [turnsD_all gI]
        · rw [merge_gI vs h2]
          simp [sorted_kdI vs h2 h3]
          simp [b1P]
        · intro y hy
          obtain ⟨i, _, rfl⟩ := List.mem_map.mp hy
          simp [Tg.put, wipeE, kvPairs, toKey, iterP, List.replicate, binP, cmpP, isiP, gI]
  | nt c ihc => intro k n hn h; cases n with
    | zero => simp [Tm.dp] at hn
    | succ n =>
      rw [c_kept]; unfold b_kept
      cases k
      · exact h.elim
      · have ec := ihc true n (by simp [Tm.dp] at hn; omega) h
        simp [Tg.put, wipeE, kvPairs, toKey, iterP, List.replicate, binP, cmpP, isiP, Tm.pv, eqP_str, ty_pv, ec, Tm.names]
  | con w a b iha ihb => intro k n hn h; cases n with
    | zero => simp [Tm.dp] at hn
    | succ n =>
      rw [c_kept]; unfold b_kept
      cases k
      · exact h.elim
      · have ea := iha true n (by simp [Tm.dp] at hn; omega) h.1
        have eb := ihb true n (by simp [Tm.dp] at hn; omega) h.2
        cases w <;> simp [Tg.put, wipeE, kvPairs, toKey, iterP, List.replicate, binP, cmpP, isiP, Tm.pv, eqP_str, ty_pv, ea, eb, Tm.names]
  | cmp w a b iha ihb => intro k n hn h; cases n with
    | zero => simp [Tm.dp] at hn
    | succ n =>
      rw [c_kept]; unfold b_kept
      cases k
      · exact h.elim
      · have ea := iha false n (by simp [Tm.dp] at hn; omega) h.1
        have eb := ihb false n (by simp [Tm.dp] at hn; omega) h.2
        cases w <;> simp [Tg.put, wipeE, kvPairs, toKey, iterP, List.replicate, binP, cmpP, isiP, Tm.pv, eqP_str, ty_pv, ea, eb, Tm.names]
  | num i  => intro k n hn h; cases n with
    | zero => simp [Tm.dp] at hn
    | succ n =>
      rw [c_kept]; unfold b_kept
      cases k
      · simp [Tg.put, wipeE, kvPairs, toKey, iterP, List.replicate, binP, cmpP, isiP, Tm.pv, eqP_str, ty_pv, Tm.names]
      · exact h.elim
  | val x  => intro k n hn h; cases n with
    | zero => simp [Tm.dp] at hn
    | succ n =>
      rw [c_kept]; unfold b_kept
      cases k
      · obtain ⟨m, hm⟩ := h
        simp [Tg.put, wipeE, kvPairs, toKey, iterP, List.replicate, binP, cmpP, isiP, Tm.pv, eqP_str, ty_pv, Tm.names]
      · exact h.elim
  | ife c a b ihc iha ihb => intro k n hn h; cases n with
    | zero => simp [Tm.dp] at hn
    | succ n =>
      rw [c_kept]; unfold b_kept
      cases k
      · have ec := ihc true n (by simp [Tm.dp] at hn; omega) h.1
        have ea := iha false n (by simp [Tm.dp] at hn; omega) h.2.1
        have eb := ihb false n (by simp [Tm.dp] at hn; omega) h.2.2
        simp [Tg.put, wipeE, kvPairs, toKey, iterP, List.replicate, binP, cmpP, isiP, Tm.pv, eqP_str, ty_pv, ec, ea, eb, Tm.names]
      · exact h.elim
  | ar w a b iha ihb => intro k n hn h; cases n with
    | zero => simp [Tm.dp] at hn
    | succ n =>
      rw [c_kept]; unfold b_kept
      cases k
      · have ea := iha false n (by simp [Tm.dp] at hn; omega) h.1
        have eb := ihb false n (by simp [Tm.dp] at hn; omega) h.2
        cases w <;> simp [Tg.put, wipeE, kvPairs, toKey, iterP, List.replicate, binP, cmpP, isiP, Tm.pv, eqP_str, ty_pv, ea, eb, Tm.names]
      · exact h.elim

/-- other names -/
def Tm.ren (r : Str → Str) : Tm → Tm
  | .any => .any
  | .inn x vs => .inn (r x) vs
  | .nt c => .nt (c.ren r)
  | .con k a b => .con k (a.ren r) (b.ren r)
  | .cmp k a b => .cmp k (a.ren r) (b.ren r)
  | .num i => .num i
  | .val x => .val (r x)
  | .ife c a b => .ife (c.ren r) (a.ren r) (b.ren r)
  | .ar k a b => .ar k (a.ren r) (b.ren r)

theorem sound_called (B : Str → Option Int) (st : Store) (nm : List (Key × PV)) (r : Str → Str) (hR : ∀ x n, B x = some n → (dget nm (.inr x)).getD (.str x) = .str (r x)) : ∀ (t : Tm) (k : Bool) (n : Nat), t.dp ≤ n → t.wf B k → call T0 n "called" [t.pv, .dct nm] st = .ok (t.ren r).pv st := by
  intro t
  induction t with
  | any   => intro k n hn h; cases n with
    | zero => simp [Tm.dp] at hn
    | succ n =>
      rw [c_called]; unfold b_called
      cases k
      · exact h.elim
      · simp [Tg.put, wipeE, kvPairs, toKey, iterP, List.replicate, binP, cmpP, isiP, Tm.pv, eqP_str, ty_pv, Tm.ren]
  | inn x vs  => intro k n hn h; cases n with
    | zero => simp [Tm.dp] at hn
    | succ n =>
      rw [c_called]; unfold b_called
      cases k
      · exact h.elim
      · obtain ⟨m, hm, h1, h2, h3⟩ := h
        have hx := hR x m hm
        simp [Tg.put, wipeE, kvPairs, toKey, iterP, List.replicate, binP, cmpP, isiP, Tm.pv, Tm.ren, eqP_str, hx]
  | nt c ihc => intro k n hn h; cases n with
    | zero => simp [Tm.dp] at hn
    | succ n =>
      rw [c_called]; unfold b_called
      cases k
      · exact h.elim
      · have ec := ihc true n (by simp [Tm.dp] at hn; omega) h
        simp [Tg.put, wipeE, kvPairs, toKey, iterP, List.replicate, binP, cmpP, isiP, Tm.pv, eqP_str, ty_pv, ec, Tm.ren]
  | con w a b iha ihb => intro k n hn h; cases n with
    | zero => simp [Tm.dp] at hn
    | succ n =>
      rw [c_called]; unfold b_called
      cases k
      · exact h.elim
      · have ea := iha true n (by simp [Tm.dp] at hn; omega) h.1
        have eb := ihb true n (by simp [Tm.dp] at hn; omega) h.2
        cases w <;> simp [Tg.put, wipeE, kvPairs, toKey, iterP, List.replicate, binP, cmpP, isiP, Tm.pv, eqP_str, ty_pv, ea, eb, Tm.ren]
  | cmp w a b iha ihb => intro k n hn h; cases n with
    | zero => simp [Tm.dp] at hn
    | succ n =>
      rw [c_called]; unfold b_called
      cases k
      · exact h.elim
      · have ea := iha false n (by simp [Tm.dp] at hn; omega) h.1
        have eb := ihb false n (by simp [Tm.dp] at hn; omega) h.2
        cases w <;> simp [Tg.put, wipeE, kvPairs, toKey, iterP, List.replicate, binP, cmpP, isiP, Tm.pv, eqP_str, ty_pv, ea, eb, Tm.ren]
  | num i  => intro k n hn h; cases n with
    | zero => simp [Tm.dp] at hn
    | succ n =>
      rw [c_called]; unfold b_called
      cases k
      · simp [Tg.put, wipeE, kvPairs, toKey, iterP, List.replicate, binP, cmpP, isiP, Tm.pv, eqP_str, ty_pv, Tm.ren]
      · exact h.elim
  | val x  => intro k n hn h; cases n with
    | zero => simp [Tm.dp] at hn
    | succ n =>
      rw [c_called]; unfold b_called
      cases k
      · obtain ⟨m, hm⟩ := h
        have hx := hR x m hm
        simp [Tg.put, wipeE, kvPairs, toKey, iterP, List.replicate, binP, cmpP, isiP, Tm.pv, Tm.ren, eqP_str, hx]
      · exact h.elim
  | ife c a b ihc iha ihb => intro k n hn h; cases n with
    | zero => simp [Tm.dp] at hn
    | succ n =>
      rw [c_called]; unfold b_called
      cases k
      · have ec := ihc true n (by simp [Tm.dp] at hn; omega) h.1
        have ea := iha false n (by simp [Tm.dp] at hn; omega) h.2.1
        have eb := ihb false n (by simp [Tm.dp] at hn; omega) h.2.2
        simp [Tg.put, wipeE, kvPairs, toKey, iterP, List.replicate, binP, cmpP, isiP, Tm.pv, eqP_str, ty_pv, ec, ea, eb, Tm.ren]
      · exact h.elim
  | ar w a b iha ihb => intro k n hn h; cases n with
    | zero => simp [Tm.dp] at hn
    | succ n =>
      rw [c_called]; unfold b_called
      cases k
      · have ea := iha false n (by simp [Tm.dp] at hn; omega) h.1
        have eb := ihb false n (by simp [Tm.dp] at hn; omega) h.2
        cases w <;> simp [Tg.put, wipeE, kvPairs, toKey, iterP, List.replicate, binP, cmpP, isiP, Tm.pv, eqP_str, ty_pv, ea, eb, Tm.ren]
      · exact h.elim

theorem ren_dp (r : Str → Str) (t : Tm) : (t.ren r).dp = t.dp := by
  induction t <;> simp_all [Tm.ren, Tm.dp]
theorem ren_wf (B B2 : Str → Option Int) (r : Str → Str) (h : ∀ x n, B x = some n → B2 (r x) = some n) : ∀ (t : Tm) (k : Bool), t.wf B k → (t.ren r).wf B2 k := by
  intro t
  induction t with
  | inn x vs => intro k hw; cases k; exact hw.elim; obtain ⟨m, hm, h1⟩ := hw; exact ⟨m, h x m hm, h1⟩
  | val x => intro k hw; cases k; obtain ⟨m, hm⟩ := hw; exact ⟨m, h x m hm⟩; exact hw.elim
  | any => intro k hw; cases k; exact hw.elim; trivial
  | num i => intro k hw; cases k; exact hw; exact hw.elim
  | nt c ih => intro k hw; cases k; exact hw.elim; exact ih true hw
  | con w a b iha ihb => intro k hw; cases k; exact hw.elim; exact ⟨iha true hw.1, ihb true hw.2⟩
  | cmp w a b iha ihb => intro k hw; cases k; exact hw.elim; exact ⟨iha false hw.1, ihb false hw.2⟩
  | ar w a b iha ihb => intro k hw; cases k; exact ⟨iha false hw.1, ihb false hw.2⟩; exact hw.elim
  | ife c a b ihc iha ihb => intro k hw; cases k; exact ⟨ihc true hw.1, iha false hw.2.1, ihb false hw.2.2⟩; exact hw.elim
theorem ren_sem (B : Str → Option Int) (r : Str → Str) (f g : Str → Int) (h : ∀ x n, B x = some n → g (r x) = f x) : ∀ t : Tm, (t.wf B true → (t.ren r).sC g = t.sC f) ∧ (t.wf B false → (t.ren r).sE g = t.sE f) := by
  intro t
  induction t with
  | inn x vs => exact ⟨fun hw => by obtain ⟨m, hm, h1⟩ := hw; simp [Tm.ren, Tm.sC, h x m hm], fun hw => hw.elim⟩
  | val x => exact ⟨fun hw => hw.elim, fun hw => by obtain ⟨m, hm⟩ := hw; simp [Tm.ren, Tm.sE, h x m hm]⟩
  | any => exact ⟨fun _ => rfl, fun hw => hw.elim⟩
  | num i => exact ⟨fun hw => hw.elim, fun _ => rfl⟩
  | nt c ih => exact ⟨fun hw => by simp [Tm.ren, Tm.sC, ih.1 hw], fun hw => hw.elim⟩
  | con w a b iha ihb => exact ⟨fun hw => by cases w <;> simp [Tm.ren, Tm.sC, iha.1 hw.1, ihb.1 hw.2], fun hw => hw.elim⟩
  | cmp w a b iha ihb => exact ⟨fun hw => by cases w <;> simp [Tm.ren, Tm.sC, iha.2 hw.1, ihb.2 hw.2], fun hw => hw.elim⟩
  | ar w a b iha ihb => exact ⟨fun hw => hw.elim, fun hw => by cases w <;> simp [Tm.ren, Tm.sE, iha.2 hw.1, ihb.2 hw.2]⟩
  | ife c a b ihc iha ihb => exact ⟨fun hw => hw.elim, fun hw => by simp [Tm.ren, Tm.sE, ihc.1 hw.1, iha.2 hw.2.1, ihb.2 hw.2.2]⟩
end PC
set_option autoImplicit true
set_option linter.all false
set_option maxRecDepth 100000
set_option maxHeartbeats 0
namespace PC
open PySem
theorem dataL_ints : ∀ vs : List Int, PV.dataL (vs.map PV.int) = some (vs.map PyData.int)
  | [] => rfl
  | v :: vs => by
    show (match PV.data (.int v), PV.dataL (vs.map PV.int) with
      | some d, some ds => some (d :: ds)
      | _, _ => none) = _
    rw [dataL_ints vs]; rfl
theorem lay_ints : ∀ vs : List Int, PyData.canLayAll0 (vs.map PyData.int) = true
  | [] => rfl
  | v :: vs => by simp [PyData.canLayAll0, PyData.canLay0, lay_ints vs]
theorem dep_ints : ∀ vs : List Int, PyData.depthAll (vs.map PyData.int) = 0
  | [] => rfl
  | v :: vs => by simp [PyData.depthAll, PyData.depth, dep_ints vs]
/-- a term as data -/
structure Dat (t : Tm) (ds : List PyData) : Prop where
  e : t.pv.data = some (.tuple ds)
  ne : ds ≠ []
  lay : PyData.canLayAll0 ds = true
  dep : PyData.depthAll ds ≤ t.dp
theorem data_1 {x : PV} {d : PyData} (h : x.data = some d) : PV.dataL [x] = some [d] := by simp [PV.dataL, h]
theorem data_2 {x y : PV} {d e : PyData} (h : x.data = some d) (h2 : y.data = some e) : PV.dataL [x, y] = some [d, e] := by simp [PV.dataL, h, h2]
theorem data_tup {xs : List PV} {ds : List PyData} (h : PV.dataL xs = some ds) : PV.data (.tup xs) = some (.tuple ds) := by simp [PV.data, h]
theorem pv_data (B : Str → Option Int) (hB : ∀ x n, B x = some n → PyData.strOk x = true) : ∀ (t : Tm) (k : Bool), t.wf B k → ∃ ds, Dat t ds := by
  intro t
  induction t with
  | any => intro k h; exact ⟨_, rfl, by simp, by simp [PyData.canLayAll0, PyData.canLay0, strOk_of], by simp [PyData.depthAll, PyData.depth, Tm.dp]⟩
  | inn x vs =>
    intro k h; cases k
    · exact h.elim
    · obtain ⟨m, hm, h1⟩ := h
      refine ⟨[.str "in", .str x, .tuple (vs.map .int)], ?_, by simp, by simp [PyData.canLayAll0, PyData.canLay0, strOk_of, hB x m hm, lay_ints], by simp [PyData.depthAll, PyData.depth, dep_ints, Tm.dp]⟩
      simp [Tm.pv, PV.data, PV.dataL, dataL_ints]
  | num i => intro k h; exact ⟨_, rfl, by simp, by simp [PyData.canLayAll0, PyData.canLay0, strOk_of], by simp [PyData.depthAll, PyData.depth, Tm.dp]⟩
  | val x =>
    intro k h; cases k
    · obtain ⟨m, hm⟩ := h
      exact ⟨_, rfl, by simp, by simp [PyData.canLayAll0, PyData.canLay0, strOk_of, hB x m hm], by simp [PyData.depthAll, PyData.depth, Tm.dp]⟩
    · exact h.elim
  | nt c ihc =>
    intro k h; cases k
    · exact h.elim
    · obtain ⟨dc, hc⟩ := ihc true h
      have ec := hc.e
      have lc := hc.lay
      have pc := hc.dep
      exact ⟨[.str "not", .tuple dc], by simp [Tm.pv, PV.data, PV.dataL, ec], by simp, by simp [PyData.canLayAll0, PyData.canLay0, strOk_of, lc], by simp only [PyData.depthAll, PyData.depth, Tm.dp]; omega⟩
  | con w a b iha ihb =>
    intro k h; cases k
    · exact h.elim
    · obtain ⟨da, ha⟩ := iha true h.1
      have ea := ha.e
      have la := ha.lay
      have pa := ha.dep
      obtain ⟨db, hb⟩ := ihb true h.2
      have eb := hb.e
      have lb := hb.lay
      have pb := hb.dep
      cases w
      · exact ⟨[.str "or", .tuple da, .tuple db], by simp [Tm.pv, PV.data, PV.dataL, ea, eb], by simp, by simp [PyData.canLayAll0, PyData.canLay0, strOk_of, la, lb], by simp only [PyData.depthAll, PyData.depth, Tm.dp]; omega⟩
      · exact ⟨[.str "and", .tuple da, .tuple db], by simp [Tm.pv, PV.data, PV.dataL, ea, eb], by simp, by simp [PyData.canLayAll0, PyData.canLay0, strOk_of, la, lb], by simp only [PyData.depthAll, PyData.depth, Tm.dp]; omega⟩
  | cmp w a b iha ihb =>
    intro k h; cases k
    · exact h.elim
    · obtain ⟨da, ha⟩ := iha false h.1
      have ea := ha.e
      have la := ha.lay
      have pa := ha.dep
      obtain ⟨db, hb⟩ := ihb false h.2
      have eb := hb.e
      have lb := hb.lay
      have pb := hb.dep
      cases w
      · exact ⟨[.str "less", .tuple da, .tuple db], by simp [Tm.pv, PV.data, PV.dataL, ea, eb], by simp, by simp [PyData.canLayAll0, PyData.canLay0, strOk_of, la, lb], by simp only [PyData.depthAll, PyData.depth, Tm.dp]; omega⟩
      · exact ⟨[.str "same", .tuple da, .tuple db], by simp [Tm.pv, PV.data, PV.dataL, ea, eb], by simp, by simp [PyData.canLayAll0, PyData.canLay0, strOk_of, la, lb], by simp only [PyData.depthAll, PyData.depth, Tm.dp]; omega⟩
  | ar w a b iha ihb =>
    intro k h; cases k
    · obtain ⟨da, ha⟩ := iha false h.1
      have ea := ha.e
      have la := ha.lay
      have pa := ha.dep
      obtain ⟨db, hb⟩ := ihb false h.2
      have eb := hb.e
      have lb := hb.lay
      have pb := hb.dep
      cases w
      · exact ⟨[.str "minus", .tuple da, .tuple db], by simp [Tm.pv, PV.data, PV.dataL, ea, eb], by simp, by simp [PyData.canLayAll0, PyData.canLay0, strOk_of, la, lb], by simp only [PyData.depthAll, PyData.depth, Tm.dp]; omega⟩
      · exact ⟨[.str "plus", .tuple da, .tuple db], by simp [Tm.pv, PV.data, PV.dataL, ea, eb], by simp, by simp [PyData.canLayAll0, PyData.canLay0, strOk_of, la, lb], by simp only [PyData.depthAll, PyData.depth, Tm.dp]; omega⟩
    · exact h.elim
  | ife c a b ihc iha ihb =>
    intro k h; cases k
    · obtain ⟨dc, hc⟩ := ihc true h.1
      have ec := hc.e
      have lc := hc.lay
      have pc := hc.dep
      obtain ⟨da, ha⟩ := iha false h.2.1
      have ea := ha.e
      have la := ha.lay
      have pa := ha.dep
      obtain ⟨db, hb⟩ := ihb false h.2.2
      have eb := hb.e
      have lb := hb.lay
      have pb := hb.dep
      exact ⟨[.str "if", .tuple dc, .tuple da, .tuple db], by simp [Tm.pv, PV.data, PV.dataL, ec, ea, eb], by simp, by simp [PyData.canLayAll0, PyData.canLay0, strOk_of, lc, la, lb], by simp only [PyData.depthAll, PyData.depth, Tm.dp]; omega⟩
    · exact h.elim

theorem shaped_tup {ds : List PyData} (h : PyData.canLayAll0 ds = true) (h2 : PyData.depthAll ds ≤ 60) : SeqAt.shaped (.tuple ds) = true := by
  
  have e1 : PyData.canLay0 (.tuple ds) = true := by simp only [PyData.canLay0, h]
  have e2 : PyData.depth (.tuple ds) = PyData.depthAll ds + 1 := by simp only [PyData.depth]
  simp only [SeqAt.shaped, e1, e2, Bool.true_and, decide_eq_true_eq]; omega
theorem eqP_nil {t : Tm} {ds : List PyData} (h : Dat t ds) (h2 : t.dp ≤ 60) : eqP t.pv (.tup []) = some false := by
  have hs := shaped_tup h.lay (Nat.le_trans h.dep h2)
  have hn : SeqAt.shaped (.tuple []) = true := by decide +kernel
  have he : PV.data (.tup []) = some (.tuple []) := rfl
  have : PyData.eqv (.tuple ds) (.tuple []) = false := by
    cases ds with
    | nil => exact (h.ne rfl).elim
    | cons d ds => rfl
  unfold eqP
  rw [h.e, he]
  simp [hs, hn, this]
theorem eqP_self {t : Tm} {ds : List PyData} (h : Dat t ds) (h2 : t.dp ≤ 60) : eqP t.pv t.pv = some true := by
  have hs := shaped_tup h.lay (Nat.le_trans h.dep h2)
  have := SeqAt.eqv_refl (.tuple ds) (by simpa [PyData.canLay0] using h.lay)
  unfold eqP
  rw [h.e]
  simp [hs, this]
theorem g_isvar (kvs : List (Key × PV)) (x : Str) (n : Nat) (st : Store) (hn : 1 ≤ n) (v : PV) (h : dget kvs (.inr x) = some v) : call T0 n "is_variable" [.dct kvs, .str x] st = .ok (.bl true) st := by
  cases n with
  | zero => omega
  | succ n =>
    rw [c_isvar]; unfold b_is_variable
    simp [Tg.put, wipeE, kvPairs, toKey, iterP, List.replicate, binP, cmpP, isiP, h]
theorem g_isrow (xs : List PV) (n : Nat) (st : Store) (hn : 1 ≤ n) : call T0 n "is_row" [.tup xs] st = .ok (.bl true) st := by
  cases n with
  | zero => omega
  | succ n =>
    rw [c_isrow]; unfold b_is_row
    simp [Tg.put, wipeE, kvPairs, toKey, iterP, List.replicate, binP, cmpP, isiP]
theorem g_isnum (v : Int) (n : Nat) (st : Store) (hn : 1 ≤ n) : call T0 n "is_number" [.int v] st = .ok (.bl (decide (0 ≤ v))) st := by
  cases n with
  | zero => omega
  | succ n =>
    rw [c_isnum]; unfold b_is_number
    simp [Tg.put, wipeE, kvPairs, toKey, iterP, List.replicate, binP, cmpP, isiP]
theorem g_below (v b : Int) (n : Nat) (st : Store) (hn : 2 ≤ n) : call T0 n "is_below" [.int v, .int b] st = .ok (.bl (decide (0 ≤ v) && decide (v < b))) st := by
  cases n with
  | zero => omega
  | succ n =>
    rw [c_below]; unfold b_is_below
    have e := g_isnum v n st (by omega)
    by_cases h : 0 ≤ v <;> simp [Tg.put, wipeE, kvPairs, toKey, iterP, List.replicate, binP, cmpP, isiP, e, h]
theorem all_c {α : Type} (vs : List α) : (vs.all fun _ => true) = true := by induction vs with
  | nil => rfl
  | cons v vs ih => simpa using ih
theorem bools_all (xs : List Int) : boolsP (xs.map ((fun _ => PV.bl true) ∘ PV.int)) = some (xs.map fun _ => true) := by
  induction xs with
  | nil => rfl
  | cons x xs ih => simpa [boolsP] using ih

theorem sound_check (B : Str → Option Int) (kvs : List (Key × PV)) (hV : ∀ x n, B x = some n → dget kvs (.inr x) = some (.int n)) (hB : ∀ x n, B x = some n → PyData.strOk x = true) (st : Store) : ∀ (t : Tm) (n : Nat) (d : Int), t.dp ≤ 60 → (t.dp : Int) ≤ d → t.dp + 3 ≤ n → (t.wf B true → call T0 n "check_condition" [.dct kvs, t.pv, .int d] st = .ok .non st) ∧ (t.wf B false → call T0 n "check_expression" [.dct kvs, t.pv, .int d] st = .ok .non st) := by
  intro t
  induction t with
  | any   => intro n d h6 hd hn; cases n with
    | zero => omega
    | succ n =>
      refine ⟨fun h => ?_, fun h => h.elim⟩
      rw [c_cond]; unfold b_check_condition
      obtain ⟨ds, hD⟩ := pv_data B hB _ true h
      have e0 := eqP_nil hD h6
      have hd0 : ¬ d = 0 := by have : 1 ≤ (Tm.any).dp := by simp [Tm.dp]
                               omega
      simp only [Tm.dp] at hn hd h6
      simp only [Tm.pv] at e0
      simp [Tg.put, wipeE, kvPairs, toKey, iterP, List.replicate, binP, cmpP, isiP, Tm.pv, eqP_str, eqP_int, hd0, b1P, e0]
  | inn x vs  => intro n d h6 hd hn; cases n with
    | zero => omega
    | succ n =>
      refine ⟨fun h => ?_, fun h => h.elim⟩
      rw [c_cond]; unfold b_check_condition
      obtain ⟨ds, hD⟩ := pv_data B hB _ true h
      have e0 := eqP_nil hD h6
      have hd0 : ¬ d = 0 := by have : 1 ≤ (Tm.inn x vs).dp := by simp [Tm.dp]
                               omega
      simp only [Tm.dp] at hn hd h6
      obtain ⟨m, hm, h1, h2, h3⟩ := h
      have hx := hV x m hm
      have hi := g_isvar kvs x n st (by omega) _ hx
      have hr := g_isrow (vs.map .int) n st (by omega)
      simp only [Tm.pv] at e0
      simp [Tg.put, wipeE, kvPairs, toKey, iterP, List.replicate, binP, cmpP, isiP, Tm.pv, eqP_str, eqP_int, hd0, e0, hx, hi, hr, b1P]
      rw [turns_all (fun _ => PV.bl true)]
      · simp [Tg.put, wipeE, kvPairs, toKey, iterP, List.replicate, cmpP, isiP, bools_all, all_c, b1P]
      · intro y hy
        obtain ⟨i, hi2, rfl⟩ := List.mem_map.mp hy
        have hb := g_below i m n st (by omega)
        have q := h1 i hi2
        simp [Tg.put, wipeE, kvPairs, toKey, iterP, List.replicate, binP, cmpP, isiP, hx, hb, q.1, q.2]
  | nt c ihc => intro n d h6 hd hn; cases n with
    | zero => omega
    | succ n =>
      refine ⟨fun h => ?_, fun h => h.elim⟩
      rw [c_cond]; unfold b_check_condition
      obtain ⟨ds, hD⟩ := pv_data B hB _ true h
      have e0 := eqP_nil hD h6
      have hd0 : ¬ d = 0 := by have : 1 ≤ (Tm.nt c).dp := by simp [Tm.dp]
                               omega
      simp only [Tm.dp] at hn hd h6
      have ec := (ihc n (d - 1) (by omega) (by omega) (by omega)).1 h
      simp only [Tm.pv] at e0
      simp [Tg.put, wipeE, kvPairs, toKey, iterP, List.replicate, binP, cmpP, isiP, Tm.pv, eqP_str, eqP_int, hd0, ec, b1P, e0]
  | con k a b iha ihb => intro n d h6 hd hn; cases n with
    | zero => omega
    | succ n =>
      refine ⟨fun h => ?_, fun h => h.elim⟩
      rw [c_cond]; unfold b_check_condition
      obtain ⟨ds, hD⟩ := pv_data B hB _ true h
      have e0 := eqP_nil hD h6
      have hd0 : ¬ d = 0 := by have : 1 ≤ (Tm.con k a b).dp := by simp [Tm.dp]
                               omega
      simp only [Tm.dp] at hn hd h6
      have ea := (iha n (d - 1) (by omega) (by omega) (by omega)).1 h.1
      have eb := (ihb n (d - 1) (by omega) (by omega) (by omega)).1 h.2
      cases k <;> simp only [Tm.pv] at e0 <;> simp [Tg.put, wipeE, kvPairs, toKey, iterP, List.replicate, binP, cmpP, isiP, Tm.pv, eqP_str, eqP_int, hd0, ea, eb, b1P, e0]
  | cmp k a b iha ihb => intro n d h6 hd hn; cases n with
    | zero => omega
    | succ n =>
      refine ⟨fun h => ?_, fun h => h.elim⟩
      rw [c_cond]; unfold b_check_condition
      obtain ⟨ds, hD⟩ := pv_data B hB _ true h
      have e0 := eqP_nil hD h6
      have hd0 : ¬ d = 0 := by have : 1 ≤ (Tm.cmp k a b).dp := by simp [Tm.dp]
                               omega
      simp only [Tm.dp] at hn hd h6
      have ea := (iha n (d - 1) (by omega) (by omega) (by omega)).2 h.1
      have eb := (ihb n (d - 1) (by omega) (by omega) (by omega)).2 h.2
      cases k <;> simp only [Tm.pv] at e0 <;> simp [Tg.put, wipeE, kvPairs, toKey, iterP, List.replicate, binP, cmpP, isiP, Tm.pv, eqP_str, eqP_int, hd0, ea, eb, b1P, e0]
  | num i  => intro n d h6 hd hn; cases n with
    | zero => omega
    | succ n =>
      refine ⟨fun h => h.elim, fun h => ?_⟩
      rw [c_expr]; unfold b_check_expression
      obtain ⟨ds, hD⟩ := pv_data B hB _ false h
      have e0 := eqP_nil hD h6
      have hd0 : ¬ d = 0 := by have : 1 ≤ (Tm.num i).dp := by simp [Tm.dp]
                               omega
      simp only [Tm.dp] at hn hd h6
      have hb := g_below i 10 n st (by omega)
      simp [Tg.put, wipeE, kvPairs, toKey, iterP, List.replicate, binP, cmpP, isiP, Tm.pv, eqP_str, eqP_int, hd0, b1P, hb, h.1, h.2]
  | val x  => intro n d h6 hd hn; cases n with
    | zero => omega
    | succ n =>
      refine ⟨fun h => h.elim, fun h => ?_⟩
      rw [c_expr]; unfold b_check_expression
      obtain ⟨ds, hD⟩ := pv_data B hB _ false h
      have e0 := eqP_nil hD h6
      have hd0 : ¬ d = 0 := by have : 1 ≤ (Tm.val x).dp := by simp [Tm.dp]
                               omega
      simp only [Tm.dp] at hn hd h6
      obtain ⟨m, hm⟩ := h
      have hx := hV x m hm
      have hi := g_isvar kvs x n st (by omega) _ hx
      simp [Tg.put, wipeE, kvPairs, toKey, iterP, List.replicate, binP, cmpP, isiP, Tm.pv, eqP_str, eqP_int, hd0, b1P, hi]
  | ife c a b ihc iha ihb => intro n d h6 hd hn; cases n with
    | zero => omega
    | succ n =>
      refine ⟨fun h => h.elim, fun h => ?_⟩
      rw [c_expr]; unfold b_check_expression
      obtain ⟨ds, hD⟩ := pv_data B hB _ false h
      have e0 := eqP_nil hD h6
      have hd0 : ¬ d = 0 := by have : 1 ≤ (Tm.ife c a b).dp := by simp [Tm.dp]
                               omega
      simp only [Tm.dp] at hn hd h6
      have ec := (ihc n (d - 1) (by omega) (by omega) (by omega)).1 h.1
      have ea := (iha n (d - 1) (by omega) (by omega) (by omega)).2 h.2.1
      have eb := (ihb n (d - 1) (by omega) (by omega) (by omega)).2 h.2.2
      simp [Tg.put, wipeE, kvPairs, toKey, iterP, List.replicate, binP, cmpP, isiP, Tm.pv, eqP_str, eqP_int, hd0, ec, ea, eb, b1P]
  | ar k a b iha ihb => intro n d h6 hd hn; cases n with
    | zero => omega
    | succ n =>
      refine ⟨fun h => h.elim, fun h => ?_⟩
      rw [c_expr]; unfold b_check_expression
      obtain ⟨ds, hD⟩ := pv_data B hB _ false h
      have e0 := eqP_nil hD h6
      have hd0 : ¬ d = 0 := by have : 1 ≤ (Tm.ar k a b).dp := by simp [Tm.dp]
                               omega
      simp only [Tm.dp] at hn hd h6
      have ea := (iha n (d - 1) (by omega) (by omega) (by omega)).2 h.1
      have eb := (ihb n (d - 1) (by omega) (by omega) (by omega)).2 h.2
      cases k <;> simp [Tg.put, wipeE, kvPairs, toKey, iterP, List.replicate, binP, cmpP, isiP, Tm.pv, eqP_str, eqP_int, hd0, ea, eb, b1P]

end PC
set_option autoImplicit true
set_option linter.all false
set_option maxRecDepth 100000
set_option maxHeartbeats 0
namespace PC
open PySem
@[simp] theorem bin_add (i j : Int) : binP .Add (.int i) (.int j) = some (.int (i + j)) := rfl
@[simp] theorem bin_sub (i j : Int) : binP .Sub (.int i) (.int j) = some (.int (i - j)) := rfl
theorem bin_mulR (i j : Int) (h : -(2 ^ 64) < j ∧ j < 2 ^ 64) : binP .Mult (.int i) (.int j) = some (.int (i * j)) := if_pos (Or.inr h)
theorem bin_mulL (i j : Int) (h : -(2 ^ 64) < i ∧ i < 2 ^ 64) : binP .Mult (.int i) (.int j) = some (.int (i * j)) := if_pos (Or.inl h)
theorem bin_fd (i j : Int) (h : 0 < j) (h2 : j < 1073741824) : binP .FloorDiv (.int i) (.int j) = some (.int (i / j)) := if_pos ⟨h, h2⟩
theorem bin_mod (i j : Int) (h : 0 < j) : binP .Mod (.int i) (.int j) = some (.int (i % j)) := if_pos h
theorem bin_pow18 : binP .Pow (.int 10) (.int 18) = some (.int 1000000000000000000) := rfl
theorem c_number (n : Nat) (a b : PV) (st : Store) : call T0 (n+1) "_law_number" [a, b] st = endR (evB (call T0 n) b__law_number [some (.val a), some (.val b), none, none, none, none, none] st) := rfl
theorem c_take (n : Nat) (a b : PV) (st : Store) : call T0 (n+1) "_law_take" [a, b] st = endR (evB (call T0 n) b__law_take [some (.val a), some (.val b)] st) := rfl
theorem c_pick (n : Nat) (a b : PV) (st : Store) : call T0 (n+1) "_law_pick" [a, b] st = endR (evB (call T0 n) b__law_pick [some (.val a), some (.val b)] st) := rfl
theorem c_lexpr (n : Nat) (a b c : PV) (st : Store) : call T0 (n+1) "_law_expression" [a, b, c] st = endR (evB (call T0 n) b__law_expression [some (.val a), some (.val b), some (.val c), none] st) := rfl
theorem c_lcond (n : Nat) (a b c : PV) (st : Store) : call T0 (n+1) "_law_condition" [a, b, c] st = endR (evB (call T0 n) b__law_condition [some (.val a), some (.val b), some (.val c), none, none, none] st) := rfl
theorem eqP_lst0 (sc : List Int) : eqP (.lst (sc.map .int)) (.lst []) = some (decide (sc = [])) := by
  have e1 : PV.data (.lst (sc.map .int)) = some (.list (sc.map .int)) := by simp [PV.data, dataL_ints]
  have e2 : PV.data (.lst []) = some (.list []) := rfl
  have s1 : SeqAt.shaped (.list (sc.map .int)) = true := by
    simp [SeqAt.shaped, PyData.canLay0, lay_ints, PyData.depth, dep_ints]
  have s2 : SeqAt.shaped (.list []) = true := by decide +kernel
  have e3 : PyData.eqv (.list (sc.map .int)) (.list []) = decide (sc = []) := by
    cases sc with
    | nil => rfl
    | cons a r => rfl
  unfold eqP
  rw [e1, e2]; simp [s1, s2, e3]
theorem at_ints (st : Store) (sc : List Int) (i : Int) (h : 0 ≤ i) (h2 : i < sc.length) : ∃ v, subP st (.lst (sc.map .int)) (.int i) = some (.int v) := by
  have h3 : i.toNat < sc.length := by omega
  refine ⟨sc[i.toNat], ?_⟩
  show atP _ _ = _
  unfold atP
  rw [if_pos h, if_pos (by simpa using h2)]
  simp [h3]
theorem len_lst (xs : List PV) : b1P .len (.lst xs) = some (.int xs.length) := rfl
theorem b1_int (i : Int) : b1P .int (.int i) = some (.int i) := rfl
def CB.tl : CB → CB
  | .cons _ r => r
  | .nil => .nil
/-- behind the first two rows of the number -/
def nt2 : CB := b__law_number.tl.tl
theorem g_nt2 (sc : List Int) (ix cell turn rest : Int) (ht : 0 ≤ turn) (n : Nat) (st : Store) : ∃ r : Int, 0 ≤ r ∧ endR (evB (call T0 n) nt2 [some (.val (.lst (sc.map .int))), some (.val (.int ix)), some (.val (.int cell)), some (.val (.int turn)), some (.val (.int rest)), none, none] st) = .ok (.int r) st := by
  rw [show nt2 = .cons _ (.cons _ (.cons _ (.cons _ (.cons _ .nil)))) from rfl]
  have hm2 : -4611686018427387904 ≤ turn % 60 ∧ turn % 60 ≤ 16777216 := by omega
  obtain ⟨ρ2, st2, e, ⟨r2, o2, rfl⟩, he⟩ := forF_inv (put := (Tg.one 5).put) (body := evB (call T0 n) (CB.cons (.set 4 (.bin .FloorDiv (.var 4) (.con (.int 1009)))) .nil)) (fun ρ s => (∃ (r : Int) (o : Option Slot), ρ = [some (.val (.lst (sc.map .int))), some (.val (.int ix)), some (.val (.int cell)), some (.val (.int turn)), some (.val (.int r)), o, none]) ∧ s = st)
    (List.map (fun (i : Nat) => PV.int (i : Int)) (List.range (turn % 60).toNat)) [some (.val (.lst (sc.map .int))), some (.val (.int ix)), some (.val (.int cell)), some (.val (.int turn)), some (.val (.int rest)), none, none] st ⟨⟨rest, none, rfl⟩, rfl⟩ (by
      intro x hx2 ρ s hP
      obtain ⟨⟨r, o, rfl⟩, rfl⟩ := hP
      refine ⟨_, _, _, rfl, ?_, ⟨r / 1009, some (.val x), rfl⟩, rfl⟩
      simp [Tg.put, wipeE, kvPairs, toKey, iterP, List.replicate, cmpP, isiP, bin_fd])
  subst he
  by_cases hp : 0 < r2
  · refine ⟨r2 % 1009, by omega, ?_⟩
    simp [Tg.put, wipeE, kvPairs, toKey, iterP, List.replicate, cmpP, isiP, b1_int, bin_mod, hm2, e, hp]
  · refine ⟨((((cell + 977 * ix) * 48271 + 31 * (sc.length : Int)) % 2147483647 * (((cell + 977 * ix) * 48271 + 31 * (sc.length : Int)) % 2147483647) + 40503 * ix) % 2147483629 * 69621 + (((cell + 977 * ix) * 48271 + 31 * (sc.length : Int)) % 2147483647 * (((cell + 977 * ix) * 48271 + 31 * (sc.length : Int)) % 2147483647) + 40503 * ix) % 2147483629 / 977) % 2147483587, Int.emod_nonneg _ (by decide), ?_⟩
    · have h0 := Int.emod_nonneg ((cell + 977 * ix) * 48271 + 31 * (sc.length : Int)) (by decide : (2147483647 : Int) ≠ 0)
      have h1 := Int.emod_lt_of_pos ((cell + 977 * ix) * 48271 + 31 * (sc.length : Int)) (by decide : (0 : Int) < 2147483647)
      have hb := bin_mulL (((cell + 977 * ix) * 48271 + 31 * (sc.length : Int)) % 2147483647) (((cell + 977 * ix) * 48271 + 31 * (sc.length : Int)) % 2147483647) ⟨by omega, by omega⟩
      simp [Tg.put, wipeE, kvPairs, toKey, iterP, List.replicate, cmpP, isiP, b1_int, bin_mod, hm2, e, hp, bin_mulL, bin_mulR, len_lst, bin_fd, hb]
theorem g_number (sc : List Int) (hl : sc.length ≤ 63) (ix : Int) (hx : 0 ≤ ix) (n : Nat) (hn : 1 ≤ n) (st : Store) : ∃ r : Int, 0 ≤ r ∧ call T0 n "_law_number" [.lst (sc.map .int), .int ix] st = .ok (.int r) st := by
  cases n with
  | zero => omega
  | succ n =>
  rw [c_number]
  by_cases hs : sc = []
  · obtain ⟨r, hr, e⟩ := g_nt2 sc ix 12345 0 (-999999999999987655) (by decide) n st
    refine ⟨r, hr, ?_⟩
    rw [show b__law_number = .cons _ (.cons _ nt2) from rfl]
    rw [hs] at e ⊢
    have q := eqP_lst0 []
    simp only [List.map_nil] at q e ⊢
    simp [Tg.put, wipeE, kvPairs, toKey, iterP, List.replicate, cmpP, isiP, q, bin_pow18]
    exact e
  · have hp : (0 : Int) < sc.length := by
      have : 0 < sc.length := List.length_pos_iff.mpr hs
      omega
    obtain ⟨cell, hc⟩ := at_ints st sc (ix % sc.length) (Int.emod_nonneg _ (by omega)) (Int.emod_lt_of_pos _ hp)
    have ht : 0 ≤ ix / sc.length := Int.ediv_nonneg hx (by omega)
    by_cases h6 : ix / (sc.length : Int) < 60
    · obtain ⟨r, hr, e⟩ := g_nt2 sc ix cell (ix / sc.length) (cell - 1000000000000000000) ht n st
      refine ⟨r, hr, ?_⟩
      rw [show b__law_number = .cons _ (.cons _ nt2) from rfl]
      have m1 := bin_mod ix sc.length hp
      have m2 := bin_fd ix sc.length hp (by omega)
      simp [Tg.put, wipeE, kvPairs, toKey, iterP, List.replicate, cmpP, isiP, eqP_lst0, hs, len_lst, m1, m2, hc, h6, bin_pow18]
      exact e
    · obtain ⟨r, hr, e⟩ := g_nt2 sc ix cell (ix / sc.length) 0 ht n st
      refine ⟨r, hr, ?_⟩
      rw [show b__law_number = .cons _ (.cons _ nt2) from rfl]
      have m1 := bin_mod ix sc.length hp
      have m2 := bin_fd ix sc.length hp (by omega)
      simp [Tg.put, wipeE, kvPairs, toKey, iterP, List.replicate, cmpP, isiP, eqP_lst0, hs, len_lst, m1, m2, hc, h6, bin_pow18]
      exact e
end PC
set_option autoImplicit true
set_option linter.all false
set_option maxRecDepth 100000
set_option maxHeartbeats 0
namespace PC
open PySem
/-- the draw: the script and how many were drawn -/
def D (sc : List Int) (c : Int) : Store := [[.lst (sc.map .int), .int c]]
theorem D_0 (sc : List Int) (c : Int) : subP (D sc c) (.rf 0) (.int 0) = some (.lst (sc.map .int)) := rfl
theorem D_1 (sc : List Int) (c : Int) : subP (D sc c) (.rf 0) (.int 1) = some (.int c) := rfl
theorem D_up (sc : List Int) (c : Int) (ρ : Env) : rfK ρ (D sc c) 0 1 (fun st => .ok (.int 1) st) = .nx ρ (D sc (c + 1)) := rfl
theorem g_take (sc : List Int) (hl : sc.length ≤ 63) (c : Int) (hc : 0 ≤ c) (many : Int) (hm : 0 < many) (n : Nat) (hn : 2 ≤ n) : ∃ v : Int, 0 ≤ v ∧ v < many ∧ call T0 n "_law_take" [.rf 0, .int many] (D sc c) = .ok (.int v) (D sc (c + 1)) := by
  cases n with
  | zero => omega
  | succ n =>
  obtain ⟨r, hr, e⟩ := g_number sc hl (c + 1) (by omega) n (by omega) (D sc (c + 1))
  refine ⟨r % many, Int.emod_nonneg _ (by omega), Int.emod_lt_of_pos _ hm, ?_⟩
  rw [c_take]; unfold b__law_take
  simp [Tg.put, wipeE, kvPairs, toKey, iterP, List.replicate, cmpP, isiP, D_up, D_0, D_1, b1_int, e, bin_mod, hm]
theorem g_pick (sc : List Int) (hl : sc.length ≤ 63) (c : Int) (hc : 0 ≤ c) (xs : List PV) (hx : xs ≠ []) (n : Nat) (hn : 3 ≤ n) : ∃ x ∈ xs, call T0 n "_law_pick" [.rf 0, .lst xs] (D sc c) = .ok x (D sc (c + 1)) := by
  cases n with
  | zero => omega
  | succ n =>
  have hp : (0 : Int) < xs.length := by
    have : 0 < xs.length := List.length_pos_iff.mpr hx
    omega
  obtain ⟨v, h0, h1, e⟩ := g_take sc hl c hc xs.length hp n (by omega)
  have h3 : v.toNat < xs.length := by omega
  refine ⟨xs[v.toNat], List.getElem_mem h3, ?_⟩
  rw [c_pick]; unfold b__law_pick
  have q : subP (D sc (c + 1)) (.lst xs) (.int v) = some xs[v.toNat] := by
    show atP _ _ = _
    unfold atP
    rw [if_pos h0, if_pos h1]
    simp [h3]
  simp [Tg.put, wipeE, kvPairs, toKey, iterP, List.replicate, cmpP, isiP, len_lst, e, q]
theorem turns_thin {sc : List Int} {f : PV → Store → R (Option PV)} : ∀ (xs : List PV), (∀ x ∈ xs, ∀ c : Int, 0 ≤ c → ∃ (b : Bool) (c2 : Int), 0 ≤ c2 ∧ f x (D sc c) = .ok (if b then some x else none) (D sc c2)) → ∀ c : Int, 0 ≤ c → ∃ (ys : List PV) (c2 : Int), ys.Sublist xs ∧ 0 ≤ c2 ∧ turns f xs (D sc c) = .ok ys (D sc c2)
  | [], _, c, hc => ⟨[], c, List.Sublist.slnil, hc, rfl⟩
  | x :: xs, h, c, hc => by
    obtain ⟨b, c2, hc2, e⟩ := h x (by simp) c hc
    obtain ⟨ys, c3, hs, hc3, e2⟩ := turns_thin xs (fun y hy => h y (by simp [hy])) c2 hc2
    cases b
    · exact ⟨ys, c3, hs.cons x, hc3, by rw [turns_cons, e]; simp [e2]⟩
    · exact ⟨x :: ys, c3, hs.cons_cons x, hc3, by rw [turns_cons, e]; simp [e2]⟩
/-- the variables -/
structure VB (B : Str → Option Int) (kvs : List (Key × PV)) (ns : List Str) : Prop where
  get : ∀ x n, B x = some n → dget kvs (.inr x) = some (.int n)
  srt : b1P .sorted (.dct kvs) = some (.lst (ns.map .str))
  ne : ns ≠ []
  inn : ∀ x ∈ ns, ∃ m, B x = some m
  bnd : ∀ x n, B x = some n → 1 ≤ n ∧ n ≤ 60
theorem g_pickN {B kvs ns} (V : VB B kvs ns) (sc : List Int) (hl : sc.length ≤ 63) (c : Int) (hc : 0 ≤ c) (n : Nat) (hn : 3 ≤ n) : ∃ x m, B x = some m ∧ call T0 n "_law_pick" [.rf 0, .lst (ns.map .str)] (D sc c) = .ok (.str x) (D sc (c + 1)) := by
  obtain ⟨x, hx, e⟩ := g_pick sc hl c hc (ns.map PV.str) (by simpa using V.ne) n hn
  obtain ⟨y, hy, rfl⟩ := List.mem_map.mp hx
  obtain ⟨m, hm⟩ := V.inn y hy
  exact ⟨y, m, hm, e⟩
theorem asc_range (l : List Nat) (m : Nat) (h : l.Sublist (List.range m)) : (l.map fun (i : Nat) => (i : Int)).Pairwise (· < ·) := by
  have h1 : (List.range m).Pairwise (· < ·) := List.pairwise_lt_range
  have h2 := List.Pairwise.sublist h h1
  rw [List.pairwise_map]
  exact h2.imp fun hab => by omega
theorem g_eleaf {B kvs ns} (V : VB B kvs ns) (sc : List Int) (hl : sc.length ≤ 63) (d k c : Int) (n : Nat) (hc : 0 ≤ c) (hn : 3 ≤ n) (hd : d = 0 ∨ k < 3) (e : call T0 n "_law_take" [.rf 0, .int 6] (D sc c) = .ok (.int k) (D sc (c + 1))) :
    ∃ (t : Tm) (c2 : Int), 0 ≤ c2 ∧ t.wf B false ∧ t.dp ≤ 1 ∧ call T0 (n + 1) "_law_expression" [.rf 0, .dct kvs, .int d] (D sc c) = .ok t.pv (D sc c2) := by
  by_cases hk : 0 < k
  · obtain ⟨x, m, hm, e2⟩ := g_pickN V sc hl (c + 1) (by omega) n (by omega)
    refine ⟨.val x, c + 1 + 1, by omega, ⟨m, hm⟩, by simp [Tm.dp], ?_⟩
    rw [c_lexpr]; unfold b__law_expression
    rcases hd with h | h
    · simp [Tg.put, wipeE, kvPairs, toKey, iterP, List.replicate, cmpP, isiP, e, eqP_int, hk, V.srt, e2, Tm.pv, h]
    · by_cases h0 : d = 0 <;> simp [Tg.put, wipeE, kvPairs, toKey, iterP, List.replicate, cmpP, isiP, e, eqP_int, hk, V.srt, e2, Tm.pv, h, h0]
  · obtain ⟨v, v0, v1, e2⟩ := g_take sc hl (c + 1) (by omega) 3 (by decide) n (by omega)
    refine ⟨.num v, c + 1 + 1, by omega, ⟨by omega, by omega⟩, by simp [Tm.dp], ?_⟩
    rw [c_lexpr]; unfold b__law_expression
    rcases hd with h | h
    · simp [Tg.put, wipeE, kvPairs, toKey, iterP, List.replicate, cmpP, isiP, e, eqP_int, hk, V.srt, e2, Tm.pv, h]
    · by_cases h0 : d = 0 <;> simp [Tg.put, wipeE, kvPairs, toKey, iterP, List.replicate, cmpP, isiP, e, eqP_int, hk, V.srt, e2, Tm.pv, h, h0]
theorem g_cleaf {B kvs ns} (V : VB B kvs ns) (sc : List Int) (hl : sc.length ≤ 63) (d k c : Int) (n : Nat) (hc : 0 ≤ c) (hn : 3 ≤ n) (hd : d = 0 ∨ k < 4) (e : call T0 n "_law_take" [.rf 0, .int 9] (D sc c) = .ok (.int k) (D sc (c + 1))) :
    ∃ (t : Tm) (c2 : Int), 0 ≤ c2 ∧ t.wf B true ∧ t.dp ≤ 1 ∧ call T0 (n + 1) "_law_condition" [.rf 0, .dct kvs, .int d] (D sc c) = .ok t.pv (D sc c2) := by
  obtain ⟨x, m, hm, e2⟩ := g_pickN V sc hl (c + 1) (by omega) n (by omega)
  by_cases hk : 0 < k
  · have hb := V.bnd x m hm
    obtain ⟨ys, c3, hs, hc3, e3⟩ := turns_thin (sc := sc) (f := lcF (call T0 n) [5] (.one 5) (.some (.cmp .Eq (.call "_law_take" (.cons (.var 0) (.cons (.con (.int 2)) .nil))) (.con (.int 0)))) (.var 5) [some (.val (.rf 0)), some (.val (.dct kvs)), some (.val (.int d)), some (.val (.int k)), some (.val (.str x)), none])
      (List.map (fun (i : Nat) => PV.int (i : Int)) (List.range m.toNat)) (by
        intro y hy c4 hc4
        obtain ⟨i, hi, rfl⟩ := List.mem_map.mp hy
        obtain ⟨v, v0, v1, e4⟩ := g_take sc hl c4 hc4 2 (by decide) n (by omega)
        by_cases hv : v = 0
        · exact ⟨true, c4 + 1, by omega, by simp [Tg.put, wipeE, kvPairs, toKey, iterP, List.replicate, cmpP, isiP, e4, eqP_int, hv]⟩
        · exact ⟨false, c4 + 1, by omega, by simp [Tg.put, wipeE, kvPairs, toKey, iterP, List.replicate, cmpP, isiP, e4, eqP_int, hv]⟩) (c + 1 + 1) (by omega)
    obtain ⟨l, hl2, rfl⟩ := List.sublist_map_iff.mp hs
    have hy : l.map (fun (i : Nat) => PV.int (i : Int)) = (l.map fun (i : Nat) => (i : Int)).map PV.int := by rw [List.map_map]; rfl
    rw [hy] at e3
    refine ⟨.inn x (l.map fun (i : Nat) => (i : Int)), c3, hc3, ⟨m, hm, ?_, asc_range l _ hl2, ?_⟩, by simp [Tm.dp], ?_⟩
    · intro v hv
      obtain ⟨i, hi, rfl⟩ := List.mem_map.mp hv
      have := List.mem_range.mp (hl2.subset hi)
      omega
    · have := hl2.length_le
      rw [List.length_range] at this
      rw [List.length_map]; omega
    · rw [c_lcond]; unfold b__law_condition
      have hx := V.get x m hm
      have hr : -4611686018427387904 ≤ m ∧ m ≤ 16777216 := by omega
      rcases hd with h | h
      · subst h
        simp [Tg.put, wipeE, kvPairs, toKey, iterP, List.replicate, cmpP, isiP, e, eqP_int, hk, V.srt, e2, Tm.pv, hx, hr]
        rw [e3]
        simp [b1P]
      · by_cases h0 : d = 0
        · subst h0
          simp [Tg.put, wipeE, kvPairs, toKey, iterP, List.replicate, cmpP, isiP, e, eqP_int, hk, V.srt, e2, Tm.pv, hx, hr]
          rw [e3]
          simp [b1P]
        · simp [Tg.put, wipeE, kvPairs, toKey, iterP, List.replicate, cmpP, isiP, e, eqP_int, hk, V.srt, e2, Tm.pv, h, h0, hx, hr]
          rw [e3]
          simp [b1P]
  · refine ⟨.any, c + 1 + 1, by omega, trivial, by simp [Tm.dp], ?_⟩
    rw [c_lcond]; unfold b__law_condition
    rcases hd with h | h
    · simp [Tg.put, wipeE, kvPairs, toKey, iterP, List.replicate, cmpP, isiP, e, eqP_int, hk, V.srt, e2, Tm.pv, h]
    · by_cases h0 : d = 0 <;> simp [Tg.put, wipeE, kvPairs, toKey, iterP, List.replicate, cmpP, isiP, e, eqP_int, hk, V.srt, e2, Tm.pv, h, h0]
theorem g_draw {B kvs ns} (V : VB B kvs ns) (sc : List Int) (hl : sc.length ≤ 63) : ∀ (d n : Nat) (c : Int), 0 ≤ c → d + 4 ≤ n →
    (∃ (t : Tm) (c2 : Int), 0 ≤ c2 ∧ t.wf B false ∧ t.dp ≤ d + 1 ∧ call T0 n "_law_expression" [.rf 0, .dct kvs, .int d] (D sc c) = .ok t.pv (D sc c2)) ∧
    (∃ (t : Tm) (c2 : Int), 0 ≤ c2 ∧ t.wf B true ∧ t.dp ≤ d + 1 ∧ call T0 n "_law_condition" [.rf 0, .dct kvs, .int d] (D sc c) = .ok t.pv (D sc c2)) := by
  intro d
  induction d with
  | zero =>
    intro n c hc hn
    cases n with
    | zero => omega
    | succ n =>
    constructor
    · obtain ⟨k, k0, k1, e⟩ := g_take sc hl c hc 6 (by decide) n (by omega)
      exact g_eleaf V sc hl 0 k c n hc (by omega) (Or.inl rfl) e
    · obtain ⟨k, k0, k1, e⟩ := g_take sc hl c hc 9 (by decide) n (by omega)
      exact g_cleaf V sc hl 0 k c n hc (by omega) (Or.inl rfl) e
  | succ d ih =>
    intro n c hc hn
    cases n with
    | zero => omega
    | succ n =>
    have hz : ¬ ((d : Int) + 1 = 0) := by omega
    have hz2 : ((d : Int) + 1 - 1) = d := by omega
    constructor
    · obtain ⟨k, k0, k1, e⟩ := g_take sc hl c hc 6 (by decide) n (by omega)
      by_cases h3 : k < 3
      · obtain ⟨t, c2, q1, q2, q3, q4⟩ := g_eleaf V sc hl ((d + 1 : Nat) : Int) k c n hc (by omega) (Or.inr h3) e
        exact ⟨t, c2, q1, q2, by omega, q4⟩
      · by_cases h5 : k = 5
        · obtain ⟨t1, c1, p1, w1, d1, e1⟩ := (ih n (c + 1) (by omega) (by omega)).2
          obtain ⟨t2, c2, p2, w2, d2, e2⟩ := (ih n c1 p1 (by omega)).1
          obtain ⟨t3, c3, p3, w3, d3, e3⟩ := (ih n c2 p2 (by omega)).1
          refine ⟨.ife t1 t2 t3, c3, p3, ⟨w1, w2, w3⟩, by simp only [Tm.dp]; omega, ?_⟩
          rw [c_lexpr]; unfold b__law_expression
          simp [Tg.put, wipeE, kvPairs, toKey, iterP, List.replicate, cmpP, isiP, e, eqP_int, hz, hz2, h5, e1, e2, e3, Tm.pv]
        · obtain ⟨t2, c2, p2, w2, d2, e2⟩ := (ih n (c + 1) (by omega) (by omega)).1
          obtain ⟨t3, c3, p3, w3, d3, e3⟩ := (ih n c2 p2 (by omega)).1
          have hk : k = 3 ∨ k = 4 := by omega
          rcases hk with rfl | rfl
          · refine ⟨.ar true t2 t3, c3, p3, ⟨w2, w3⟩, by simp only [Tm.dp]; omega, ?_⟩
            rw [c_lexpr]; unfold b__law_expression
            simp [Tg.put, wipeE, kvPairs, toKey, iterP, List.replicate, cmpP, isiP, e, eqP_int, hz, hz2, e2, e3, Tm.pv]
          · refine ⟨.ar false t2 t3, c3, p3, ⟨w2, w3⟩, by simp only [Tm.dp]; omega, ?_⟩
            rw [c_lexpr]; unfold b__law_expression
            simp [Tg.put, wipeE, kvPairs, toKey, iterP, List.replicate, cmpP, isiP, e, eqP_int, hz, hz2, e2, e3, Tm.pv]
    · obtain ⟨k, k0, k1, e⟩ := g_take sc hl c hc 9 (by decide) n (by omega)
      by_cases h3 : k < 4
      · obtain ⟨t, c2, q1, q2, q3, q4⟩ := g_cleaf V sc hl ((d + 1 : Nat) : Int) k c n hc (by omega) (Or.inr h3) e
        exact ⟨t, c2, q1, q2, by omega, q4⟩
      · obtain ⟨x, m, hm, ex⟩ := g_pickN V sc hl (c + 1) (by omega) n (by omega)
        by_cases h5 : k = 4
        · obtain ⟨t1, c1, p1, w1, d1, e1⟩ := (ih n (c + 1 + 1) (by omega) (by omega)).2
          refine ⟨.nt t1, c1, p1, w1, by simp only [Tm.dp]; omega, ?_⟩
          rw [c_lcond]; unfold b__law_condition
          simp [Tg.put, wipeE, kvPairs, toKey, iterP, List.replicate, cmpP, isiP, e, eqP_int, hz, hz2, h5, e1, V.srt, ex, Tm.pv]
        · by_cases h7 : k < 7
          · obtain ⟨t2, c2, p2, w2, d2, e2⟩ := (ih n (c + 1 + 1) (by omega) (by omega)).2
            obtain ⟨t3, c3, p3, w3, d3, e3⟩ := (ih n c2 p2 (by omega)).2
            have hk : k = 5 ∨ k = 6 := by omega
            rcases hk with rfl | rfl
            · refine ⟨.con true t2 t3, c3, p3, ⟨w2, w3⟩, by simp only [Tm.dp]; omega, ?_⟩
              rw [c_lcond]; unfold b__law_condition
              simp [Tg.put, wipeE, kvPairs, toKey, iterP, List.replicate, cmpP, isiP, e, eqP_int, hz, hz2, V.srt, ex, e2, e3, Tm.pv]
            · refine ⟨.con false t2 t3, c3, p3, ⟨w2, w3⟩, by simp only [Tm.dp]; omega, ?_⟩
              rw [c_lcond]; unfold b__law_condition
              simp [Tg.put, wipeE, kvPairs, toKey, iterP, List.replicate, cmpP, isiP, e, eqP_int, hz, hz2, V.srt, ex, e2, e3, Tm.pv]
          · obtain ⟨t2, c2, p2, w2, d2, e2⟩ := (ih n (c + 1 + 1) (by omega) (by omega)).1
            obtain ⟨t3, c3, p3, w3, d3, e3⟩ := (ih n c2 p2 (by omega)).1
            have hk : k = 7 ∨ k = 8 := by omega
            rcases hk with rfl | rfl
            · refine ⟨.cmp true t2 t3, c3, p3, ⟨w2, w3⟩, by simp only [Tm.dp]; omega, ?_⟩
              rw [c_lcond]; unfold b__law_condition
              simp [Tg.put, wipeE, kvPairs, toKey, iterP, List.replicate, cmpP, isiP, e, eqP_int, hz, hz2, V.srt, ex, e2, e3, Tm.pv]
            · refine ⟨.cmp false t2 t3, c3, p3, ⟨w2, w3⟩, by simp only [Tm.dp]; omega, ?_⟩
              rw [c_lcond]; unfold b__law_condition
              simp [Tg.put, wipeE, kvPairs, toKey, iterP, List.replicate, cmpP, isiP, e, eqP_int, hz, hz2, V.srt, ex, e2, e3, Tm.pv]
end PC
set_option autoImplicit true
set_option linter.all false
set_option maxRecDepth 100000
set_option maxHeartbeats 0
namespace PC
open PySem
def pk (ps : List (Str × Int)) : List (Key × PV) := ps.map fun p => (.inr p.1, .int p.2)
def lkp (ps : List (Str × Int)) (x : Str) : Option Int := (ps.find? fun p => decide (p.1 = x)).map (·.2)
theorem dget_pk (ps : List (Str × Int)) (x : Str) : dget (pk ps) (.inr x) = (lkp ps x).map .int := by
  induction ps with
  | nil => rfl
  | cons p ps ih =>
    unfold dget pk lkp at *
    by_cases h : p.1 = x
    · simp [h]
    · simp [h] at ih ⊢
      exact ih
theorem dput_new (acc : List (Key × PV)) (k : Key) (v : PV) (h : k ∉ acc.map (·.1)) : dput acc k v = acc ++ [(k, v)] := by
  unfold dput
  rw [if_neg]
  simp only [List.any_eq_true, decide_eq_true_eq, not_exists, not_and]
  intro x hx e
  exact h (List.mem_map.mpr ⟨x, hx, e⟩)
theorem dmerge_new : ∀ (kvs acc : List (Key × PV)), ((acc ++ kvs).map (·.1)).Nodup → dmerge acc kvs = acc ++ kvs
  | [], acc, _ => by simp [dmerge]
  | p :: kvs, acc, h => by
    have e : dmerge acc (p :: kvs) = dmerge (dput acc p.1 p.2) kvs := rfl
    have h1 : p.1 ∉ acc.map (·.1) := by
      rw [List.map_append, List.nodup_append] at h
      intro hm
      exact h.2.2 _ hm _ (by simp) rfl
    rw [e, dput_new _ _ _ h1, dmerge_new kvs (acc ++ [(p.1, p.2)]) (by simpa using h)]
    simp
theorem dmerge_pk (ps : List (Str × Int)) (h : (ps.map (·.1)).Nodup) : dmerge [] (pk ps) = pk ps := by
  rw [dmerge_new]
  · rfl
  · have : (pk ps).map (·.1) = (ps.map (·.1)).map Sum.inr := by simp [pk]
    rw [List.nil_append, this]
    exact List.Pairwise.map _ (fun a b hab e => hab (by injection e)) h
theorem lkp_some (ps : List (Str × Int)) (x : Str) : (∃ m, lkp ps x = some m) ↔ x ∈ ps.map (·.1) := by
  induction ps with
  | nil => simp [lkp]
  | cons p ps ih =>
    unfold lkp at *
    by_cases h : p.1 = x
    · simp [h]
    · simp [h] at ih ⊢
      rw [ih]
      constructor
      · exact Or.inr
      · rintro (h2 | h2)
        · exact (h h2.symm).elim
        · exact h2
theorem tells_row (nv ps : List (Str × Int)) (h : ps.map (·.1) = nv.map (·.1)) : Tells (lkp nv) (pk ps) (fun x => (lkp ps x).getD 0) := by
  intro x n hx
  have : x ∈ ps.map (·.1) := by rw [h]; exact (lkp_some nv x).mp ⟨n, hx⟩
  obtain ⟨m, hm⟩ := (lkp_some ps x).mpr this
  rw [dget_pk, hm]
  simp [hm]
/-! ### all_of -/
def allT : List Tm → Tm
  | [] => .any
  | [a] => a
  | [a, b] => .con true a b
  | a :: b :: c :: _ => .con true (.con true a b) c
theorem c_allof (n : Nat) (a : PV) (st : Store) : call T0 (n+1) "all_of" [a] st = endR (evB (call T0 n) b_all_of [some (.val a), none, none, none] st) := rfl
theorem c_state (n : Nat) (a b : PV) (st : Store) : call T0 (n+1) "state_term" [a, b] st = endR (evB (call T0 n) b_state_term [some (.val a), some (.val b), none, none] st) := rfl
theorem c_states (n : Nat) (a : PV) (st : Store) : call T0 (n+1) "_law_states" [a] st = endR (evB (call T0 n) b__law_states [some (.val a), none, none, none, none, none] st) := rfl
theorem c_values (n : Nat) (a b : PV) (st : Store) : call T0 (n+1) "_law_values" [a, b] st = endR (evB (call T0 n) b__law_values [some (.val a), some (.val b)] st) := rfl
theorem rg1 : List.range 1 = [0] := rfl
theorem rg2 : List.range 2 = [0, 1] := rfl
theorem rg3 : List.range 3 = [0, 1, 2] := rfl
theorem g_allof (ts : List Tm) (h : ts.length ≤ 3) (n : Nat) (hn : 1 ≤ n) (st : Store) : call T0 n "all_of" [.lst (ts.map Tm.pv)] st = .ok (allT ts).pv st := by
  cases n with
  | zero => omega
  | succ n =>
  rw [c_allof]; unfold b_all_of
  match ts, h with
  | [], _ => simp [Tg.put, wipeE, kvPairs, toKey, iterP, List.replicate, cmpP, isiP, allT, Tm.pv]
  | [a], _ => simp [Tg.put, wipeE, kvPairs, toKey, iterP, List.replicate, cmpP, isiP, allT, Tm.pv, rg1, eqP_int]
  | [a, b], _ => simp [Tg.put, wipeE, kvPairs, toKey, iterP, List.replicate, cmpP, isiP, allT, Tm.pv, rg2, eqP_int]
  | [a, b, c], _ => simp [Tg.put, wipeE, kvPairs, toKey, iterP, List.replicate, cmpP, isiP, allT, Tm.pv, rg3, eqP_int]
theorem g_values (told vars : List (Key × PV)) (ht : dget told (.inr "variables") = some (.dct vars)) (ns : List Str) (hs : b1P .sorted (.dct vars) = some (.lst (ns.map .str))) (row : List Int) (hd : ns.Nodup) (hl : row.length = ns.length) (n : Nat) (hn : 1 ≤ n) (st : Store) :
    call T0 n "_law_values" [.dct told, .tup (row.map .int)] st = .ok (.dct (pk (ns.zip row))) st := by
  cases n with
  | zero => omega
  | succ n =>
  rw [c_values]; unfold b__law_values
  have e : b2P .zipDict (.lst (ns.map .str)) (.tup (row.map .int)) = some (.dct (pk (ns.zip row))) := by
    show (match strsP (ns.map .str) with
      | some ss => some (PV.dct (dmerge [] ((ss.map Sum.inr).zip (row.map .int))))
      | none => none) = _
    rw [strsP_map]
    have e1 : (ns.map Sum.inr).zip (row.map PV.int) = pk (ns.zip row) := by
      rw [List.zip_map]; rfl
    have e2 : (ns.zip row).map (·.1) = ns := by
      rw [List.map_fst_zip (by omega)]
    show some (PV.dct (dmerge [] ((ns.map Sum.inr).zip (row.map PV.int)))) = _
    rw [e1, dmerge_pk _ (by rw [e2]; exact hd)]
  simp [Tg.put, wipeE, kvPairs, toKey, iterP, List.replicate, cmpP, isiP, ht, hs, e]
theorem g_state (vars : List (Key × PV)) (ns : List Str) (hs : b1P .sorted (.dct vars) = some (.lst (ns.map .str))) (row : List Int) (hl : row.length = ns.length) (h3 : ns.length ≤ 3) (n : Nat) (hn : 2 ≤ n) (st : Store) :
    call T0 n "state_term" [.dct vars, .tup (row.map .int)] st = .ok (allT ((ns.zip row).map fun p => .inn p.1 [p.2])).pv st := by
  cases n with
  | zero => omega
  | succ n =>
  rw [c_state]; unfold b_state_term
  have e := g_allof ((ns.zip row).map fun p => .inn p.1 [p.2]) (by simp; omega) n (by omega) st
  have q : ((ns.zip row).map fun p => Tm.inn p.1 [p.2]).map Tm.pv = List.zipWith (fun x y => .tup [.str "in", .str x, .tup [.int y]]) ns row := by
    rw [List.map_map, List.zip, List.map_zipWith]
    rfl
  rw [q] at e
  simp [Tg.put, wipeE, kvPairs, toKey, iterP, List.replicate, cmpP, isiP, hs]
  rw [turns_all (fun x => match x with | .tup [a, b] => .tup [.str "in", a, .tup [b]] | _ => .non)]
  · simp [e]
  · intro x hx
    have : ∃ a b, x = .tup [.str a, .int b] := by
      rw [← List.map_uncurry_zip_eq_zipWith] at hx
      obtain ⟨p, hp, rfl⟩ := List.mem_map.mp hx
      exact ⟨p.1, p.2, rfl⟩
    obtain ⟨a, b, rfl⟩ := this
    simp [Tg.put, wipeE, kvPairs, toKey, iterP, List.replicate, cmpP, isiP]
/-! ### the states -/
def stT (rows : List (List Int)) (m : Int) : List (List Int) := rows.flatMap fun r => (List.range m.toNat).map fun (i : Nat) => r ++ [(i : Int)]
def rowP (r : List Int) : PV := .tup (r.map .int)
theorem forF_go {put : PV → Env → Option Env} {body : Env → Store → Fl} (P : List PV → Env → Store → Prop) (H : ∀ x xs ρ st, P (x :: xs) ρ st → ∃ ρ1 ρ2 st2, put x ρ = some ρ1 ∧ body ρ1 st = .nx ρ2 st2 ∧ P xs ρ2 st2) : ∀ (xs : List PV) (ρ : Env) (st : Store), P xs ρ st → ∃ ρ2 st2, forF put body xs ρ st = .nx ρ2 st2 ∧ P [] ρ2 st2
  | [], ρ, st, h => ⟨ρ, st, rfl, h⟩
  | x :: xs, ρ, st, h => by
    obtain ⟨ρ1, ρ2, st2, e1, e2, h2⟩ := H x xs ρ st h
    obtain ⟨ρ3, st3, e3, h3⟩ := forF_go P H xs ρ2 st2 h2
    exact ⟨ρ3, st3, by rw [forF_cons, e1, flO_s, e2, forK_nx, e3], h3⟩
theorem stT_len : ∀ (rows : List (List Int)) (m : Int), (stT rows m).length = rows.length * m.toNat
  | [], m => by simp [stT]
  | r :: rows, m => by
    have := stT_len rows m
    unfold stT at *
    rw [List.flatMap_cons, List.length_append, this, List.length_map, List.length_range, List.length_cons, Nat.add_mul, Nat.one_mul, Nat.add_comm]
/-- the inner loop's body -/
def inB : CB := match b__law_states with
  | .cons _ (.cons (.for_ _ _ (.cons _ (.cons (.for_ _ _ b) _))) _) => b
  | _ => .nil
def outB : CB := match b__law_states with
  | .cons _ (.cons (.for_ _ _ b) _) => b
  | _ => .nil
theorem st_inner (told vars : List (Key × PV)) (ht : dget told (.inr "variables") = some (.dct vars)) (x : Str) (m : Int) (hx : dget vars (.inr x) = some (.int m)) (hm : 1 ≤ m ∧ m ≤ 60) (G : Ops) (st : Store) (s1 : Option Slot) (rows : List (List Int)) (hr : rows.length ≤ 3600) (hq : ∀ q ∈ rows, q.length ≤ 60) (s4 s5 : Option Slot) :
    ∃ t4 t5, forF (Tg.one 4).put (evB G inB) (rows.map rowP) [some (.val (.dct told)), s1, some (.val (.str x)), some (.val (.lst [])), s4, s5] st = .nx [some (.val (.dct told)), s1, some (.val (.str x)), some (.val (.lst ((stT rows m).map rowP))), t4, t5] st := by
  obtain ⟨ρ2, st2, e, l, r2, t4, t5, h0, h1, h2, h6, h3⟩ := forF_go (put := (Tg.one 4).put) (body := evB G inB) (fun xs ρ s => ∃ (l r : List (List Int)) (t4 t5 : Option Slot), xs = r.map rowP ∧ s = st ∧ l ++ stT r m = stT rows m ∧ (∀ q ∈ r, q.length ≤ 60) ∧ ρ = [some (.val (.dct told)), s1, some (.val (.str x)), some (.val (.lst (l.map rowP))), t4, t5])
    (by
      intro y ys ρ s hP
      obtain ⟨l, r, t4, t5, h0, rfl, h2, h6, rfl⟩ := hP
      cases r with
      | nil => simp at h0
      | cons r0 r =>
        rw [List.map_cons] at h0
        injection h0 with h0 h1
        subst h0
        refine ⟨_, _, _, rfl, ?_, l ++ (List.range m.toNat).map fun (i : Nat) => r0 ++ [(i : Int)], r, some (.val (rowP r0)), t5, h1, rfl, by rw [← h2, List.append_assoc]; rfl, fun q hq => h6 q (by simp [hq]), rfl⟩
        have hl := congrArg List.length h2
        rw [List.length_append, stT_len, stT_len] at hl
        have hb : rows.length * m.toNat ≤ 3600 * 60 := Nat.mul_le_mul hr (by omega)
        have hl2 : l.length + m.toNat ≤ 16777216 := by
          rw [List.length_cons, Nat.add_mul] at hl
          omega
        have hr2 : -4611686018427387904 ≤ m ∧ m ≤ 16777216 := by omega
        rw [show inB = CB.cons _ CB.nil from rfl]
        have h7 : r0.length + 1 ≤ big := by have := h6 r0 (by simp); unfold big; omega
        have eg : ∀ i : Int, binP .Add (rowP r0) (.tup [.int i]) = some (rowP (r0 ++ [i])) := by
          intro i
          show (if (r0.map PV.int).length + 1 ≤ big then some (PV.tup (r0.map PV.int ++ [.int i])) else none) = _
          rw [List.length_map, if_pos h7]; simp [rowP]
        have eg2 : binP .Add (.lst (l.map rowP)) (.lst ((List.range m.toNat).map fun (i : Nat) => rowP (r0 ++ [(i : Int)]))) = some (.lst ((l ++ (List.range m.toNat).map fun (i : Nat) => r0 ++ [(i : Int)]).map rowP)) := by
          show (if (l.map rowP).length + ((List.range m.toNat).map fun (i : Nat) => rowP (r0 ++ [(i : Int)])).length ≤ big then some (PV.lst _) else none) = _
          rw [List.length_map, List.length_map, List.length_range, if_pos (show l.length + m.toNat ≤ big from hl2), List.map_append, List.map_map]; rfl
        simp [Tg.put, wipeE, kvPairs, toKey, iterP, List.replicate, cmpP, isiP, ht, hx, hr2]
        rw [turns_all (fun x => match x with | .int i => rowP (r0 ++ [i]) | _ => .non)]
        · rw [List.map_map]
          have : ((fun x => match x with | .int i => rowP (r0 ++ [i]) | _ => .non) ∘ fun (i : Nat) => PV.int (i : Int)) = fun (i : Nat) => rowP (r0 ++ [(i : Int)]) := rfl
          rw [this]
          simp [eg2]
        · intro z hz
          obtain ⟨i, _, rfl⟩ := List.mem_map.mp hz
          simp [Tg.put, wipeE, kvPairs, toKey, iterP, List.replicate, cmpP, isiP, eg]) (rows.map rowP) [some (.val (.dct told)), s1, some (.val (.str x)), some (.val (.lst [])), s4, s5] st ⟨[], rows, s4, s5, rfl, rfl, rfl, hq, rfl⟩
  have hr : r2 = [] := by simpa using h0.symm
  subst hr
  subst h1
  rw [show stT [] m = [] from rfl, List.append_nil] at h2
  subst h2
  exact ⟨t4, t5, by rw [e, h3]⟩
def stAll (rows : List (List Int)) (nv : List (Str × Int)) : List (List Int) := nv.foldl (fun rows p => stT rows p.2) rows
theorem stT_mem {rows : List (List Int)} {m : Int} {k : Nat} (h : ∀ q ∈ rows, q.length = k) : ∀ q ∈ stT rows m, q.length = k + 1 := by
  intro q hq
  obtain ⟨r, hr, h2⟩ := List.mem_flatMap.mp hq
  obtain ⟨i, hi, rfl⟩ := List.mem_map.mp h2
  rw [List.length_append, h r hr]; rfl
theorem g_states (told vars : List (Key × PV)) (ht : dget told (.inr "variables") = some (.dct vars)) (nv : List (Str × Int)) (h3 : nv.length ≤ 3) (hs : b1P .sorted (.dct vars) = some (.lst (nv.map fun p => PV.str p.1)))
    (hv : ∀ p ∈ nv, dget vars (.inr p.1) = some (.int p.2) ∧ 1 ≤ p.2 ∧ p.2 ≤ 4) (n : Nat) (hn : 1 ≤ n) (st : Store) :
    call T0 n "_law_states" [.dct told] st = .ok (.lst ((stAll [[]] nv).map rowP)) st := by
  cases n with
  | zero => omega
  | succ n =>
  rw [c_states]
  rw [show b__law_states = .cons _ (.cons (.for_ (.one 2) _ outB) (.cons _ .nil)) from rfl]
  obtain ⟨ρ2, st2, e, r2, nv2, t2, t3, t4, t5, h0, h1, h2, h6, h7, h8, h9⟩ := forF_go (put := (Tg.one 2).put) (body := evB (call T0 n) outB) (fun xs ρ s => ∃ (rows : List (List Int)) (nv2 : List (Str × Int)) (t2 t3 t4 t5 : Option Slot), xs = nv2.map (fun p => PV.str p.1) ∧ s = st ∧ stAll rows nv2 = stAll [[]] nv ∧ (∀ p ∈ nv2, p ∈ nv) ∧ (∀ q ∈ rows, q.length + nv2.length = nv.length) ∧ rows.length * 4 ^ nv2.length ≤ 64 ∧ ρ = [some (.val (.dct told)), some (.val (.lst (rows.map rowP))), t2, t3, t4, t5])
    (by
      intro y ys ρ s hP
      obtain ⟨rows, nv2, t2, t3, t4, t5, h0, rfl, h2, h6, h7, h8, rfl⟩ := hP
      cases nv2 with
      | nil => simp at h0
      | cons p nv2 =>
        rw [List.map_cons] at h0
        injection h0 with h0 h1
        subst h0
        obtain ⟨hx, hm1, hm4⟩ := hv p (h6 p (by simp))
        have hb : 1 ≤ 4 ^ nv2.length := Nat.one_le_pow _ _ (by decide)
        have hlen : rows.length ≤ 64 := by
          rw [List.length_cons, Nat.pow_succ] at h8
          have : rows.length * 1 ≤ rows.length * (4 ^ nv2.length * 4) := Nat.mul_le_mul (Nat.le_refl _) (by omega)
          omega
        obtain ⟨u4, u5, e⟩ := st_inner told vars ht p.1 p.2 hx ⟨hm1, by omega⟩ (call T0 n) s (some (.val (.lst (rows.map rowP)))) rows (by omega) (fun q hq => by have := h7 q hq; omega) t4 t5
        refine ⟨_, _, _, rfl, ?_, stT rows p.2, nv2, some (.val (.str p.1)), some (.val (.lst ((stT rows p.2).map rowP))), u4, u5, h1, rfl, h2, fun q hq => h6 q (by simp [hq]), ?_, ?_, rfl⟩
        · rw [show outB = .cons _ (.cons (.for_ (.one 4) _ inB) (.cons _ .nil)) from rfl]
          simp [Tg.put, wipeE, kvPairs, toKey, iterP, List.replicate, cmpP, isiP, e]
        · intro q hq
          obtain ⟨r, hr, h2⟩ := List.mem_flatMap.mp hq
          obtain ⟨i, hi, rfl⟩ := List.mem_map.mp h2
          have := h7 r hr
          simp only [List.length_append, List.length_cons, List.length_nil] at this ⊢; omega
        · rw [stT_len]
          rw [List.length_cons, Nat.pow_succ] at h8
          have h4 : p.2.toNat ≤ 4 := by omega
          have : rows.length * p.2.toNat * 4 ^ nv2.length ≤ rows.length * 4 * 4 ^ nv2.length := Nat.mul_le_mul (Nat.mul_le_mul (Nat.le_refl _) h4) (Nat.le_refl _)
          have e2 : rows.length * 4 * 4 ^ nv2.length = rows.length * (4 ^ nv2.length * 4) := by rw [Nat.mul_assoc, Nat.mul_comm 4]
          omega) (nv.map fun p => PV.str p.1) [some (.val (.dct told)), some (.val (.lst [.tup []])), none, none, none, none] st
      ⟨[[]], nv, none, none, none, none, rfl, rfl, rfl, fun p hp => hp, fun q hq => by simp at hq; subst hq; simp, by
        have : 4 ^ nv.length ≤ 4 ^ 3 := Nat.pow_le_pow_right (by decide) h3
        simpa using this, rfl⟩
  have hr : nv2 = [] := by simpa using h0.symm
  subst hr
  subst h1
  have h2 : r2 = stAll [[]] nv := h2
  subst h9
  simp [Tg.put, wipeE, kvPairs, toKey, iterP, List.replicate, cmpP, isiP, ht, hs, e, h2]
/-- sizes -/
theorem stAll_len : ∀ (nv : List (Str × Int)) (rows : List (List Int)) (k : Nat), (∀ q ∈ rows, q.length = k) → ∀ q ∈ stAll rows nv, q.length = k + nv.length
  | [], rows, k, h => h
  | p :: nv, rows, k, h => by
    intro q hq
    have := stAll_len nv (stT rows p.2) (k + 1) (stT_mem h) q hq
    rw [this, List.length_cons]; omega
theorem nodup_stT {rows : List (List Int)} {m : Int} (h : rows.Nodup) : (stT rows m).Nodup := by
  unfold stT
  rw [List.nodup_iff_pairwise_ne, List.pairwise_flatMap]
  constructor
  · intro r _
    rw [List.pairwise_map]
    refine List.Pairwise.imp ?_ (List.nodup_range (n := m.toNat))
    intro a b hab e
    have e2 := List.append_cancel_left e
    injection e2 with e3
    exact hab (by omega)
  · refine List.Pairwise.imp ?_ h
    intro a b hab x hx y hy e
    obtain ⟨i, _, rfl⟩ := List.mem_map.mp hx
    obtain ⟨j, _, rfl⟩ := List.mem_map.mp hy
    have := (List.append_inj' e rfl).1
    exact hab this
theorem nodup_stAll : ∀ (nv : List (Str × Int)) (rows : List (List Int)), rows.Nodup → (stAll rows nv).Nodup
  | [], rows, h => h
  | p :: nv, rows, h => nodup_stAll nv (stT rows p.2) (nodup_stT h)
end PC
set_option autoImplicit true
set_option linter.all false
set_option maxRecDepth 100000
set_option maxHeartbeats 0
namespace PC
open PySem
/-- the drawn variables -/
structure NV (nv : List (Str × Int)) : Prop where
  nm : nv.map (·.1) = ([("a" : Str)] : List Str) ∨ nv.map (·.1) = ([("a" : Str), ("b" : Str)] : List Str) ∨ nv.map (·.1) = ([("a" : Str), ("b" : Str), ("c" : Str)] : List Str)
  b : ∀ p ∈ nv, 1 ≤ p.2 ∧ p.2 ≤ 4
theorem NV.nodup {nv} (h : NV nv) : (nv.map (·.1)).Nodup := by
  rcases h.nm with e | e | e <;> rw [e] <;> simp
theorem NV.len {nv} (h : NV nv) : nv.length ≤ 3 := by
  have : nv.length = (nv.map (·.1)).length := by simp
  rw [this]
  rcases h.nm with e | e | e <;> rw [e] <;> simp
theorem NV.ne {nv} (h : NV nv) : nv.map (·.1) ≠ [] := by
  rcases h.nm with e | e | e <;> rw [e] <;> simp
theorem NV.ok {nv} (h : NV nv) : ∀ x n, lkp nv x = some n → PyData.strOk x = true := by
  intro x n hx
  have : x ∈ nv.map (·.1) := (lkp_some nv x).mp ⟨n, hx⟩
  rcases h.nm with e | e | e <;> rw [e] at this <;> simp at this
  · subst this; exact strOk_of _
  · rcases this with rfl | rfl <;> exact strOk_of _
  · rcases this with rfl | rfl | rfl <;> exact strOk_of _
theorem lkp_mem : ∀ (ps : List (Str × Int)), (ps.map (·.1)).Nodup → ∀ p ∈ ps, lkp ps p.1 = some p.2
  | q :: ps, h, p, hp => by
    unfold lkp
    rw [List.map_cons, List.nodup_cons] at h
    rcases List.mem_cons.mp hp with rfl | hp
    · simp
    · have hne : q.1 ≠ p.1 := fun e => h.1 (by rw [e]; exact List.mem_map.mpr ⟨p, hp, rfl⟩)
      have := lkp_mem ps h.2 p hp
      unfold lkp at this
      simpa [hne] using this
theorem lkp_in : ∀ (ps : List (Str × Int)) (x : Str) (m : Int), lkp ps x = some m → (x, m) ∈ ps
  | q :: ps, x, m, h => by
    unfold lkp at h
    by_cases e : q.1 = x
    · simp [e] at h
      subst h; subst e; simp
    · have := lkp_in ps x m (by unfold lkp; simpa [e] using h)
      simp [this]
theorem keys_pk (ps : List (Str × Int)) : (pk ps).map (fun kv => kP kv.1) = (ps.map (·.1)).map .str := by
  simp [pk, kP, List.map_map, Function.comp_def]
theorem sort1 : sortS [("a" : Str)] = [("a" : Str)] := rfl
theorem sort2 : sortS [("a" : Str), ("b" : Str)] = [("a" : Str), ("b" : Str)] := by decide +kernel
theorem sort3 : sortS [("a" : Str), ("b" : Str), ("c" : Str)] = [("a" : Str), ("b" : Str), ("c" : Str)] := by decide +kernel
theorem NV.srt {nv} (h : NV nv) : b1P .sorted (.dct (pk nv)) = some (.lst ((nv.map (·.1)).map .str)) := by
  have hl : (pk nv).length < 64 := by have := h.len; simp [pk]; omega
  show (if (pk nv).length < 64 then sortL _ else none) = _
  rw [if_pos hl, keys_pk]
  rcases h.nm with e | e | e <;> rw [e]
  · simp [sortL, intsP, strsP, sort1]
  · simp [sortL, intsP, strsP, sort2]
  · simp [sortL, intsP, strsP, sort3]
theorem NV.vb {nv} (h : NV nv) : VB (lkp nv) (pk nv) (nv.map (·.1)) where
  get := fun x n hx => by rw [dget_pk, hx]; rfl
  srt := h.srt
  ne := h.ne
  inn := fun x hx => (lkp_some nv x).mpr hx
  bnd := fun x n hx => by
    have := h.b _ (lkp_in nv x n hx)
    exact ⟨this.1, by have := this.2; simp at this; omega⟩
def CB.nth : CB → Nat → CT
  | .cons s _, 0 => s
  | .cons _ r, n + 1 => r.nth n
  | .nil, _ => .pass
def CB.dr : CB → Nat → CB
  | b, 0 => b
  | .cons _ r, n + 1 => r.dr n
  | .nil, _ => .nil
def fb : CT → CB
  | .for_ _ _ b => b
  | _ => .nil
def setE : CT → CE
  | .set _ e => e
  | _ => .con .non
theorem eqP_bl (a b : Bool) : eqP (.bl a) (.bl b) = some (a == b) := rfl
theorem sl1 : slcP (.lst [.str "a", .str "b", .str "c"]) none (some 1) = some (.lst [.str "a"]) := rfl
theorem sl2 : slcP (.lst [.str "a", .str "b", .str "c"]) none (some 2) = some (.lst [.str "a", .str "b"]) := rfl
theorem sl3 : slcP (.lst [.str "a", .str "b", .str "c"]) none (some 3) = some (.lst [.str "a", .str "b", .str "c"]) := rfl
/-- the variables are drawn -/
theorem lawA (sc : List Int) (hl : sc.length ≤ 63) (n : Nat) (hn : 2 ≤ n) (o0 : Option Slot) (R : Env) : ∃ nv c, 0 ≤ c ∧ NV nv ∧
    ev (call T0 n) (setE (b_law.nth 1)) false (o0 :: some (.val (.rf 0)) :: none :: none :: R) (D sc 0) = .ok (.dct (pk nv)) (D sc c) := by
  rw [show setE (b_law.nth 1) = .b1 .dict (.lc [3] (.one 3) _ .no _) from rfl]
  obtain ⟨k, k0, k1, e⟩ := g_take sc hl 0 (by decide) 3 (by decide) n (by omega)
  obtain ⟨v1, p1, q1, e1⟩ := g_take sc hl (0 + 1) (by decide) 4 (by decide) n (by omega)
  obtain ⟨v2, p2, q2, e2⟩ := g_take sc hl (0 + 1 + 1) (by decide) 4 (by decide) n (by omega)
  obtain ⟨v3, p3, q3, e3⟩ := g_take sc hl (0 + 1 + 1 + 1) (by decide) 4 (by decide) n (by omega)
  simp only [Int.zero_add] at e e1 e2 e3
  have a2 : (1 : Int) + 1 = 2 := rfl
  have a3 : (2 : Int) + 1 = 3 := rfl
  have a4 : (3 : Int) + 1 = 4 := rfl
  rw [a2] at e1 e2 e3
  rw [a3] at e2 e3
  rw [a4] at e3
  have hk : k = 0 ∨ k = 1 ∨ k = 2 := by omega
  rcases hk with rfl | rfl | rfl
  · refine ⟨[("a", 1 + v1)], 2, by decide, ⟨Or.inl rfl, ?_⟩, ?_⟩
    · intro p hp; simp at hp; subst hp; exact ⟨by simp; omega, by simp; omega⟩
    · simp [Tg.put, wipeE, kvPairs, toKey, iterP, List.replicate, cmpP, isiP, e, sl1, e1, b1P, pairsP, pairOf, dmerge, dput, pk]
  · refine ⟨[("a", 1 + v1), ("b", 1 + v2)], 3, by decide, ⟨Or.inr (Or.inl rfl), ?_⟩, ?_⟩
    · intro p hp; simp at hp; rcases hp with rfl | rfl <;> exact ⟨by simp; omega, by simp; omega⟩
    · simp [Tg.put, wipeE, kvPairs, toKey, iterP, List.replicate, cmpP, isiP, e, sl2, e1, e2, b1P, pairsP, pairOf, dmerge, dput, pk]
  · refine ⟨[("a", 1 + v1), ("b", 1 + v2), ("c", 1 + v3)], 4, by decide, ⟨Or.inr (Or.inr rfl), ?_⟩, ?_⟩
    · intro p hp; simp at hp; rcases hp with rfl | rfl | rfl <;> exact ⟨by simp; omega, by simp; omega⟩
    · simp [Tg.put, wipeE, kvPairs, toKey, iterP, List.replicate, cmpP, isiP, e, sl3, e1, e2, e3, b1P, pairsP, pairOf, dmerge, dput, pk]
end PC
set_option autoImplicit true
set_option linter.all false
set_option maxRecDepth 100000
set_option maxHeartbeats 0
namespace PC
open PySem
def unrow (x : PV) : Option (List Int) := match x with
  | .tup xs => intsP xs
  | _ => none
theorem unrow_row (r : List Int) : unrow (rowP r) = some r := by
  simp [unrow, rowP, intsP_map]
def pickR (r : List Int) (x : PV) : Option PV := if unrow x = some r then some x else none
theorem pick_rows (r : List Int) : ∀ (rows : List (List Int)), rows.Nodup → (rows.map rowP).filterMap (pickR r) = if r ∈ rows then [rowP r] else []
  | [], _ => by simp
  | q :: rows, h => by
    rw [List.nodup_cons] at h
    have ih := pick_rows r rows h.2
    rw [List.map_cons, List.filterMap_cons]
    by_cases e : q = r
    · subst e
      have : pickR q (rowP q) = some (rowP q) := by simp [pickR, unrow_row]
      rw [this, ih, if_neg h.1]
      simp
    · have : pickR r (rowP q) = none := by simp [pickR, unrow_row, e]
      rw [this, ih]
      have e2 : ¬ r = q := fun h => e h.symm
      simp [e2]
theorem decC (a b : Int) : decide (a = b) = decide (b = a) := by
  by_cases h : a = b
  · simp [h]
  · have : ¬ b = a := fun e => h e.symm
    simp [h, this]
/-- a state's term holds at that state alone -/
theorem state_sem (nv : List (Str × Int)) (h : NV nv) (r q : List Int) (hr : r.length = nv.length) (hq : q.length = nv.length) :
    (allT (((nv.map (·.1)).zip r).map fun p => .inn p.1 [p.2])).sC (fun x => (lkp ((nv.map (·.1)).zip q) x).getD 0) = decide (q = r) := by
  have hl : nv.length = (nv.map (·.1)).length := by simp
  rw [hl] at hr hq
  rcases h.nm with e | e | e <;> rw [e] at hr hq ⊢
  · match r, q, hr, hq with
    | [a], [b], _, _ => simp [allT, Tm.sC, lkp, Bool.beq_eq_decide_eq]; exact eq_comm
  · match r, q, hr, hq with
    | [a, a2], [b, b2], _, _ => simp [allT, Tm.sC, lkp, Bool.beq_eq_decide_eq]; rw [decC a, decC a2]
  · match r, q, hr, hq with
    | [a, a2, a3], [b, b2, b3], _, _ => simp [allT, Tm.sC, lkp, Bool.beq_eq_decide_eq, and_assoc]; rw [decC a, decC a2, decC a3, Bool.and_assoc]
theorem state_wf (nv : List (Str × Int)) (h : NV nv) (r : List Int) (hr : r.length = nv.length) (hb : ∀ p ∈ (nv.map (·.1)).zip r, ∀ m, lkp nv p.1 = some m → 0 ≤ p.2 ∧ p.2 < m) :
    (allT (((nv.map (·.1)).zip r).map fun p => .inn p.1 [p.2])).wf (lkp nv) true ∧ (allT (((nv.map (·.1)).zip r).map fun p => .inn p.1 [p.2])).dp ≤ 3 := by
  have hw : ∀ p ∈ (nv.map (·.1)).zip r, (Tm.inn p.1 [p.2]).wf (lkp nv) true := by
    intro p hp
    have hm := (List.of_mem_zip hp).1
    obtain ⟨m, hm2⟩ := (lkp_some nv p.1).mpr hm
    have := hb p hp m hm2
    exact ⟨m, hm2, by simpa using this, by simp, by simp⟩
  have hl : nv.length = (nv.map (·.1)).length := by simp
  rw [hl] at hr
  revert hw
  rcases h.nm with e | e | e <;> rw [e] at hr ⊢
  · match r, hr with
    | [a], _ => intro hw; simp [allT] at hw ⊢; exact ⟨hw, by simp [Tm.dp]⟩
  · match r, hr with
    | [a, a2], _ => intro hw; simp [allT] at hw ⊢; exact ⟨hw, by simp [Tm.dp]⟩
  · match r, hr with
    | [a, a2, a3], _ => intro hw; simp [allT] at hw ⊢; exact ⟨⟨⟨hw.1, hw.2.1⟩, hw.2.2⟩, by simp [Tm.dp]⟩
theorem eqP_row (r : List Int) : eqP (.lst [rowP r]) (.lst [rowP r]) = some true := by
  have e : PV.data (.lst [rowP r]) = some (.list [.tuple (r.map .int)]) := by simp [PV.data, PV.dataL, rowP, dataL_ints]
  have s : SeqAt.shaped (.list [.tuple (r.map .int)]) = true := by simp [SeqAt.shaped, PyData.canLay0, PyData.canLayAll0, lay_ints, PyData.depth, PyData.depthAll, dep_ints]
  have q := SeqAt.eqv_refl (.list [.tuple (r.map .int)]) (Bool.and_eq_true_iff.mp s).1
  unfold eqP
  rw [e]; simp [s, q]
def toldP (nv : List (Str × Int)) : List (Key × PV) := [(.inr "variables", .dct (pk nv))]
theorem told_v (nv : List (Str × Int)) : dget (toldP nv) (.inr "variables") = some (.dct (pk nv)) := by simp [toldP, dget]
def L1 : CB := fb (b_law.nth 7)
/-- the states: sizes and bounds -/
theorem stAll_bnd : ∀ (nv : List (Str × Int)) (pre : List (Str × Int)) (rows : List (List Int)), (∀ q ∈ rows, q.length = pre.length ∧ ∀ p ∈ (pre.zip q), 0 ≤ p.2 ∧ p.2 < p.1.2) → ∀ q ∈ stAll rows nv, q.length = (pre ++ nv).length ∧ ∀ p ∈ (pre ++ nv).zip q, 0 ≤ p.2 ∧ p.2 < p.1.2
  | [], pre, rows, h => by simpa [stAll] using h
  | v :: nv, pre, rows, h => by
    intro q hq
    have := stAll_bnd nv (pre ++ [v]) (stT rows v.2) (by
      intro q hq
      obtain ⟨r, hr, h2⟩ := List.mem_flatMap.mp hq
      obtain ⟨i, hi, rfl⟩ := List.mem_map.mp h2
      obtain ⟨hl, hb⟩ := h r hr
      refine ⟨by simp [hl], ?_⟩
      intro p hp
      rw [List.zip_append hl.symm] at hp
      rcases List.mem_append.mp hp with hp | hp
      · exact hb p hp
      · have := List.mem_range.mp hi
        simp at hp; subst hp
        exact ⟨by simp, by simp; omega⟩) q hq
    simpa using this
theorem rows_bnd {nv} (h : NV nv) (r : List Int) (hr : r ∈ stAll [[]] nv) : r.length = nv.length ∧ ∀ p ∈ (nv.map (·.1)).zip r, ∀ m, lkp nv p.1 = some m → 0 ≤ p.2 ∧ p.2 < m := by
  have := stAll_bnd nv [] [[]] (by simp) r hr
  refine ⟨by simpa using this.1, ?_⟩
  intro p hp m hm
  have hz : (nv.map (·.1)).zip r = (nv.zip r).map (fun p => (p.1.1, p.2)) := by
    rw [List.zip_map_left]; rfl
  rw [hz] at hp
  obtain ⟨x, hx, rfl⟩ := List.mem_map.mp hp
  have h2 := this.2 x (by simpa using hx)
  have h3 := lkp_mem nv h.nodup x.1 (List.of_mem_zip hx).1
  simp only at hm
  rw [h3] at hm
  injection hm with hm
  rw [← hm]; exact h2
end PC
set_option autoImplicit true
set_option linter.all false
set_option maxRecDepth 100000
set_option maxHeartbeats 0
namespace PC
open PySem
abbrev nsOf (nv : List (Str × Int)) : List Str := nv.map (·.1)
theorem dp_facts (one other : Tm) (h1 : one.dp ≤ 4) (h2 : other.dp ≤ 3) : (Tm.con true one other).dp ≤ 5 ∧ (Tm.nt one).dp ≤ 5 ∧ (Tm.con true (.con true one other) .any).dp ≤ 6 ∧ Tm.any.dp ≤ 1 := by
  simp only [Tm.dp]; omega
/-- one turn over the states -/
theorem L1_ok (nv : List (Str × Int)) (h : NV nv) (one other num : Tm) (w1 : one.wf (lkp nv) true) (w2 : other.wf (lkp nv) true) (w3 : num.wf (lkp nv) false) (d1 : one.dp ≤ 4) (d2 : other.dp ≤ 3) (d3 : num.dp ≤ 4)
    (r : List Int) (hr : r ∈ stAll [[]] nv) (n : Nat) (hn : 10 ≤ n) (st : Store) (s0 s1 s3 o10 : Option Slot) (R : Env) :
    evB (call T0 n) L1 (s0 :: s1 :: some (.val (.dct (pk nv))) :: s3 :: some (.val (.dct (toldP nv))) :: some (.val one.pv) :: some (.val other.pv) :: some (.val num.pv) :: some (.val (.lst ((stAll [[]] nv).map rowP))) :: some (.val (rowP r)) :: o10 :: none :: R) st = .nx (s0 :: s1 :: some (.val (.dct (pk nv))) :: s3 :: some (.val (.dct (toldP nv))) :: some (.val one.pv) :: some (.val other.pv) :: some (.val num.pv) :: some (.val (.lst ((stAll [[]] nv).map rowP))) :: some (.val (rowP r)) :: some (.val (.dct (pk ((nsOf nv).zip r)))) :: none :: R) st := by
  obtain ⟨hl, hb⟩ := rows_bnd h r hr
  obtain ⟨f1, f2, f3, f4⟩ := dp_facts one other d1 d2
  have hv : ∀ q : List Int, q.length = nv.length → call T0 n "_law_values" [.dct (toldP nv), rowP q] st = .ok (.dct (pk ((nsOf nv).zip q))) st := fun q hq => g_values (toldP nv) (pk nv) (told_v nv) (nsOf nv) h.srt q h.nodup (by simpa using hq) n (by omega) st
  have hk : ∀ q : List Int, q.length = nv.length → ((nsOf nv).zip q).map (fun p => p.1) = nsOf nv := fun q hq => by
    exact List.map_fst_zip (by simp; omega)
  have T : ∀ q : List Int, q.length = nv.length → Tells (lkp nv) (pk ((nsOf nv).zip q)) (fun x => (lkp ((nsOf nv).zip q) x).getD 0) := fun q hq => tells_row nv _ (hk q hq)
  have S := fun (t : Tm) (ht : t.dp ≤ 10) => sound_hw (lkp nv) _ _ (T r hl) st t n (by omega)
  have SL := fun (t : Tm) (ht : t.dp ≤ 10) => sound_l (lkp nv) _ _ (T r hl) st t n (by omega)
  have a1 := (S one (by omega)).1 w1
  have a2 := (SL one (by omega)).1 w1
  have a3 := (S num (by omega)).2 w3
  have a4 := (SL num (by omega)).2 w3
  have a5 := sound_kept (lkp nv) st one true n (by omega) w1
  have a6 := (S other (by omega)).1 w2
  have a7 := (S (.con true one other) (by omega)).1 ⟨w1, w2⟩
  have a8 := (S (.nt one) (by omega)).1 w1
  have a9 := g_allof [one, other, .any] (by simp) n (by omega) st
  have a10 := (S (.con true (.con true one other) .any) (by omega)).1 ⟨⟨w1, w2⟩, trivial⟩
  have a11 := g_allof [] (by simp) n (by omega) st
  have a12 := (S .any (by omega)).1 trivial
  have a13 := g_state (pk nv) (nsOf nv) h.srt r (by simpa using hl) (by have := h.len; simpa using this) n (by omega) st
  obtain ⟨sw, sd⟩ := state_wf nv h r hl hb
  have a14 : ∀ q : List Int, q.length = nv.length → call T0 n "holds" [(allT (((nsOf nv).zip r).map fun p => .inn p.1 [p.2])).pv, .dct (pk ((nsOf nv).zip q))] st = .ok (.bl (decide (q = r))) st := fun q hq => by
    rw [(sound_hw (lkp nv) _ _ (T q hq) st _ n (by omega)).1 sw, state_sem nv h r q hl hq]
  have a15 := eqP_row r
  have a16 := hv r hl
  have a17 : call T0 n "state_term" [.dct (pk nv), rowP r] st = .ok (allT (((nsOf nv).zip r).map fun p => .inn p.1 [p.2])).pv st := a13
  simp only [Tm.pv, Tm.sC, allT, List.map_cons, List.map_nil, Bool.and_true] at a7 a8 a9 a10 a11 a12
  generalize hC : one.sC _ = bc at a1 a2 a7 a8 a10
  generalize hO : other.sC _ = bo at a6 a7 a10
  generalize hE : num.sE _ = be at a3 a4
  rw [show L1 = .cons _ (.cons _ (.cons _ (.cons _ (.cons _ .nil)))) from rfl]
  clear S SL
  have hp : (stAll [[]] nv).Nodup := nodup_stAll nv [[]] (by simp)
  have hpick : ((stAll [[]] nv).map rowP).filterMap (pickR r) = [rowP r] := by rw [pick_rows r _ hp, if_pos hr]
  have side : ∀ q : List Int, q ∈ stAll [[]] nv → call T0 n "_law_values" [.dct (toldP nv), rowP q] st = .ok (.dct (pk ((nsOf nv).zip q))) st ∧ call T0 n "holds" [(allT (((nsOf nv).zip r).map fun p => .inn p.1 [p.2])).pv, .dct (pk ((nsOf nv).zip q))] st = .ok (.bl (decide (q = r))) st ∧ pickR r (rowP q) = if q = r then some (rowP q) else none := fun q hq => by
    have := (rows_bnd h q hq).1
    refine ⟨hv q this, a14 q this, ?_⟩
    simp [pickR, unrow_row]
  cases bc <;> cases bo
  all_goals
    simp [Tg.put, wipeE, kvPairs, toKey, iterP, List.replicate, cmpP, isiP, a16, a1, a2, a3, a4, a5, a6, a7, a8, a9, a10, a11, a12, a15, a17, eqP_bl, eqP_int]
    rw [turns_opt (pickR r)]
    · rw [hpick]
      simp [Tg.put, wipeE, kvPairs, toKey, iterP, List.replicate, cmpP, isiP, a15]
    · intro x hx
      obtain ⟨q, hq, rfl⟩ := List.mem_map.mp hx
      obtain ⟨b1, b2, b3⟩ := side q hq
      by_cases e : q = r
      · subst e
        simp [Tg.put, wipeE, kvPairs, toKey, iterP, List.replicate, cmpP, isiP, a17, b1, b2, b3]
      · simp [Tg.put, wipeE, kvPairs, toKey, iterP, List.replicate, cmpP, isiP, a17, b1, b2, b3, e]
end PC
set_option autoImplicit true
set_option linter.all false
set_option maxRecDepth 100000
set_option maxHeartbeats 0
namespace PC
open PySem
def vS (x : Str) : Str := ("v" : Str) ++ x
def abc : List Str := [("a" : Str), ("b" : Str), ("c" : Str)]
theorem NV.abc {nv} (h : NV nv) : ∀ x ∈ nsOf nv, x ∈ abc := by
  intro x hx
  rcases h.nm with e | e | e <;> (have e : nsOf nv = _ := e) <;> rw [e] at hx <;> simp [PC.abc] at hx ⊢
  · exact Or.inl hx
  · rcases hx with rfl | rfl <;> simp
  · exact hx
theorem v_len : ∀ x ∈ abc, binP .Add (.str ("v" : Str)) (.str x) = some (.str (vS x)) := by
  intro x hx
  have : ∀ x ∈ abc, Str.length ("v" : Str) + Str.length x ≤ big := by decide +kernel
  exact if_pos (this x hx)
theorem v_ne : ∀ x ∈ abc, ∀ y ∈ abc, vS x ≠ y := by decide +kernel
theorem v_inj : ∀ x ∈ abc, ∀ y ∈ abc, vS x = vS y → x = y := by decide +kernel
/-- other names -/
def rN (ys : List Str) (x : Str) : Str := if x ∈ ys then vS x else x
theorem rN_inj (ys : List Str) : ∀ x ∈ abc, ∀ y ∈ abc, rN ys x = rN ys y → x = y := by
  intro x hx y hy e
  unfold rN at e
  split at e <;> split at e
  · exact v_inj x hx y hy e
  · exact (v_ne x hx y hy e).elim
  · exact (v_ne y hy x hx e.symm).elim
  · exact e
def nmD (ys : List Str) : List (Key × PV) := ys.map fun y => (.inr y, .str (vS y))
theorem nmD_get (ys : List Str) (x : Str) : (dget (nmD ys) (.inr x)).getD (.str x) = .str (rN ys x) := by
  induction ys with
  | nil => simp [nmD, dget, rN]
  | cons y ys ih =>
    by_cases e : y = x
    · subst e; simp [nmD, dget, rN]
    · have e2 : ¬ x = y := fun h => e h.symm
      have : dget (nmD (y :: ys)) (.inr x) = dget (nmD ys) (.inr x) := by simp [nmD, dget, e]
      rw [this, ih]
      simp [rN, e2]
theorem pairs_nm (ys : List Str) : pairsP (ys.map fun y => .tup [.str y, .str (vS y)]) = some (nmD ys) := by
  induction ys with
  | nil => rfl
  | cons y ys ih => simp [pairsP, pairOf, toKey, ih]; rfl
theorem dict_nm (ys : List Str) (h : ys.Nodup) : b1P .dict (.lst (ys.map fun y => .tup [.str y, .str (vS y)])) = some (.dct (nmD ys)) := by
  show (pairsP _).map _ = _
  rw [pairs_nm]
  show some (PV.dct (dmerge [] (nmD ys))) = _
  rw [dmerge_new]
  · rfl
  · have : (nmD ys).map (·.1) = ys.map Sum.inr := by simp [nmD]
    rw [List.nil_append, this]
    exact List.Pairwise.map _ (fun a b hab e => hab (by injection e)) h
theorem turns_draw {sc : List Int} {f : PV → Store → R (Option PV)} (g : Str → PV) : ∀ (xs : List Str), (∀ x ∈ xs, ∀ c : Int, 0 ≤ c → ∃ (b : Bool) (c2 : Int), 0 ≤ c2 ∧ f (.str x) (D sc c) = .ok (if b then some (g x) else none) (D sc c2)) → ∀ c : Int, 0 ≤ c → ∃ (ys : List Str) (c2 : Int), ys.Sublist xs ∧ 0 ≤ c2 ∧ turns f (xs.map .str) (D sc c) = .ok (ys.map g) (D sc c2)
  | [], _, c, hc => ⟨[], c, List.Sublist.slnil, hc, rfl⟩
  | x :: xs, h, c, hc => by
    obtain ⟨b, c2, hc2, e⟩ := h x (by simp) c hc
    obtain ⟨ys, c3, hs, hc3, e2⟩ := turns_draw g xs (fun y hy => h y (by simp [hy])) c2 hc2
    cases b
    · exact ⟨ys, c3, hs.cons x, hc3, by rw [List.map_cons, turns_cons, e]; simp [e2]⟩
    · exact ⟨x :: ys, c3, hs.cons_cons x, hc3, by rw [List.map_cons, turns_cons, e]; simp [e2]⟩
theorem lawN (sc : List Int) (hl : sc.length ≤ 63) (n : Nat) (hn : 2 ≤ n) (c : Int) (hc : 0 ≤ c) (nv : List (Str × Int)) (h : NV nv) (s0 s3 : Option Slot) (T : Env) : ∃ ys c2, 0 ≤ c2 ∧ (∀ y ∈ ys, y ∈ nsOf nv) ∧ ys.Nodup ∧
    ev (call T0 n) (setE (b_law.nth 9)) false (s0 :: some (.val (.rf 0)) :: some (.val (.dct (pk nv))) :: s3 :: T) (D sc c) = .ok (.dct (nmD ys)) (D sc c2) := by
  rw [show setE (b_law.nth 9) = .b1 .dict (.lc [3] (.one 3) _ (.some _) _) from rfl]
  obtain ⟨ys, c2, hs, hc2, e⟩ := turns_draw (sc := sc) (f := lcF (call T0 n) [3] (.one 3) (.some (.cmp .Eq (.call "_law_take" (.cons (.var 1) (.cons (.con (.int 2)) .nil))) (.con (.int 0)))) (.tup (.cons (.var 3) (.cons (.bin .Add (.con (.str "v")) (.var 3)) .nil))) (s0 :: some (.val (.rf 0)) :: some (.val (.dct (pk nv))) :: s3 :: T)) (fun y => .tup [.str y, .str (vS y)]) (nsOf nv) (by
    intro x hx c hc
    obtain ⟨v, v0, v1, e⟩ := g_take sc hl c hc 2 (by decide) n (by omega)
    have hv := v_len x (h.abc x hx)
    by_cases hk : v = 0
    · exact ⟨true, c + 1, by omega, by simp [Tg.put, wipeE, kvPairs, toKey, iterP, List.replicate, cmpP, isiP, e, hk, eqP_int, hv]⟩
    · exact ⟨false, c + 1, by omega, by simp [Tg.put, wipeE, kvPairs, toKey, iterP, List.replicate, cmpP, isiP, e, hk, eqP_int, hv]⟩) c hc
  have hnd : ys.Nodup := hs.nodup h.nodup
  refine ⟨ys, c2, hc2, fun y hy => hs.subset hy, hnd, ?_⟩
  have hk : (pk nv).map (fun kv => kP kv.1) = (nsOf nv).map .str := keys_pk nv
  have q : (nsOf nv).map PV.str = nv.map (PV.str ∘ fun x => x.1) := by rw [List.map_map]
  rw [q] at e
  simp [Tg.put, wipeE, kvPairs, toKey, iterP, List.replicate, cmpP, isiP, hk]
  rw [e]
  simp [dict_nm ys hnd]
/-! ### the second loop over the states -/
theorem lkp_map (r : Str → Str) : ∀ (ps : List (Str × Int)) (x : Str), (∀ y ∈ ps.map (·.1), r y = r x → y = x) → lkp (ps.map fun p => (r p.1, p.2)) (r x) = lkp ps x
  | [], x, h => rfl
  | p :: ps, x, h => by
    have ih := lkp_map r ps x (fun y hy => h y (by simp [hy]))
    unfold lkp at *
    rw [List.map_cons]
    by_cases e : p.1 = x
    · simp [e]
    · have e2 : ¬ r p.1 = r x := fun e2 => e (h p.1 (by simp) e2)
      simp [e, e2] at ih ⊢
      exact ih
theorem pairs_pk (ps : List (Str × Int)) : pairsP (ps.map fun p => .tup [.str p.1, .int p.2]) = some (pk ps) := by
  induction ps with
  | nil => rfl
  | cons y ys ih => simp [pairsP, pairOf, toKey, ih]; rfl
theorem dict_pk (ps : List (Str × Int)) (h : (ps.map (·.1)).Nodup) : b1P .dict (.lst (ps.map fun p => .tup [.str p.1, .int p.2])) = some (.dct (pk ps)) := by
  show (pairsP _).map _ = _
  rw [pairs_pk]
  show some (PV.dct (dmerge [] (pk ps))) = _
  rw [dmerge_pk ps h]
def L2 : CB := fb (b_law.nth 10)
def renP (r : Str → Str) (ps : List (Str × Int)) : List (Str × Int) := ps.map fun p => (r p.1, p.2)
def gN (ys : List Str) (ps : List (Str × Int)) (x : PV) : PV := match x with
  | .str x => .tup [.str (rN ys x), .int ((lkp ps x).getD 0)]
  | _ => .non
theorem L2_ok (nv : List (Str × Int)) (h : NV nv) (one num : Tm) (w1 : one.wf (lkp nv) true) (w3 : num.wf (lkp nv) false) (d1 : one.dp ≤ 4) (d3 : num.dp ≤ 4) (ys : List Str) (hy : ∀ y ∈ ys, y ∈ nsOf nv)
    (q : List Int) (hq : q.length = nv.length) (n : Nat) (hn : 10 ≤ n) (st : Store) (s0 s1 s2 s3 s6 s8 o10 o11 : Option Slot) (T : Env) :
    evB (call T0 n) L2 (s0 :: s1 :: s2 :: s3 :: some (.val (.dct (toldP nv))) :: some (.val one.pv) :: s6 :: some (.val num.pv) :: s8 :: some (.val (rowP q)) :: o10 :: o11 :: some (.val (.dct (nmD ys))) :: T) st = .nx (s0 :: s1 :: s2 :: s3 :: some (.val (.dct (toldP nv))) :: some (.val one.pv) :: s6 :: some (.val num.pv) :: s8 :: some (.val (rowP q)) :: some (.val (.dct (pk ((nsOf nv).zip q)))) :: some (.val (.dct (pk (renP (rN ys) ((nsOf nv).zip q))))) :: some (.val (.dct (nmD ys))) :: T) st := by
  have hv : call T0 n "_law_values" [.dct (toldP nv), rowP q] st = .ok (.dct (pk ((nsOf nv).zip q))) st := g_values (toldP nv) (pk nv) (told_v nv) (nsOf nv) h.srt q h.nodup (by simpa using hq) n (by omega) st
  have hk : ((nsOf nv).zip q).map (fun p => p.1) = nsOf nv := List.map_fst_zip (by simp; omega)
  generalize hz : (nsOf nv).zip q = ps at *
  have T1 : Tells (lkp nv) (pk ps) (fun x => (lkp ps x).getD 0) := tells_row nv ps hk
  have inA : ∀ x ∈ nsOf nv, x ∈ abc := h.abc
  have hinj : ∀ x ∈ nsOf nv, ∀ y ∈ nsOf nv, rN ys y = rN ys x → y = x := fun x hx y hy e => rN_inj ys y (inA y hy) x (inA x hx) e
  have hnd : ps.map (·.1) |>.Nodup := by
    have : (ps.map fun p => p.1).Nodup := by rw [hk]; exact h.nodup
    exact this
  have hnd2 : ((renP (rN ys) ps).map (·.1)).Nodup := by
    have e : (renP (rN ys) ps).map (·.1) = (nsOf nv).map (rN ys) := by
      rw [← hk]; simp [renP, List.map_map, Function.comp_def]
    rw [e]
    have := h.nodup
    rw [List.nodup_iff_pairwise_ne, List.pairwise_map]
    refine List.Pairwise.imp_of_mem ?_ h.nodup
    intro a b ha hb hab e
    exact hab (hinj b hb a ha e)
  have T2 : Tells (lkp (renP (rN ys) nv)) (pk (renP (rN ys) ps)) (fun x => (lkp (renP (rN ys) ps) x).getD 0) := tells_row _ _ (by
    have : ps.map (fun p => p.1) = nv.map (fun p => p.1) := hk
    have e2 := congrArg (List.map (rN ys)) this
    simpa [renP, List.map_map, Function.comp_def] using e2)
  have hB : ∀ x m, lkp nv x = some m → lkp (renP (rN ys) nv) (rN ys x) = some m := fun x m hx => by
    rw [renP, lkp_map]
    · exact hx
    · intro y hy e
      exact hinj x ((lkp_some nv x).mp ⟨m, hx⟩) y hy e
  have hG : ∀ x m, lkp nv x = some m → (lkp (renP (rN ys) ps) (rN ys x)).getD 0 = (lkp ps x).getD 0 := fun x m hx => by
    rw [renP, lkp_map]
    intro y hy e
    have hy2 : y ∈ nsOf nv := by rw [← hk]; exact hy
    exact hinj x ((lkp_some nv x).mp ⟨m, hx⟩) y hy2 e
  have R1 := ren_sem (lkp nv) (rN ys) (fun x => (lkp ps x).getD 0) (fun x => (lkp (renP (rN ys) ps) x).getD 0) hG
  have W := ren_wf (lkp nv) (lkp (renP (rN ys) nv)) (rN ys) hB
  have hR : ∀ x m, lkp nv x = some m → (dget (nmD ys) (.inr x)).getD (.str x) = .str (rN ys x) := fun x m _ => nmD_get ys x
  have a1 := (sound_hw (lkp nv) _ _ T1 st one n (by omega)).1 w1
  have a3 := (sound_hw (lkp nv) _ _ T1 st num n (by omega)).2 w3
  have b1 := sound_called (lkp nv) st (nmD ys) (rN ys) hR one true n (by omega) w1
  have b3 := sound_called (lkp nv) st (nmD ys) (rN ys) hR num false n (by omega) w3
  have c1 := (sound_hw _ _ _ T2 st (one.ren (rN ys)) n (by rw [ren_dp]; omega)).1 (W one true w1)
  have c3 := (sound_hw _ _ _ T2 st (num.ren (rN ys)) n (by rw [ren_dp]; omega)).2 (W num false w3)
  rw [(R1 one).1 w1] at c1
  rw [(R1 num).2 w3] at c3
  have hkeys : (pk ps).map (fun kv => kP kv.1) = ps.map fun p => PV.str p.1 := by simp [pk, kP, List.map_map, Function.comp_def]
  rw [show PC.L2 = .cons _ (.cons _ (.cons _ .nil)) from rfl]
  have hg : ∀ x ∈ ps.map (fun p => p.1), dget (pk ps) (.inr x) = some (.int ((lkp ps x).getD 0)) := fun x hx => by
    obtain ⟨m, hm⟩ := (lkp_some ps x).mpr hx
    rw [dget_pk, hm]; rfl
  have hmap : (ps.map fun p => PV.str p.1).map (gN ys ps) = (renP (rN ys) ps).map fun p => PV.tup [.str p.1, .int p.2] := by
    rw [List.map_map, renP, List.map_map]
    apply List.map_congr_left
    intro p hp
    have := lkp_mem ps hnd p hp
    simp [this, gN]
  have hd := dict_pk (renP (rN ys) ps) hnd2
  simp [Tg.put, wipeE, kvPairs, toKey, iterP, List.replicate, cmpP, isiP, hv, hkeys]
  rw [turns_all (gN ys ps)]
  · rw [hmap]
    simp [Tg.put, wipeE, kvPairs, toKey, iterP, List.replicate, cmpP, isiP, hd, b1, b3, c1, c3, a1, a3, eqP_bl, eqP_int]
  · intro x hx
    obtain ⟨p, hp, rfl⟩ := List.mem_map.mp hx
    have e1 := hg p.1 (List.mem_map.mpr ⟨p, hp, rfl⟩)
    have e2 := nmD_get ys p.1
    simp [Tg.put, wipeE, kvPairs, toKey, iterP, List.replicate, cmpP, isiP, e1, e2, gN]
end PC
set_option autoImplicit true
set_option linter.all false
set_option maxRecDepth 100000
set_option maxHeartbeats 0
namespace PC
open PySem
theorem NV.getA {nv} (h : NV nv) : ∃ m, 1 ≤ m ∧ m ≤ 4 ∧ dget (pk nv) (.inr "a") = some (.int m) := by
  have : ("a" : Str) ∈ nv.map (·.1) := by rcases h.nm with e | e | e <;> rw [e] <;> simp
  obtain ⟨m, hm⟩ := (lkp_some nv "a").mpr this
  have hb := h.b _ (lkp_in nv _ m hm)
  exact ⟨m, hb.1, hb.2, by rw [dget_pk, hm]; rfl⟩
theorem NV.getZ {nv} (h : NV nv) : dget (pk nv) (.inr "zz") = none := by
  rw [dget_pk]
  cases e : lkp nv "zz" with
  | none => rfl
  | some m =>
    have := (lkp_some nv "zz").mp ⟨m, e⟩
    rcases h.nm with e | e | e <;> rw [e] at this <;> simp at this
theorem b_isvar (kvs : List (Key × PV)) (x : Str) (n : Nat) (st : Store) (hn : 1 ≤ n) (h : dget kvs (.inr x) = none) : call T0 n "is_variable" [.dct kvs, .str x] st = .ok (.bl false) st := by
  cases n with
  | zero => omega
  | succ n =>
    rw [c_isvar]; unfold b_is_variable
    simp [Tg.put, wipeE, kvPairs, toKey, iterP, List.replicate, cmpP, isiP, h]
theorem b_isrow (n : Nat) (st : Store) (hn : 1 ≤ n) : call T0 n "is_row" [.non] st = .ok (.bl false) st := by
  cases n with
  | zero => omega
  | succ n =>
    rw [c_isrow]; unfold b_is_row
    simp [Tg.put, wipeE, kvPairs, toKey, iterP, List.replicate, cmpP, isiP]

def knownL : List (PV × PV) := [(.non, .non), (.tup [], .tup []), (.tup [.str "zz"], .tup [.str "zz"]), (.tup [.str "any", .int 1], .tup [.str "any", .int 1]), (.tup [.str "in", .str "zz", .tup []], .tup [.str "in", .str "zz", .tup []]), (.tup [.str "in", .str "a", .tup [.int 9]], .tup [.str "in", .str "a", .tup [.int 9]]), (.tup [.str "and", .tup [.str "any"], .tup [.str "zz"]], .tup [.str "zz"]), (.tup [.str "not", .tup [.str "any"], .tup [.str "any"]], .tup [.str "not", .tup [.str "any"], .tup [.str "any"]]), (.tup [.str "same", .tup [.str "value", .str "a"], .tup [.str "number", .int 10]], .tup [.str "number", .int 10]), (.tup [.str "less", .tup [.str "value", .str "zz"], .non], .tup [.str "value", .str "zz"]), (.lst [.str "any"], .lst [.str "any"]), (.tup [.str "in", .str "a", .non], .tup [.str "in", .str "a", .non]), (.tup [.str "same", .tup [.str "plus", .tup [.str "number", .int 1]], .tup [.str "number", .int 1]], .tup [.str "plus", .tup [.str "number", .int 1]]), (.tup [.str "less", .tup [.str "if", .tup [.str "zz"], .tup [.str "number", .int 1], .tup [.str "number", .int 1]], .tup [.str "number", .int 1]], .tup [.str "zz"])]
theorem bad_0 (nv : List (Str × Int)) (h : NV nv) (n : Nat) (st : Store) : call T0 (n + 5) "check_condition" [.dct (pk nv), .non] st = .exc "BadTerm" [("part", .non)] st ∧ eqP (.non) (.non) = some true := by
  refine ⟨?_, by simp [eqP, PV.data, PV.dataL, SeqAt.shaped, PyData.canLay0, PyData.canLayAll0, strOk_of, PyData.depth, PyData.depthAll, PyData.eqv, PyData.eqvAll, isiP]⟩
  obtain ⟨m, m1, m4, hA⟩ := h.getA
  have hZ := h.getZ
  have v1 := g_isvar (pk nv) "a" (n + 4) st (by omega) _ hA
  have v2 := b_isvar (pk nv) "zz" (n + 4) st (by omega) hZ
  have v3 := g_isvar (pk nv) "a" (n + 3) st (by omega) _ hA
  have v4 := b_isvar (pk nv) "zz" (n + 3) st (by omega) hZ
  have r1 := g_isrow [] (n + 4) st (by omega)
  have r2 := g_isrow [.int 9] (n + 4) st (by omega)
  have r3 := b_isrow (n + 4) st (by omega)
  have q1 := g_below 9 m (n + 4) st (by omega)
  have q2 := g_below 10 10 (n + 3) st (by omega)
  have q3 := g_below 1 10 (n + 3) st (by omega)
  have q4 : ¬ (9 : Int) < m := by omega
  have u1 := c_cond2 (n + 4)
  have u2 := c_cond
  have u3 := c_expr
  unfold b_check_condition at u1 u2
  unfold b_check_expression at u3
  simp [Tg.put, wipeE, kvPairs, toKey, iterP, List.replicate, cmpP, isiP, u1, u2, u3, v1, v2, v3, v4, r1, r2, r3, q1, q2, q3, q4, hA, hZ, b1P, boolsP, eqP, PV.data, PV.dataL, SeqAt.shaped, PyData.canLay0, PyData.canLayAll0, strOk_of, PyData.depth, PyData.depthAll, PyData.eqv, PyData.eqvAll, isiP]

theorem bad_1 (nv : List (Str × Int)) (h : NV nv) (n : Nat) (st : Store) : call T0 (n + 5) "check_condition" [.dct (pk nv), .tup []] st = .exc "BadTerm" [("part", .tup [])] st ∧ eqP (.tup []) (.tup []) = some true := by
  refine ⟨?_, by simp [eqP, PV.data, PV.dataL, SeqAt.shaped, PyData.canLay0, PyData.canLayAll0, strOk_of, PyData.depth, PyData.depthAll, PyData.eqv, PyData.eqvAll, isiP]⟩
  obtain ⟨m, m1, m4, hA⟩ := h.getA
  have hZ := h.getZ
  have v1 := g_isvar (pk nv) "a" (n + 4) st (by omega) _ hA
  have v2 := b_isvar (pk nv) "zz" (n + 4) st (by omega) hZ
  have v3 := g_isvar (pk nv) "a" (n + 3) st (by omega) _ hA
  have v4 := b_isvar (pk nv) "zz" (n + 3) st (by omega) hZ
  have r1 := g_isrow [] (n + 4) st (by omega)
  have r2 := g_isrow [.int 9] (n + 4) st (by omega)
  have r3 := b_isrow (n + 4) st (by omega)
  have q1 := g_below 9 m (n + 4) st (by omega)
  have q2 := g_below 10 10 (n + 3) st (by omega)
  have q3 := g_below 1 10 (n + 3) st (by omega)
  have q4 : ¬ (9 : Int) < m := by omega
  have u1 := c_cond2 (n + 4)
  have u2 := c_cond
  have u3 := c_expr
  unfold b_check_condition at u1 u2
  unfold b_check_expression at u3
  simp [Tg.put, wipeE, kvPairs, toKey, iterP, List.replicate, cmpP, isiP, u1, u2, u3, v1, v2, v3, v4, r1, r2, r3, q1, q2, q3, q4, hA, hZ, b1P, boolsP, eqP, PV.data, PV.dataL, SeqAt.shaped, PyData.canLay0, PyData.canLayAll0, strOk_of, PyData.depth, PyData.depthAll, PyData.eqv, PyData.eqvAll, isiP]

theorem bad_2 (nv : List (Str × Int)) (h : NV nv) (n : Nat) (st : Store) : call T0 (n + 5) "check_condition" [.dct (pk nv), .tup [.str "zz"]] st = .exc "BadTerm" [("part", .tup [.str "zz"])] st ∧ eqP (.tup [.str "zz"]) (.tup [.str "zz"]) = some true := by
  refine ⟨?_, by simp [eqP, PV.data, PV.dataL, SeqAt.shaped, PyData.canLay0, PyData.canLayAll0, strOk_of, PyData.depth, PyData.depthAll, PyData.eqv, PyData.eqvAll, isiP]⟩
  obtain ⟨m, m1, m4, hA⟩ := h.getA
  have hZ := h.getZ
  have v1 := g_isvar (pk nv) "a" (n + 4) st (by omega) _ hA
  have v2 := b_isvar (pk nv) "zz" (n + 4) st (by omega) hZ
  have v3 := g_isvar (pk nv) "a" (n + 3) st (by omega) _ hA
  have v4 := b_isvar (pk nv) "zz" (n + 3) st (by omega) hZ
  have r1 := g_isrow [] (n + 4) st (by omega)
  have r2 := g_isrow [.int 9] (n + 4) st (by omega)
  have r3 := b_isrow (n + 4) st (by omega)
  have q1 := g_below 9 m (n + 4) st (by omega)
  have q2 := g_below 10 10 (n + 3) st (by omega)
  have q3 := g_below 1 10 (n + 3) st (by omega)
  have q4 : ¬ (9 : Int) < m := by omega
  have u1 := c_cond2 (n + 4)
  have u2 := c_cond
  have u3 := c_expr
  unfold b_check_condition at u1 u2
  unfold b_check_expression at u3
  simp [Tg.put, wipeE, kvPairs, toKey, iterP, List.replicate, cmpP, isiP, u1, u2, u3, v1, v2, v3, v4, r1, r2, r3, q1, q2, q3, q4, hA, hZ, b1P, boolsP, eqP, PV.data, PV.dataL, SeqAt.shaped, PyData.canLay0, PyData.canLayAll0, strOk_of, PyData.depth, PyData.depthAll, PyData.eqv, PyData.eqvAll, isiP]

theorem bad_3 (nv : List (Str × Int)) (h : NV nv) (n : Nat) (st : Store) : call T0 (n + 5) "check_condition" [.dct (pk nv), .tup [.str "any", .int 1]] st = .exc "BadTerm" [("part", .tup [.str "any", .int 1])] st ∧ eqP (.tup [.str "any", .int 1]) (.tup [.str "any", .int 1]) = some true := by
  refine ⟨?_, by simp [eqP, PV.data, PV.dataL, SeqAt.shaped, PyData.canLay0, PyData.canLayAll0, strOk_of, PyData.depth, PyData.depthAll, PyData.eqv, PyData.eqvAll, isiP]⟩
  obtain ⟨m, m1, m4, hA⟩ := h.getA
  have hZ := h.getZ
  have v1 := g_isvar (pk nv) "a" (n + 4) st (by omega) _ hA
  have v2 := b_isvar (pk nv) "zz" (n + 4) st (by omega) hZ
  have v3 := g_isvar (pk nv) "a" (n + 3) st (by omega) _ hA
  have v4 := b_isvar (pk nv) "zz" (n + 3) st (by omega) hZ
  have r1 := g_isrow [] (n + 4) st (by omega)
  have r2 := g_isrow [.int 9] (n + 4) st (by omega)
  have r3 := b_isrow (n + 4) st (by omega)
  have q1 := g_below 9 m (n + 4) st (by omega)
  have q2 := g_below 10 10 (n + 3) st (by omega)
  have q3 := g_below 1 10 (n + 3) st (by omega)
  have q4 : ¬ (9 : Int) < m := by omega
  have u1 := c_cond2 (n + 4)
  have u2 := c_cond
  have u3 := c_expr
  unfold b_check_condition at u1 u2
  unfold b_check_expression at u3
  simp [Tg.put, wipeE, kvPairs, toKey, iterP, List.replicate, cmpP, isiP, u1, u2, u3, v1, v2, v3, v4, r1, r2, r3, q1, q2, q3, q4, hA, hZ, b1P, boolsP, eqP, PV.data, PV.dataL, SeqAt.shaped, PyData.canLay0, PyData.canLayAll0, strOk_of, PyData.depth, PyData.depthAll, PyData.eqv, PyData.eqvAll, isiP]

theorem bad_4 (nv : List (Str × Int)) (h : NV nv) (n : Nat) (st : Store) : call T0 (n + 5) "check_condition" [.dct (pk nv), .tup [.str "in", .str "zz", .tup []]] st = .exc "BadTerm" [("part", .tup [.str "in", .str "zz", .tup []])] st ∧ eqP (.tup [.str "in", .str "zz", .tup []]) (.tup [.str "in", .str "zz", .tup []]) = some true := by
  refine ⟨?_, by simp [eqP, PV.data, PV.dataL, SeqAt.shaped, PyData.canLay0, PyData.canLayAll0, strOk_of, PyData.depth, PyData.depthAll, PyData.eqv, PyData.eqvAll, isiP]⟩
  obtain ⟨m, m1, m4, hA⟩ := h.getA
  have hZ := h.getZ
  have v1 := g_isvar (pk nv) "a" (n + 4) st (by omega) _ hA
  have v2 := b_isvar (pk nv) "zz" (n + 4) st (by omega) hZ
  have v3 := g_isvar (pk nv) "a" (n + 3) st (by omega) _ hA
  have v4 := b_isvar (pk nv) "zz" (n + 3) st (by omega) hZ
  have r1 := g_isrow [] (n + 4) st (by omega)
  have r2 := g_isrow [.int 9] (n + 4) st (by omega)
  have r3 := b_isrow (n + 4) st (by omega)
  have q1 := g_below 9 m (n + 4) st (by omega)
  have q2 := g_below 10 10 (n + 3) st (by omega)
  have q3 := g_below 1 10 (n + 3) st (by omega)
  have q4 : ¬ (9 : Int) < m := by omega
  have u1 := c_cond2 (n + 4)
  have u2 := c_cond
  have u3 := c_expr
  unfold b_check_condition at u1 u2
  unfold b_check_expression at u3
  simp [Tg.put, wipeE, kvPairs, toKey, iterP, List.replicate, cmpP, isiP, u1, u2, u3, v1, v2, v3, v4, r1, r2, r3, q1, q2, q3, q4, hA, hZ, b1P, boolsP, eqP, PV.data, PV.dataL, SeqAt.shaped, PyData.canLay0, PyData.canLayAll0, strOk_of, PyData.depth, PyData.depthAll, PyData.eqv, PyData.eqvAll, isiP]

theorem bad_5 (nv : List (Str × Int)) (h : NV nv) (n : Nat) (st : Store) : call T0 (n + 5) "check_condition" [.dct (pk nv), .tup [.str "in", .str "a", .tup [.int 9]]] st = .exc "BadTerm" [("part", .tup [.str "in", .str "a", .tup [.int 9]])] st ∧ eqP (.tup [.str "in", .str "a", .tup [.int 9]]) (.tup [.str "in", .str "a", .tup [.int 9]]) = some true := by
  refine ⟨?_, by simp [eqP, PV.data, PV.dataL, SeqAt.shaped, PyData.canLay0, PyData.canLayAll0, strOk_of, PyData.depth, PyData.depthAll, PyData.eqv, PyData.eqvAll, isiP]⟩
  obtain ⟨m, m1, m4, hA⟩ := h.getA
  have hZ := h.getZ
  have v1 := g_isvar (pk nv) "a" (n + 4) st (by omega) _ hA
  have v2 := b_isvar (pk nv) "zz" (n + 4) st (by omega) hZ
  have v3 := g_isvar (pk nv) "a" (n + 3) st (by omega) _ hA
  have v4 := b_isvar (pk nv) "zz" (n + 3) st (by omega) hZ
  have r1 := g_isrow [] (n + 4) st (by omega)
  have r2 := g_isrow [.int 9] (n + 4) st (by omega)
  have r3 := b_isrow (n + 4) st (by omega)
  have q1 := g_below 9 m (n + 4) st (by omega)
  have q2 := g_below 10 10 (n + 3) st (by omega)
  have q3 := g_below 1 10 (n + 3) st (by omega)
  have q4 : ¬ (9 : Int) < m := by omega
  have u1 := c_cond2 (n + 4)
  have u2 := c_cond
  have u3 := c_expr
  unfold b_check_condition at u1 u2
  unfold b_check_expression at u3
  simp [Tg.put, wipeE, kvPairs, toKey, iterP, List.replicate, cmpP, isiP, u1, u2, u3, v1, v2, v3, v4, r1, r2, r3, q1, q2, q3, q4, hA, hZ, b1P, boolsP, eqP, PV.data, PV.dataL, SeqAt.shaped, PyData.canLay0, PyData.canLayAll0, strOk_of, PyData.depth, PyData.depthAll, PyData.eqv, PyData.eqvAll, isiP]

theorem bad_6 (nv : List (Str × Int)) (h : NV nv) (n : Nat) (st : Store) : call T0 (n + 5) "check_condition" [.dct (pk nv), .tup [.str "and", .tup [.str "any"], .tup [.str "zz"]]] st = .exc "BadTerm" [("part", .tup [.str "zz"])] st ∧ eqP (.tup [.str "zz"]) (.tup [.str "zz"]) = some true := by
  refine ⟨?_, by simp [eqP, PV.data, PV.dataL, SeqAt.shaped, PyData.canLay0, PyData.canLayAll0, strOk_of, PyData.depth, PyData.depthAll, PyData.eqv, PyData.eqvAll, isiP]⟩
  obtain ⟨m, m1, m4, hA⟩ := h.getA
  have hZ := h.getZ
  have v1 := g_isvar (pk nv) "a" (n + 4) st (by omega) _ hA
  have v2 := b_isvar (pk nv) "zz" (n + 4) st (by omega) hZ
  have v3 := g_isvar (pk nv) "a" (n + 3) st (by omega) _ hA
  have v4 := b_isvar (pk nv) "zz" (n + 3) st (by omega) hZ
  have r1 := g_isrow [] (n + 4) st (by omega)
  have r2 := g_isrow [.int 9] (n + 4) st (by omega)
  have r3 := b_isrow (n + 4) st (by omega)
  have q1 := g_below 9 m (n + 4) st (by omega)
  have q2 := g_below 10 10 (n + 3) st (by omega)
  have q3 := g_below 1 10 (n + 3) st (by omega)
  have q4 : ¬ (9 : Int) < m := by omega
  have u1 := c_cond2 (n + 4)
  have u2 := c_cond
  have u3 := c_expr
  unfold b_check_condition at u1 u2
  unfold b_check_expression at u3
  simp [Tg.put, wipeE, kvPairs, toKey, iterP, List.replicate, cmpP, isiP, u1, u2, u3, v1, v2, v3, v4, r1, r2, r3, q1, q2, q3, q4, hA, hZ, b1P, boolsP, eqP, PV.data, PV.dataL, SeqAt.shaped, PyData.canLay0, PyData.canLayAll0, strOk_of, PyData.depth, PyData.depthAll, PyData.eqv, PyData.eqvAll, isiP]

theorem bad_7 (nv : List (Str × Int)) (h : NV nv) (n : Nat) (st : Store) : call T0 (n + 5) "check_condition" [.dct (pk nv), .tup [.str "not", .tup [.str "any"], .tup [.str "any"]]] st = .exc "BadTerm" [("part", .tup [.str "not", .tup [.str "any"], .tup [.str "any"]])] st ∧ eqP (.tup [.str "not", .tup [.str "any"], .tup [.str "any"]]) (.tup [.str "not", .tup [.str "any"], .tup [.str "any"]]) = some true := by
  refine ⟨?_, by simp [eqP, PV.data, PV.dataL, SeqAt.shaped, PyData.canLay0, PyData.canLayAll0, strOk_of, PyData.depth, PyData.depthAll, PyData.eqv, PyData.eqvAll, isiP]⟩
  obtain ⟨m, m1, m4, hA⟩ := h.getA
  have hZ := h.getZ
  have v1 := g_isvar (pk nv) "a" (n + 4) st (by omega) _ hA
  have v2 := b_isvar (pk nv) "zz" (n + 4) st (by omega) hZ
  have v3 := g_isvar (pk nv) "a" (n + 3) st (by omega) _ hA
  have v4 := b_isvar (pk nv) "zz" (n + 3) st (by omega) hZ
  have r1 := g_isrow [] (n + 4) st (by omega)
  have r2 := g_isrow [.int 9] (n + 4) st (by omega)
  have r3 := b_isrow (n + 4) st (by omega)
  have q1 := g_below 9 m (n + 4) st (by omega)
  have q2 := g_below 10 10 (n + 3) st (by omega)
  have q3 := g_below 1 10 (n + 3) st (by omega)
  have q4 : ¬ (9 : Int) < m := by omega
  have u1 := c_cond2 (n + 4)
  have u2 := c_cond
  have u3 := c_expr
  unfold b_check_condition at u1 u2
  unfold b_check_expression at u3
  simp [Tg.put, wipeE, kvPairs, toKey, iterP, List.replicate, cmpP, isiP, u1, u2, u3, v1, v2, v3, v4, r1, r2, r3, q1, q2, q3, q4, hA, hZ, b1P, boolsP, eqP, PV.data, PV.dataL, SeqAt.shaped, PyData.canLay0, PyData.canLayAll0, strOk_of, PyData.depth, PyData.depthAll, PyData.eqv, PyData.eqvAll, isiP]

theorem bad_8 (nv : List (Str × Int)) (h : NV nv) (n : Nat) (st : Store) : call T0 (n + 5) "check_condition" [.dct (pk nv), .tup [.str "same", .tup [.str "value", .str "a"], .tup [.str "number", .int 10]]] st = .exc "BadTerm" [("part", .tup [.str "number", .int 10])] st ∧ eqP (.tup [.str "number", .int 10]) (.tup [.str "number", .int 10]) = some true := by
  refine ⟨?_, by simp [eqP, PV.data, PV.dataL, SeqAt.shaped, PyData.canLay0, PyData.canLayAll0, strOk_of, PyData.depth, PyData.depthAll, PyData.eqv, PyData.eqvAll, isiP]⟩
  obtain ⟨m, m1, m4, hA⟩ := h.getA
  have hZ := h.getZ
  have v1 := g_isvar (pk nv) "a" (n + 4) st (by omega) _ hA
  have v2 := b_isvar (pk nv) "zz" (n + 4) st (by omega) hZ
  have v3 := g_isvar (pk nv) "a" (n + 3) st (by omega) _ hA
  have v4 := b_isvar (pk nv) "zz" (n + 3) st (by omega) hZ
  have r1 := g_isrow [] (n + 4) st (by omega)
  have r2 := g_isrow [.int 9] (n + 4) st (by omega)
  have r3 := b_isrow (n + 4) st (by omega)
  have q1 := g_below 9 m (n + 4) st (by omega)
  have q2 := g_below 10 10 (n + 3) st (by omega)
  have q3 := g_below 1 10 (n + 3) st (by omega)
  have q4 : ¬ (9 : Int) < m := by omega
  have u1 := c_cond2 (n + 4)
  have u2 := c_cond
  have u3 := c_expr
  unfold b_check_condition at u1 u2
  unfold b_check_expression at u3
  simp [Tg.put, wipeE, kvPairs, toKey, iterP, List.replicate, cmpP, isiP, u1, u2, u3, v1, v2, v3, v4, r1, r2, r3, q1, q2, q3, q4, hA, hZ, b1P, boolsP, eqP, PV.data, PV.dataL, SeqAt.shaped, PyData.canLay0, PyData.canLayAll0, strOk_of, PyData.depth, PyData.depthAll, PyData.eqv, PyData.eqvAll, isiP]

theorem bad_9 (nv : List (Str × Int)) (h : NV nv) (n : Nat) (st : Store) : call T0 (n + 5) "check_condition" [.dct (pk nv), .tup [.str "less", .tup [.str "value", .str "zz"], .non]] st = .exc "BadTerm" [("part", .tup [.str "value", .str "zz"])] st ∧ eqP (.tup [.str "value", .str "zz"]) (.tup [.str "value", .str "zz"]) = some true := by
  refine ⟨?_, by simp [eqP, PV.data, PV.dataL, SeqAt.shaped, PyData.canLay0, PyData.canLayAll0, strOk_of, PyData.depth, PyData.depthAll, PyData.eqv, PyData.eqvAll, isiP]⟩
  obtain ⟨m, m1, m4, hA⟩ := h.getA
  have hZ := h.getZ
  have v1 := g_isvar (pk nv) "a" (n + 4) st (by omega) _ hA
  have v2 := b_isvar (pk nv) "zz" (n + 4) st (by omega) hZ
  have v3 := g_isvar (pk nv) "a" (n + 3) st (by omega) _ hA
  have v4 := b_isvar (pk nv) "zz" (n + 3) st (by omega) hZ
  have r1 := g_isrow [] (n + 4) st (by omega)
  have r2 := g_isrow [.int 9] (n + 4) st (by omega)
  have r3 := b_isrow (n + 4) st (by omega)
  have q1 := g_below 9 m (n + 4) st (by omega)
  have q2 := g_below 10 10 (n + 3) st (by omega)
  have q3 := g_below 1 10 (n + 3) st (by omega)
  have q4 : ¬ (9 : Int) < m := by omega
  have u1 := c_cond2 (n + 4)
  have u2 := c_cond
  have u3 := c_expr
  unfold b_check_condition at u1 u2
  unfold b_check_expression at u3
  simp [Tg.put, wipeE, kvPairs, toKey, iterP, List.replicate, cmpP, isiP, u1, u2, u3, v1, v2, v3, v4, r1, r2, r3, q1, q2, q3, q4, hA, hZ, b1P, boolsP, eqP, PV.data, PV.dataL, SeqAt.shaped, PyData.canLay0, PyData.canLayAll0, strOk_of, PyData.depth, PyData.depthAll, PyData.eqv, PyData.eqvAll, isiP]

theorem bad_10 (nv : List (Str × Int)) (h : NV nv) (n : Nat) (st : Store) : call T0 (n + 5) "check_condition" [.dct (pk nv), .lst [.str "any"]] st = .exc "BadTerm" [("part", .lst [.str "any"])] st ∧ eqP (.lst [.str "any"]) (.lst [.str "any"]) = some true := by
  refine ⟨?_, by simp [eqP, PV.data, PV.dataL, SeqAt.shaped, PyData.canLay0, PyData.canLayAll0, strOk_of, PyData.depth, PyData.depthAll, PyData.eqv, PyData.eqvAll, isiP]⟩
  obtain ⟨m, m1, m4, hA⟩ := h.getA
  have hZ := h.getZ
  have v1 := g_isvar (pk nv) "a" (n + 4) st (by omega) _ hA
  have v2 := b_isvar (pk nv) "zz" (n + 4) st (by omega) hZ
  have v3 := g_isvar (pk nv) "a" (n + 3) st (by omega) _ hA
  have v4 := b_isvar (pk nv) "zz" (n + 3) st (by omega) hZ
  have r1 := g_isrow [] (n + 4) st (by omega)
  have r2 := g_isrow [.int 9] (n + 4) st (by omega)
  have r3 := b_isrow (n + 4) st (by omega)
  have q1 := g_below 9 m (n + 4) st (by omega)
  have q2 := g_below 10 10 (n + 3) st (by omega)
  have q3 := g_below 1 10 (n + 3) st (by omega)
  have q4 : ¬ (9 : Int) < m := by omega
  have u1 := c_cond2 (n + 4)
  have u2 := c_cond
  have u3 := c_expr
  unfold b_check_condition at u1 u2
  unfold b_check_expression at u3
  simp [Tg.put, wipeE, kvPairs, toKey, iterP, List.replicate, cmpP, isiP, u1, u2, u3, v1, v2, v3, v4, r1, r2, r3, q1, q2, q3, q4, hA, hZ, b1P, boolsP, eqP, PV.data, PV.dataL, SeqAt.shaped, PyData.canLay0, PyData.canLayAll0, strOk_of, PyData.depth, PyData.depthAll, PyData.eqv, PyData.eqvAll, isiP]

theorem bad_11 (nv : List (Str × Int)) (h : NV nv) (n : Nat) (st : Store) : call T0 (n + 5) "check_condition" [.dct (pk nv), .tup [.str "in", .str "a", .non]] st = .exc "BadTerm" [("part", .tup [.str "in", .str "a", .non])] st ∧ eqP (.tup [.str "in", .str "a", .non]) (.tup [.str "in", .str "a", .non]) = some true := by
  refine ⟨?_, by simp [eqP, PV.data, PV.dataL, SeqAt.shaped, PyData.canLay0, PyData.canLayAll0, strOk_of, PyData.depth, PyData.depthAll, PyData.eqv, PyData.eqvAll, isiP]⟩
  obtain ⟨m, m1, m4, hA⟩ := h.getA
  have hZ := h.getZ
  have v1 := g_isvar (pk nv) "a" (n + 4) st (by omega) _ hA
  have v2 := b_isvar (pk nv) "zz" (n + 4) st (by omega) hZ
  have v3 := g_isvar (pk nv) "a" (n + 3) st (by omega) _ hA
  have v4 := b_isvar (pk nv) "zz" (n + 3) st (by omega) hZ
  have r1 := g_isrow [] (n + 4) st (by omega)
  have r2 := g_isrow [.int 9] (n + 4) st (by omega)
  have r3 := b_isrow (n + 4) st (by omega)
  have q1 := g_below 9 m (n + 4) st (by omega)
  have q2 := g_below 10 10 (n + 3) st (by omega)
  have q3 := g_below 1 10 (n + 3) st (by omega)
  have q4 : ¬ (9 : Int) < m := by omega
  have u1 := c_cond2 (n + 4)
  have u2 := c_cond
  have u3 := c_expr
  unfold b_check_condition at u1 u2
  unfold b_check_expression at u3
  simp [Tg.put, wipeE, kvPairs, toKey, iterP, List.replicate, cmpP, isiP, u1, u2, u3, v1, v2, v3, v4, r1, r2, r3, q1, q2, q3, q4, hA, hZ, b1P, boolsP, eqP, PV.data, PV.dataL, SeqAt.shaped, PyData.canLay0, PyData.canLayAll0, strOk_of, PyData.depth, PyData.depthAll, PyData.eqv, PyData.eqvAll, isiP]

theorem bad_12 (nv : List (Str × Int)) (h : NV nv) (n : Nat) (st : Store) : call T0 (n + 5) "check_condition" [.dct (pk nv), .tup [.str "same", .tup [.str "plus", .tup [.str "number", .int 1]], .tup [.str "number", .int 1]]] st = .exc "BadTerm" [("part", .tup [.str "plus", .tup [.str "number", .int 1]])] st ∧ eqP (.tup [.str "plus", .tup [.str "number", .int 1]]) (.tup [.str "plus", .tup [.str "number", .int 1]]) = some true := by
  refine ⟨?_, by simp [eqP, PV.data, PV.dataL, SeqAt.shaped, PyData.canLay0, PyData.canLayAll0, strOk_of, PyData.depth, PyData.depthAll, PyData.eqv, PyData.eqvAll, isiP]⟩
  obtain ⟨m, m1, m4, hA⟩ := h.getA
  have hZ := h.getZ
  have v1 := g_isvar (pk nv) "a" (n + 4) st (by omega) _ hA
  have v2 := b_isvar (pk nv) "zz" (n + 4) st (by omega) hZ
  have v3 := g_isvar (pk nv) "a" (n + 3) st (by omega) _ hA
  have v4 := b_isvar (pk nv) "zz" (n + 3) st (by omega) hZ
  have r1 := g_isrow [] (n + 4) st (by omega)
  have r2 := g_isrow [.int 9] (n + 4) st (by omega)
  have r3 := b_isrow (n + 4) st (by omega)
  have q1 := g_below 9 m (n + 4) st (by omega)
  have q2 := g_below 10 10 (n + 3) st (by omega)
  have q3 := g_below 1 10 (n + 3) st (by omega)
  have q4 : ¬ (9 : Int) < m := by omega
  have u1 := c_cond2 (n + 4)
  have u2 := c_cond
  have u3 := c_expr
  unfold b_check_condition at u1 u2
  unfold b_check_expression at u3
  simp [Tg.put, wipeE, kvPairs, toKey, iterP, List.replicate, cmpP, isiP, u1, u2, u3, v1, v2, v3, v4, r1, r2, r3, q1, q2, q3, q4, hA, hZ, b1P, boolsP, eqP, PV.data, PV.dataL, SeqAt.shaped, PyData.canLay0, PyData.canLayAll0, strOk_of, PyData.depth, PyData.depthAll, PyData.eqv, PyData.eqvAll, isiP]

theorem bad_13 (nv : List (Str × Int)) (h : NV nv) (n : Nat) (st : Store) : call T0 (n + 5) "check_condition" [.dct (pk nv), .tup [.str "less", .tup [.str "if", .tup [.str "zz"], .tup [.str "number", .int 1], .tup [.str "number", .int 1]], .tup [.str "number", .int 1]]] st = .exc "BadTerm" [("part", .tup [.str "zz"])] st ∧ eqP (.tup [.str "zz"]) (.tup [.str "zz"]) = some true := by
  refine ⟨?_, by simp [eqP, PV.data, PV.dataL, SeqAt.shaped, PyData.canLay0, PyData.canLayAll0, strOk_of, PyData.depth, PyData.depthAll, PyData.eqv, PyData.eqvAll, isiP]⟩
  obtain ⟨m, m1, m4, hA⟩ := h.getA
  have hZ := h.getZ
  have v1 := g_isvar (pk nv) "a" (n + 4) st (by omega) _ hA
  have v2 := b_isvar (pk nv) "zz" (n + 4) st (by omega) hZ
  have v3 := g_isvar (pk nv) "a" (n + 3) st (by omega) _ hA
  have v4 := b_isvar (pk nv) "zz" (n + 3) st (by omega) hZ
  have r1 := g_isrow [] (n + 4) st (by omega)
  have r2 := g_isrow [.int 9] (n + 4) st (by omega)
  have r3 := b_isrow (n + 4) st (by omega)
  have q1 := g_below 9 m (n + 4) st (by omega)
  have q2 := g_below 10 10 (n + 3) st (by omega)
  have q3 := g_below 1 10 (n + 3) st (by omega)
  have q4 : ¬ (9 : Int) < m := by omega
  have u1 := c_cond2 (n + 4)
  have u2 := c_cond
  have u3 := c_expr
  unfold b_check_condition at u1 u2
  unfold b_check_expression at u3
  simp [Tg.put, wipeE, kvPairs, toKey, iterP, List.replicate, cmpP, isiP, u1, u2, u3, v1, v2, v3, v4, r1, r2, r3, q1, q2, q3, q4, hA, hZ, b1P, boolsP, eqP, PV.data, PV.dataL, SeqAt.shaped, PyData.canLay0, PyData.canLayAll0, strOk_of, PyData.depth, PyData.depthAll, PyData.eqv, PyData.eqvAll, isiP]

theorem bad_all (nv : List (Str × Int)) (h : NV nv) (n : Nat) (st : Store) : ∀ p ∈ knownL, call T0 (n + 5) "check_condition" [.dct (pk nv), p.1] st = .exc "BadTerm" [("part", p.2)] st ∧ eqP p.2 p.2 = some true := by
  intro p hp
  simp only [knownL, List.mem_cons, List.not_mem_nil, or_false] at hp
  rcases hp with rfl | rfl | rfl | rfl | rfl | rfl | rfl | rfl | rfl | rfl | rfl | rfl | rfl | rfl
  · exact bad_0 nv h n st
  · exact bad_1 nv h n st
  · exact bad_2 nv h n st
  · exact bad_3 nv h n st
  · exact bad_4 nv h n st
  · exact bad_5 nv h n st
  · exact bad_6 nv h n st
  · exact bad_7 nv h n st
  · exact bad_8 nv h n st
  · exact bad_9 nv h n st
  · exact bad_10 nv h n st
  · exact bad_11 nv h n st
  · exact bad_12 nv h n st
  · exact bad_13 nv h n st
end PC
set_option autoImplicit true
set_option linter.all false
set_option maxRecDepth 100000
set_option maxHeartbeats 0
namespace PC
open PySem
def ntK : Nat → Tm
  | 0 => .any
  | k + 1 => .nt (ntK k)
def plK : Nat → Tm
  | 0 => .num 1
  | k + 1 => .ar true (plK k) (.num 0)
theorem ntK_dp : ∀ k, (ntK k).dp = k + 1
  | 0 => rfl
  | k + 1 => by simp [ntK, Tm.dp, ntK_dp k]
theorem plK_dp : ∀ k, (plK k).dp = k + 1
  | 0 => rfl
  | k + 1 => by simp [plK, Tm.dp, plK_dp k]
theorem ntK_wf (B) : ∀ k, (ntK k).wf B true
  | 0 => trivial
  | k + 1 => ntK_wf B k
theorem plK_wf (B) : ∀ k, (plK k).wf B false
  | 0 => by simp [plK, Tm.wf]
  | k + 1 => ⟨plK_wf B k, by simp [Tm.wf]⟩
theorem ntK_deep (kvs : List (Key × PV)) (st : Store) : ∀ (k n : Nat), k ≤ 50 → k + 1 ≤ n → call T0 n "check_condition" [.dct kvs, (ntK k).pv, .int k] st = .exc "BadTerm" [("part", Tm.any.pv)] st
  | 0, n, hk, hn => by
    cases n with
    | zero => omega
    | succ n =>
      rw [c_cond]; unfold b_check_condition
      simp [Tg.put, wipeE, kvPairs, toKey, iterP, List.replicate, cmpP, isiP, ntK, Tm.pv, eqP_int]
  | k + 1, n, hk, hn => by
    cases n with
    | zero => omega
    | succ n =>
      have e := ntK_deep kvs st k n (by omega) (by omega)
      obtain ⟨ds, hD⟩ := pv_data (fun _ => none) (by simp) (ntK (k + 1)) true (ntK_wf _ _)
      have e0 := eqP_nil hD (by rw [ntK_dp]; omega)
      have hz : ¬ ((k : Int) + 1 = 0) := by omega
      have hz2 : (k : Int) + 1 - 1 = k := by omega
      rw [c_cond]; unfold b_check_condition
      simp only [ntK, Tm.pv] at e0
      simp [Tg.put, wipeE, kvPairs, toKey, iterP, List.replicate, cmpP, isiP, ntK, Tm.pv, eqP_int, eqP_str, hz, hz2, e0, b1P]
      simp only [Tm.pv] at e
      simp [e]
theorem plK_deep (kvs : List (Key × PV)) (st : Store) : ∀ (k n : Nat), k ≤ 50 → k + 1 ≤ n → call T0 n "check_expression" [.dct kvs, (plK k).pv, .int k] st = .exc "BadTerm" [("part", (Tm.num 1).pv)] st
  | 0, n, hk, hn => by
    cases n with
    | zero => omega
    | succ n =>
      rw [c_expr]; unfold b_check_expression
      simp [Tg.put, wipeE, kvPairs, toKey, iterP, List.replicate, cmpP, isiP, plK, Tm.pv, eqP_int]
  | k + 1, n, hk, hn => by
    cases n with
    | zero => omega
    | succ n =>
      have e := plK_deep kvs st k n (by omega) (by omega)
      have hz : ¬ ((k : Int) + 1 = 0) := by omega
      have hz2 : (k : Int) + 1 - 1 = k := by omega
      rw [c_expr]; unfold b_check_expression
      simp [Tg.put, wipeE, kvPairs, toKey, iterP, List.replicate, cmpP, isiP, plK, Tm.pv, eqP_int, eqP_str, hz, hz2, b1P]
      simp only [Tm.pv] at e
      simp [e]
theorem cond_dfl (n : Nat) (a b : PV) (st : Store) : call T0 n "check_condition" [a, b] st = call T0 n "check_condition" [a, b, .int 8] st := by
  cases n with
  | zero => rfl
  | succ n => rw [c_cond2, c_cond]
theorem expr_dfl (n : Nat) (a b : PV) (st : Store) : call T0 n "check_expression" [a, b] st = call T0 n "check_expression" [a, b, .int 8] st := by
  cases n with
  | zero => rfl
  | succ n => rw [c_expr2, c_expr]
theorem ok_any : eqP Tm.any.pv Tm.any.pv = some true := by
  simp [Tm.pv, eqP, PV.data, PV.dataL, SeqAt.shaped, PyData.canLay0, PyData.canLayAll0, strOk_of, PyData.depth, PyData.depthAll, PyData.eqv, PyData.eqvAll]
theorem ok_one : eqP (Tm.num 1).pv (Tm.num 1).pv = some true := by
  simp [Tm.pv, eqP, PV.data, PV.dataL, SeqAt.shaped, PyData.canLay0, PyData.canLayAll0, strOk_of, PyData.depth, PyData.depthAll, PyData.eqv, PyData.eqvAll]
theorem eqP_strs (l : List Str) (h : ∀ x ∈ l, PyData.strOk x = true) : eqP (.lst (l.map .str)) (.lst (l.map .str)) = some true := by
  have e : PV.dataL (l.map PV.str) = some (l.map PyData.str) := by
    induction l with
    | nil => rfl
    | cons x l ih => simp [PV.dataL, PV.data, ih (fun y hy => h y (by simp [hy]))]
  have e1 : PyData.canLayAll0 (l.map PyData.str) = true := by
    induction l with
    | nil => rfl
    | cons x l ih =>
      have := ih (fun y hy => h y (by simp [hy])) (by
        clear ih e h
        induction l with
        | nil => rfl
        | cons x l ih => simp [PV.dataL, PV.data, ih])
      simp [PyData.canLayAll0, PyData.canLay0, h x (by simp), this]
  have e2 : PyData.depthAll (l.map PyData.str) = 0 := by
    clear e e1 h
    induction l with
    | nil => rfl
    | cons x l ih => simp [PyData.depthAll, PyData.depth, ih]
  have s : SeqAt.shaped (.list (l.map PyData.str)) = true := by simp [SeqAt.shaped, PyData.canLay0, e1, PyData.depth, e2]
  have q := SeqAt.eqv_refl (.list (l.map PyData.str)) (Bool.and_eq_true_iff.mp s).1
  have e3 : PV.data (.lst (l.map .str)) = some (.list (l.map PyData.str)) := by simp [PV.data, e]
  unfold eqP
  rw [e3]; simp [s, q]
theorem mem_ins {α : Type} (le : α → α → Bool) (a x : α) : ∀ l : List α, x ∈ ins le a l → x = a ∨ x ∈ l
  | [], h => by simp [ins] at h; exact Or.inl h
  | b :: r, h => by
    unfold ins at h
    split at h
    · simp at h ⊢; exact h
    · rcases List.mem_cons.mp h with rfl | h
      · simp
      · rcases mem_ins le a x r h with rfl | h
        · simp
        · simp [h]
theorem mem_isort {α : Type} (le : α → α → Bool) (x : α) : ∀ l : List α, x ∈ isort le l → x ∈ l
  | [], h => h
  | a :: l, h => by
    rcases mem_ins le a x _ h with rfl | h
    · simp
    · simp [mem_isort le x l h]
theorem sorted_kd (l : List Str) (h : l.length < 64) : b1P .sorted (.dct (kd (onceS l))) = some (.lst ((sortS (onceS l)).map .str)) := by
  have hl := once_len l
  have e : (kd (onceS l)).map (fun kv => kP kv.1) = (onceS l).map PV.str := by simp [kd, kP, List.map_map, Function.comp_def]
  show (if (kd (onceS l)).length < 64 then sortL _ else none) = _
  rw [if_pos (by rw [len_kd]; omega), e]
  unfold sortL
  cases hc : onceS l with
  | nil => rfl
  | cons x r =>
    have : intsP ((x :: r).map PV.str) = none := rfl
    rw [this, strsP_map]
    simp only []
    rw [if_pos (by rw [← hc]; omega)]
theorem setSorted_names (l : List Str) (h : l.length < 64) : b1P .setSorted (.lst (l.map .str)) = some (.lst ((sortS (onceS l)).map .str)) := by
  show (match strsP (l.map PV.str) with
    | some ss => if ss.length < 64 then some (PV.lst ((sortS ss.eraseDups).map .str)) else none
    | none => none) = _
  rw [strsP_map]
  simp only []
  rw [if_pos h, erase_once]
theorem names_len : ∀ t : Tm, t.names.length ≤ 3 ^ (t.dp - 1) ∧ 1 ≤ t.dp := by
  intro t
  induction t with
  | any => simp [Tm.names, Tm.dp]
  | inn x vs => simp [Tm.names, Tm.dp]
  | num i => simp [Tm.names, Tm.dp]
  | val x => simp [Tm.names, Tm.dp]
  | nt c ih =>
    refine ⟨?_, by simp [Tm.dp]⟩
    simp only [Tm.names, Tm.dp, Nat.add_sub_cancel]
    exact Nat.le_trans ih.1 (Nat.pow_le_pow_right (by decide) (by omega))
  | con k a b iha ihb =>
    refine ⟨?_, by simp [Tm.dp]⟩
    simp only [Tm.names, Tm.dp, Nat.add_sub_cancel, List.length_append]
    have h1 : 3 ^ (a.dp - 1) ≤ 3 ^ (max a.dp b.dp - 1) := Nat.pow_le_pow_right (by decide) (by omega)
    have h2 : 3 ^ (b.dp - 1) ≤ 3 ^ (max a.dp b.dp - 1) := Nat.pow_le_pow_right (by decide) (by omega)
    have h3 : 3 ^ (max a.dp b.dp) = 3 ^ (max a.dp b.dp - 1) * 3 := by
      rw [← Nat.pow_succ]; congr 1; omega
    omega
  | cmp k a b iha ihb =>
    refine ⟨?_, by simp [Tm.dp]⟩
    simp only [Tm.names, Tm.dp, Nat.add_sub_cancel, List.length_append]
    have h1 : 3 ^ (a.dp - 1) ≤ 3 ^ (max a.dp b.dp - 1) := Nat.pow_le_pow_right (by decide) (by omega)
    have h2 : 3 ^ (b.dp - 1) ≤ 3 ^ (max a.dp b.dp - 1) := Nat.pow_le_pow_right (by decide) (by omega)
    have h3 : 3 ^ (max a.dp b.dp) = 3 ^ (max a.dp b.dp - 1) * 3 := by
      rw [← Nat.pow_succ]; congr 1; omega
    omega
  | ar k a b iha ihb =>
    refine ⟨?_, by simp [Tm.dp]⟩
    simp only [Tm.names, Tm.dp, Nat.add_sub_cancel, List.length_append]
    have h1 : 3 ^ (a.dp - 1) ≤ 3 ^ (max a.dp b.dp - 1) := Nat.pow_le_pow_right (by decide) (by omega)
    have h2 : 3 ^ (b.dp - 1) ≤ 3 ^ (max a.dp b.dp - 1) := Nat.pow_le_pow_right (by decide) (by omega)
    have h3 : 3 ^ (max a.dp b.dp) = 3 ^ (max a.dp b.dp - 1) * 3 := by
      rw [← Nat.pow_succ]; congr 1; omega
    omega
  | ife c a b ihc iha ihb =>
    refine ⟨?_, by simp [Tm.dp]⟩
    simp only [Tm.names, Tm.dp, Nat.add_sub_cancel, List.length_append]
    have h0 : 3 ^ (c.dp - 1) ≤ 3 ^ (max c.dp (max a.dp b.dp) - 1) := Nat.pow_le_pow_right (by decide) (by omega)
    have h1 : 3 ^ (a.dp - 1) ≤ 3 ^ (max c.dp (max a.dp b.dp) - 1) := Nat.pow_le_pow_right (by decide) (by omega)
    have h2 : 3 ^ (b.dp - 1) ≤ 3 ^ (max c.dp (max a.dp b.dp) - 1) := Nat.pow_le_pow_right (by decide) (by omega)
    have h3 : 3 ^ (max c.dp (max a.dp b.dp)) = 3 ^ (max c.dp (max a.dp b.dp) - 1) * 3 := by
      rw [← Nat.pow_succ]; congr 1; omega
    omega
theorem names_in_B (B : Str → Option Int) : ∀ (t : Tm) (k : Bool), t.wf B k → ∀ x ∈ t.names, ∃ n, B x = some n := by
  intro t
  induction t with
  | any => intro k h x hx; simp [Tm.names] at hx
  | num i => intro k h x hx; simp [Tm.names] at hx
  | inn y vs => intro k h x hx; cases k; exact h.elim; simp [Tm.names] at hx; subst hx; obtain ⟨m, hm, _⟩ := h; exact ⟨m, hm⟩
  | val y => intro k h x hx; cases k; simp [Tm.names] at hx; subst hx; exact h; exact h.elim
  | nt c ih => intro k h x hx; cases k; exact h.elim; exact ih true h x hx
  | con w a b iha ihb => intro k h x hx; cases k; exact h.elim; rcases List.mem_append.mp hx with q | q; exact iha true h.1 x q; exact ihb true h.2 x q
  | cmp w a b iha ihb => intro k h x hx; cases k; exact h.elim; rcases List.mem_append.mp hx with q | q; exact iha false h.1 x q; exact ihb false h.2 x q
  | ar w a b iha ihb => intro k h x hx; cases k; rcases List.mem_append.mp hx with q | q; exact iha false h.1 x q; exact ihb false h.2 x q; exact h.elim
  | ife c a b ihc iha ihb =>
    intro k h x hx; cases k
    · rcases List.mem_append.mp hx with q | q
      · rcases List.mem_append.mp q with q | q
        · exact ihc true h.1 x q
        · exact iha false h.2.1 x q
      · exact ihb false h.2.2 x q
    · exact h.elim
end PC
set_option autoImplicit true
set_option linter.all false
set_option maxRecDepth 100000
set_option maxHeartbeats 0
namespace PC
open PySem
def knownP : List PV := knownL.map fun p => .tup [p.1, p.2]
def L3 : CB := fb (b_law.nth 17)
def L4 : CB := fb (b_law.nth 19)
@[simp] theorem partR_ok (c f : Str) (v : PV) (st : Store) : partR c f (.ok v st) = .ok (.str "none") st := rfl
theorem partR_exc (c f : Str) (v : PV) (st : Store) : partR c f (.exc c [(f, v)] st) = .ok v st := by simp [partR]
theorem L3_ok (nv : List (Str × Int)) (h : NV nv) (sc : List Int) (hl : sc.length ≤ 63) (n : Nat) (hn : 6 ≤ n) (c : Int) (hc : 0 ≤ c) (e0 e3 e4 e5 e6 e7 e8 e9 e10 e11 e12 e14 e15 e16 e17 : Option Slot) :
    ∃ u15 u16, evB (call T0 n) L3 [e0, some (.val (.rf 0)), some (.val (.dct (pk nv))), e3, e4, e5, e6, e7, e8, e9, e10, e11, e12, some (.val (.lst knownP)), e14, e15, e16, e17] (D sc c) = .nx [e0, some (.val (.rf 0)), some (.val (.dct (pk nv))), e3, e4, e5, e6, e7, e8, e9, e10, e11, e12, some (.val (.lst knownP)), e14, u15, u16, e17] (D sc (c + 1)) := by
  obtain ⟨x, hx, e⟩ := g_pick sc hl c hc knownP (by simp [knownP, knownL]) n (by omega)
  obtain ⟨p, hp, rfl⟩ := List.mem_map.mp hx
  obtain ⟨k, hk⟩ : ∃ k, n = k + 5 := ⟨n - 5, by omega⟩
  obtain ⟨b1, b2⟩ := bad_all nv h k (D sc (c + 1)) p hp
  rw [← hk] at b1
  refine ⟨some (.val p.1), some (.val p.2), ?_⟩
  rw [show L3 = .cons _ (.cons _ .nil) from rfl]
  simp [Tg.put, wipeE, kvPairs, toKey, iterP, List.replicate, cmpP, isiP, e, b1, partR_exc, b2]
theorem L4_ok (G : Ops) (k : Nat) (st : Store) (e0 e1 e2 e3 e4 e5 e6 e7 e8 e9 e10 e12 e13 e14 e15 e16 : Option Slot) :
    evB G L4 [e0, e1, e2, e3, e4, e5, e6, e7, e8, e9, e10, some (.val (plK k).pv), e12, e13, e14, e15, e16, some (.val (ntK k).pv)] st = .nx [e0, e1, e2, e3, e4, e5, e6, e7, e8, e9, e10, some (.val (plK (k + 1)).pv), e12, e13, e14, e15, e16, some (.val (ntK (k + 1)).pv)] st := by
  rw [show L4 = .cons _ .nil from rfl]
  simp [Tg.put, wipeE, kvPairs, toKey, iterP, List.replicate, cmpP, isiP, plK, ntK, Tm.pv]
theorem rg4 : List.range 4 = [0, 1, 2, 3] := rfl
theorem rg7 : List.range 7 = [0, 1, 2, 3, 4, 5, 6] := rfl
theorem stC (nv : List (Str × Int)) (h : NV nv) (sc : List Int) (hl : sc.length ≤ 63) (n : Nat) (hn : 20 ≤ n) (c : Int) (hc : 0 ≤ c) (e0 e3 e4 e5 e6 e7 e8 e9 e10 e11 e12 e14 e15 e16 e17 : Option Slot) :
    ∃ st, endR (evB (call T0 n) (b_law.dr 17) [e0, some (.val (.rf 0)), some (.val (.dct (pk nv))), e3, e4, e5, e6, e7, e8, e9, e10, e11, e12, some (.val (.lst knownP)), e14, e15, e16, e17] (D sc c)) = .ok (.bl true) st := by
  rw [show b_law.dr 17 = .cons (.for_ (.one 14) _ L3) (.cons _ (.cons (.for_ (.one 14) _ L4) (.cons _ (.cons _ (.cons _ (.cons _ .nil)))))) from rfl]
  obtain ⟨a1, b1, r1⟩ := L3_ok nv h sc hl n (by omega) c hc e0 e3 e4 e5 e6 e7 e8 e9 e10 e11 e12 (some (.val (.int 0))) e15 e16 e17
  obtain ⟨a2, b2, r2⟩ := L3_ok nv h sc hl n (by omega) (c + 1) (by omega) e0 e3 e4 e5 e6 e7 e8 e9 e10 e11 e12 (some (.val (.int 1))) a1 b1 e17
  obtain ⟨a3, b3, r3⟩ := L3_ok nv h sc hl n (by omega) (c + 1 + 1) (by omega) e0 e3 e4 e5 e6 e7 e8 e9 e10 e11 e12 (some (.val (.int 2))) a2 b2 e17
  obtain ⟨a4, b4, r4⟩ := L3_ok nv h sc hl n (by omega) (c + 1 + 1 + 1) (by omega) e0 e3 e4 e5 e6 e7 e8 e9 e10 e11 e12 (some (.val (.int 3))) a3 b3 e17
  refine ⟨D sc (c + 1 + 1 + 1 + 1), ?_⟩
  generalize hst : D sc (c + 1 + 1 + 1 + 1) = st at r4 ⊢
  have B := fun x n (hx : lkp nv x = some n) => (show dget (pk nv) (.inr x) = some (.int n) by rw [dget_pk, hx]; rfl)
  have k1 := cond_dfl n (.dct (pk nv)) (ntK 7).pv st
  rw [(sound_check (lkp nv) (pk nv) B h.ok st (ntK 7) n 8 (by rw [ntK_dp]; decide) (by rw [ntK_dp]; decide) (by rw [ntK_dp]; omega)).1 (ntK_wf _ 7)] at k1
  have k2 := cond_dfl n (.dct (pk nv)) (ntK 8).pv st
  rw [show (8 : Int) = ((8 : Nat) : Int) from rfl, ntK_deep (pk nv) st 8 n (by decide) (by omega)] at k2
  have k3 := expr_dfl n (.dct (pk nv)) (plK 7).pv st
  rw [(sound_check (lkp nv) (pk nv) B h.ok st (plK 7) n 8 (by rw [plK_dp]; decide) (by rw [plK_dp]; decide) (by rw [plK_dp]; omega)).2 (plK_wf _ 7)] at k3
  have k4 := expr_dfl n (.dct (pk nv)) (plK 8).pv st
  rw [show (8 : Int) = ((8 : Nat) : Int) from rfl, plK_deep (pk nv) st 8 n (by decide) (by omega)] at k4
  have z1 := ok_any
  have z2 := ok_one
  have w1 : (ntK 8).pv = .tup [.str "not", (ntK 7).pv] := rfl
  have w2 : (plK 8).pv = .tup [.str "plus", (plK 7).pv, .tup [.str "number", .int 0]] := rfl
  have w3 : Tm.any.pv = .tup [.str "any"] := rfl
  have w4 : (Tm.num 1).pv = .tup [.str "number", .int 1] := rfl
  have w5 : PV.tup [.str "any"] = (ntK 0).pv := rfl
  have w6 : PV.tup [.str "number", .int 1] = (plK 0).pv := rfl
  have l4 := L4_ok (call T0 n)
  rw [w1, show Tm.any.pv = (ntK 0).pv from rfl] at k2
  rw [w2, show (Tm.num 1).pv = (plK 0).pv from rfl] at k4
  rw [show Tm.any.pv = (ntK 0).pv from rfl] at z1
  rw [show (Tm.num 1).pv = (plK 0).pv from rfl] at z2
  simp [Tg.put, wipeE, kvPairs, toKey, iterP, List.replicate, cmpP, isiP, rg4, r1, r2, r3, r4]
  rw [show PV.tup [PV.str (Str.ofString "any")] = (ntK 0).pv from rfl, show PV.tup [PV.str (Str.ofString "number"), PV.int 1] = (plK 0).pv from rfl]
  have y1 : eqP (ntK 0).pv (.tup [.str "any"]) = some true := z1
  have y2 : eqP (plK 0).pv (.tup [.str "number", .int 1]) = some true := z2
  simp [Tg.put, wipeE, kvPairs, toKey, iterP, List.replicate, cmpP, isiP, rg7, l4, k1, k2, k3, k4, partR_exc, eqP_str, y1, y2]
/-- from the names on -/
theorem stB (nv : List (Str × Int)) (h : NV nv) (one num : Tm) (w1 : one.wf (lkp nv) true) (w3 : num.wf (lkp nv) false) (d1 : one.dp ≤ 4) (d3 : num.dp ≤ 4) (sc : List Int) (hl : sc.length ≤ 63) (n : Nat) (hn : 20 ≤ n) (c : Int) (hc : 0 ≤ c) (e0 e3 e6 e9 e10 e11 e12 : Option Slot) :
    ∃ st, endR (evB (call T0 n) (b_law.dr 8) [e0, some (.val (.rf 0)), some (.val (.dct (pk nv))), e3, some (.val (.dct (toldP nv))), some (.val one.pv), e6, some (.val num.pv), some (.val (.lst ((stAll [[]] nv).map rowP))), e9, e10, e11, e12, none, none, none, none, none] (D sc c)) = .ok (.bl true) st := by
  rw [show b_law.dr 8 = .cons _ (.cons (.set 12 (setE (b_law.nth 9))) (.cons (.for_ (.one 9) _ L2) (.cons _ (.cons _ (.cons _ (.cons _ (.cons _ (.cons _ (b_law.dr 17))))))))) from rfl]
  have l1 : one.names.length < 64 := by
    have := (names_len one).1
    have h2 : 3 ^ (one.dp - 1) ≤ 3 ^ 3 := Nat.pow_le_pow_right (by decide) (by omega)
    omega
  have l3 : num.names.length < 64 := by
    have := (names_len num).1
    have h2 : 3 ^ (num.dp - 1) ≤ 3 ^ 3 := Nat.pow_le_pow_right (by decide) (by omega)
    omega
  have n1 := sound_names (D sc c) one n (by omega) (by omega)
  have n3 := sound_names (D sc c) num n (by omega) (by omega)
  have m1 := sound_lnames (D sc c) one n (by omega) (by omega)
  have m3 := sound_lnames (D sc c) num n (by omega) (by omega)
  have p1 := sorted_kd one.names l1
  have p3 := sorted_kd num.names l3
  have q1 := setSorted_names one.names l1
  have q3 := setSorted_names num.names l3
  have okn : ∀ (t : Tm) (k : Bool), t.wf (lkp nv) k → ∀ x ∈ sortS (onceS t.names), PyData.strOk x = true := fun t k hw x hx => by
    have := mem_isort leS x _ hx
    have : x ∈ t.names := by
      have := (mem_foldK t.names [] x).mp this
      simpa using this
    obtain ⟨m, hm⟩ := names_in_B (lkp nv) t k hw x this
    exact h.ok x m hm
  have s1 := eqP_strs _ (okn one true w1)
  have s3 := eqP_strs _ (okn num false w3)
  obtain ⟨ys, c2, hc2, hys, hnd, eN⟩ := lawN sc hl n (by omega) c hc nv h e0 e3 [some (.val (.dct (toldP nv))), some (.val one.pv), e6, some (.val num.pv), some (.val (.lst ((stAll [[]] nv).map rowP))), e9, e10, e11, e12, none, none, none, none, none]
  have hcut : ∃ rows : List (List Int), slcP (.lst ((stAll [[]] nv).map rowP)) none (some 20) = some (.lst (rows.map rowP)) ∧ ∀ q ∈ rows, q.length = nv.length := by
    refine ⟨((stAll [[]] nv).drop (HT.sIx ((stAll [[]] nv).map rowP).length 0 none)).take (HT.sIx ((stAll [[]] nv).map rowP).length ((stAll [[]] nv).map rowP).length (some 20) - HT.sIx ((stAll [[]] nv).map rowP).length 0 none), ?_, ?_⟩
    · rw [List.map_take, List.map_drop]; rfl
    · intro q hq
      exact (rows_bnd h q (List.mem_of_mem_drop (List.mem_of_mem_take hq))).1
  obtain ⟨rows, hcut, hrl⟩ := hcut
  obtain ⟨ρ2, st2, eL, u9, u10, u11, h9, rfl⟩ := forF_inv (put := (Tg.one 9).put) (body := evB (call T0 n) L2) (fun ρ s => ∃ u9 u10 u11 : Option Slot, ρ = [e0, some (.val (.rf 0)), some (.val (.dct (pk nv))), e3, some (.val (.dct (toldP nv))), some (.val one.pv), e6, some (.val num.pv), some (.val (.lst ((stAll [[]] nv).map rowP))), u9, u10, u11, some (.val (.dct (nmD ys))), none, none, none, none, none] ∧ s = D sc c2) (rows.map rowP)
    [e0, some (.val (.rf 0)), some (.val (.dct (pk nv))), e3, some (.val (.dct (toldP nv))), some (.val one.pv), e6, some (.val num.pv), some (.val (.lst ((stAll [[]] nv).map rowP))), e9, e10, e11, some (.val (.dct (nmD ys))), none, none, none, none, none] (D sc c2) ⟨e9, e10, e11, rfl, rfl⟩ (by
      intro x hx ρ s hP
      obtain ⟨u9, u10, u11, rfl, rfl⟩ := hP
      obtain ⟨q, hq, rfl⟩ := List.mem_map.mp hx
      exact ⟨_, _, _, rfl, L2_ok nv h one num w1 w3 d1 d3 ys hys q (hrl q hq) n (by omega) (D sc c2) e0 (some (.val (.rf 0))) (some (.val (.dct (pk nv)))) e3 e6 _ u10 u11 [none, none, none, none, none], _, _, _, rfl, rfl⟩)
  subst h9
  obtain ⟨st3, e3'⟩ := stC nv h sc hl n hn c2 hc2 e0 e3 (some (.val (.dct (toldP nv)))) (some (.val one.pv)) e6 (some (.val num.pv)) (some (.val (.lst ((stAll [[]] nv).map rowP)))) u9 u10 u11 (some (.val (.dct (nmD ys)))) none none none none
  refine ⟨st3, ?_⟩
  have k0 : call T0 n "kept" [.tup [.str "in", .str "a", .lst [.int 0, .int 0]]] (D sc c2) = .ok (.tup [.str "in", .str "a", .tup [.int 0]]) (D sc c2) := by
    obtain ⟨k, rfl⟩ : ∃ k, n = k + 1 := ⟨n - 1, by omega⟩
    rw [c_kept]; unfold b_kept
    simp [Tg.put, wipeE, kvPairs, toKey, iterP, List.replicate, cmpP, isiP, eqP_str, dput, b1P, sortL, intsP, sortI, isort, ins, kP]
  have k1 := sound_kept (lkp nv) (D sc c2) one true n (by omega) w1
  have z0 : eqP (.tup [.str "in", .str "a", .tup [.int 0]]) (.tup [.str "in", .str "a", .tup [.int 0]]) = some true := by
    simp [eqP, PV.data, PV.dataL, SeqAt.shaped, PyData.canLay0, PyData.canLayAll0, strOk_of, PyData.depth, PyData.depthAll, PyData.eqv, PyData.eqvAll]
  obtain ⟨ds, hD⟩ := pv_data (lkp nv) h.ok one true w1
  have z1 := eqP_self hD (by omega)
  simp [Tg.put, wipeE, kvPairs, toKey, iterP, List.replicate, cmpP, isiP, n1, n3, m1, m3, p1, p3, q1, q3, s1, s3, eN, hcut, eL, k0, k1, z0, z1, binP]
  exact e3'
theorem law_true (sc : List Int) (hl : sc.length ≤ 63) : ∃ st, bodyR (call T0 30) f_law [.lst (sc.map .int)] [] = .ok (.bl true) st := by
  obtain ⟨nv, c, hc, h, eA⟩ := lawA sc hl 30 (by decide) (some (.val (.lst (sc.map .int)))) [none, none, none, none, none, none, none, none, none, none, none, none, none, none]
  obtain ⟨one, c1, hc1, w1, d1, e1⟩ := (g_draw h.vb sc hl 3 30 c hc (by decide)).2
  obtain ⟨other, c2, hc2, w2, d2, e2⟩ := (g_draw h.vb sc hl 2 30 c1 hc1 (by decide)).2
  obtain ⟨num, c3, hc3, w3, d3, e3⟩ := (g_draw h.vb sc hl 3 30 c2 hc2 (by decide)).1
  have B := fun x n (hx : lkp nv x = some n) => (show dget (pk nv) (.inr x) = some (.int n) by rw [dget_pk, hx]; rfl)
  have k1 := cond_dfl 30 (.dct (pk nv)) one.pv (D sc c3)
  rw [(sound_check (lkp nv) (pk nv) B h.ok (D sc c3) one 30 8 (by omega) (by omega) (by omega)).1 w1] at k1
  have k3 := expr_dfl 30 (.dct (pk nv)) num.pv (D sc c3)
  rw [(sound_check (lkp nv) (pk nv) B h.ok (D sc c3) num 30 8 (by omega) (by omega) (by omega)).2 w3] at k3
  have hs := g_states (toldP nv) (pk nv) (told_v nv) nv h.len (by rw [h.srt, List.map_map]; rfl) (fun p hp => by
    have := lkp_mem nv h.nodup p hp
    exact ⟨by rw [dget_pk, this]; rfl, h.b p hp⟩) 30 (by decide) (D sc c3)
  obtain ⟨ρ2, st2, eL, ⟨u9, u10, h9⟩, rfl⟩ := forF_inv (put := (Tg.one 9).put) (body := evB (call T0 30) L1) (fun ρ s => (∃ u9 u10 : Option Slot, ρ = [some (.val (.lst (sc.map .int))), some (.val (.rf 0)), some (.val (.dct (pk nv))), none, some (.val (.dct (toldP nv))), some (.val one.pv), some (.val other.pv), some (.val num.pv), some (.val (.lst ((stAll [[]] nv).map rowP))), u9, u10, none, none, none, none, none, none, none]) ∧ s = D sc c3) ((stAll [[]] nv).map rowP)
    [some (.val (.lst (sc.map .int))), some (.val (.rf 0)), some (.val (.dct (pk nv))), none, some (.val (.dct (toldP nv))), some (.val one.pv), some (.val other.pv), some (.val num.pv), some (.val (.lst ((stAll [[]] nv).map rowP))), none, none, none, none, none, none, none, none, none] (D sc c3) ⟨⟨none, none, rfl⟩, rfl⟩ (by
      intro x hx ρ s hP
      obtain ⟨⟨u9, u10, rfl⟩, rfl⟩ := hP
      obtain ⟨q, hq, rfl⟩ := List.mem_map.mp hx
      exact ⟨_, _, _, rfl, L1_ok nv h one other num w1 w2 w3 d1 d2 d3 q hq 30 (by decide) (D sc c3) _ _ none u10 [none, none, none, none, none, none], ⟨_, _, rfl⟩, rfl⟩)
  subst h9
  obtain ⟨st, e8⟩ := stB nv h one num w1 w3 d1 d3 sc hl 30 (by decide) c3 hc3 (some (.val (.lst (sc.map .int)))) none (some (.val other.pv)) u9 u10 none none
  refine ⟨st, ?_⟩
  rw [bodyR_eq]
  rw [show f_law.body = .cons _ (.cons (.set 2 (setE (b_law.nth 1))) (.cons _ (.cons _ (.cons _ (.cons _ (.cons _ (.cons (.for_ (.one 9) _ L1) (b_law.dr 8)))))))) from rfl]
  have hD : ([] : Store) ++ [[PV.lst (sc.map .int), PV.int 0]] = D sc 0 := rfl
  have ht : dmerge [] [((.inr "variables" : Key), PV.dct (pk nv))] = toldP nv := rfl
  have f1 : call T0 30 "_law_condition" [.rf 0, .dct (pk nv), .int 3] (D sc c) = .ok one.pv (D sc c1) := e1
  have f2 : call T0 30 "_law_condition" [.rf 0, .dct (pk nv), .int 2] (D sc c1) = .ok other.pv (D sc c2) := e2
  have f3 : call T0 30 "_law_expression" [.rf 0, .dct (pk nv), .int 3] (D sc c2) = .ok num.pv (D sc c3) := e3
  simp [Tg.put, wipeE, kvPairs, toKey, iterP, List.replicate, cmpP, isiP, f_law, hD, eA, ht, f1, f2, f3, k1, k3, hs, eL, e8]
end PC
set_option linter.all false
set_option maxRecDepth 100000
set_option maxHeartbeats 0
set_option autoImplicit false
set_option Elab.async false
namespace PC
open PySem PySem.Spec PyProof.Rows L2
section
variable {P : Program} {w : World} {K : PySem.W.Frag} {h : Heap} {mg : Str → Option Value} {base : Heap}
theorem exK_ok (c : exK K = true) : OexC K (He.ga K "BadTerm") ∧ PySem.W.findIn K (.ref (He.ga K "BadTerm")) "__init__" = some (some (.ref (He.fAd K ("BadTerm", some "__init__")))) ∧ PySem.W.typeIn K (.ref (He.fAd K ("BadTerm", some "__init__"))) = some (.type "function") ∧ PySem.W.findIn K (.ref (He.ga K "BadTerm")) "part" = some none ∧ XfC K (He.ga K "BadTerm") ∧ PySem.W.exmOne K (.ref (He.ga K "BadTerm")) (.ref (He.ga K "BadTerm")) = some true := by
  obtain ⟨c1, c⟩ := Bool.and_eq_true_iff.mp c
  obtain ⟨c2, c⟩ := Bool.and_eq_true_iff.mp c
  obtain ⟨c3, c⟩ := Bool.and_eq_true_iff.mp c
  obtain ⟨c4, c⟩ := Bool.and_eq_true_iff.mp c
  obtain ⟨c5, c6⟩ := Bool.and_eq_true_iff.mp c
  exact ⟨oexK_ok c1, of_decide_eq_true c2, of_decide_eq_true c3, of_decide_eq_true c4, xfB_ok c5, of_decide_eq_true c6⟩
theorem sc_init : FnScope ["self", "part"] ["self", "part"] d_init.scope := ⟨rfl, rfl, rfl, by decide +kernel, rfl, by decide +kernel, by decide +kernel⟩
theorem excCls_ok (X : K.In h) (G : h.Ns mainGlobals mg) (c : He.SaysD faA fnA K) (e : exK K = true) : ExcCls K mg "BadTerm" "part" := by
  obtain ⟨c1, c2, c3, c4, _, _⟩ := exK_ok e
  obtain ⟨fd, F⟩ := c.def_ 25 (d := d_init) rfl
  have B : Binds K fd ["self", "part"] [] := FunD.bindsN (ps := ["self", "part"]) F fun _ _ _ _ _ _ us hl => match us, hl with | [_, _], _ => rfl
  exact ⟨_, _, fd, _, _, _, _, _, _, _, _, _, He.glo_ok X G (c.fact 25 (f := .glo "BadTerm") rfl), c1, c2, c3, c4, F, sc_init, B, by decide +kernel, by decide +kernel⟩
theorem sc_part : FnScope ["deed", "fault"] ["deed"] d__law_part.scope := ⟨rfl, rfl, rfl, by decide +kernel, rfl, by decide +kernel, by decide +kernel⟩
theorem part_ok (X : K.In h) (G : h.Ns mainGlobals mg) (c : He.SaysD faA fnA K) (e : exK K = true) : LawPart K mg := by
  obtain ⟨c1, c2, c3, c4, c5, c6⟩ := exK_ok e
  obtain ⟨fd, F⟩ := c.def_ 23 (d := d__law_part) rfl
  have B : Binds K fd ["deed"] [] := FunD.bindsN (ps := ["deed"]) F fun _ _ _ _ _ _ us hl => match us, hl with | [_], _ => rfl
  exact ⟨_, _, fd, _, _, _, _, _, _, _, _, _, _, _, _, _, _, _, _, F, He.glo_ok X G (c.fact 23 (f := .glo "_law_part") rfl), sc_part, B, by decide +kernel, by decide +kernel, by decide +kernel, He.glo_ok X G (c.fact 25 (f := .glo "BadTerm") rfl), c5, c4, c6⟩
theorem free_of (X : K.In h) (G : h.Ns mainGlobals mg) (c : He.SaysD faA fnA K) : ∀ x ∈ bnames, mg x = none := by
  intro x hx
  refine He.free_ok X G (c.facts (f := .free x) ?_)
  simp only [bnames, List.mem_cons, List.not_mem_nil, or_false] at hx
  rcases hx with rfl | rfl | rfl | rfl | rfl | rfl | rfl | rfl | rfl | rfl | rfl | rfl | rfl | rfl | rfl | rfl <;> simp [faA]
theorem tabOk (X : K.In h) (G : h.Ns mainGlobals mg) (c : He.SaysD faA fnA K) (e : exK K = true) : TabOk P w K mg base T0 exs0 where
  defs := fun g hg => by
    simp only [T0, List.mem_cons, List.not_mem_nil, or_false] at hg
    rcases hg with rfl | rfl | rfl | rfl | rfl | rfl | rfl | rfl | rfl | rfl | rfl | rfl | rfl | rfl | rfl | rfl | rfl | rfl | rfl | rfl | rfl | rfl | rfl
    · exact ok_is_row X G c
    · exact ok_is_number X G c
    · exact ok_is_below X G c
    · exact ok_check_condition X G c
    · exact ok_check_expression X G c
    · exact ok_is_variable X G c
    · exact ok_kept X G c
    · exact ok_holds X G c
    · exact ok_worked X G c
    · exact ok_names_in X G c
    · exact ok_called X G c
    · exact ok_all_of X G c
    · exact ok_state_term X G c
    · exact ok__law_number X G c
    · exact ok__law_take X G c
    · exact ok__law_pick X G c
    · exact ok__law_expression X G c
    · exact ok__law_condition X G c
    · exact ok__law_worked X G c
    · exact ok__law_holds X G c
    · exact ok__law_states X G c
    · exact ok__law_values X G c
    · exact ok__law_names X G c
  exs := fun c0 f hm => by
    simp only [exs0, List.mem_cons, List.not_mem_nil, or_false] at hm
    cases hm
    exact raise_of (by decide +kernel) (excCls_ok X G c e)
  free := free_of X G c
  nl := fun g hg => by
    have : ∀ g ∈ T0.map (fun g => g.name), g ≠ ("<lambda>" : Str) := by decide +kernel
    exact this _ (List.mem_map.mpr ⟨g, hg, rfl⟩)
/-- the script, at the start -/
theorem start_F {H : Hp} {a : Addr} {ns : List Int} (hl : ns.length ≤ 63) (hT : LamX.Tabs (tabsK K) H) (hS : SqL K H a (ns.map V.int)) : ∃ F : Hp, SR K F [] [] H ∧ RvL K F [] [.ref a] [.lst (ns.map .int)] := by
  have hr : ∀ (F : Hp) (ns : List Int), RvL K F [] (ns.map V.int) (ns.map PV.int) := by
    intro F ns
    induction ns with
    | nil => exact .nil
    | cons n ns ih => exact .cons (.int n) ih
  have hb : (ns.map PV.int).length ≤ big := by rw [List.length_map]; unfold big; omega
  rcases hS with (hS | ⟨o, hS⟩) | hS
  · refine ⟨fun b => if b = a then some (.lst (ns.map V.int)) else none, ⟨fun b o e => ?_, fun b ps e => ?_, hT, List.nodup_nil, rfl, fun k a xs e => by simp at e⟩, .cons (.lst (.inl (.inl (if_pos rfl))) (hr _ ns) hb) .nil⟩
    · split at e
      · rename_i hba
        cases e; rw [hba]; exact .inl hS
      · cases e
    · split at e <;> cases e
  · refine ⟨fun b => if b = a then some (.frz o (.lst (ns.map V.int))) else none, ⟨fun b o e => ?_, fun b ps e => ?_, hT, List.nodup_nil, rfl, fun k a xs e => by simp at e⟩, .cons (.lst (.inl (.inr ⟨o, if_pos rfl⟩)) (hr _ ns) hb) .nil⟩
    · split at e
      · rename_i hba
        cases e; rw [hba]; exact .inl hS
      · cases e
    · split at e <;> cases e
  · exact ⟨fun _ => none, ⟨fun b o e => (by cases e), fun b ps e => (by cases e), hT, List.nodup_nil, rfl, fun k a xs e => (by simp at e)⟩, .cons (.lst (.inr hS) (hr _ ns) hb) .nil⟩
theorem law_head {fa : Addr} (X : K.In h) (G : h.Ns mainGlobals mg) (hfa : mg ("law" : Str) = some (.ref fa)) (c : He.SaysX faA fnA [] [("law", none)] exK w h K) : LamX.LawAtS PySem.Challenge.rw_refinesteps_k02_whole_terms w K (L2.CX (PySem.Challenge.rw_refinesteps_k02_whole_terms).prog w) (3 + 3 * 30 + 2 + 1) 63 "script" mg fa h := by
  obtain ⟨fd, F⟩ := c.t.d.def_ 24 (d := d_law) rfl
  have e := hfa.symm.trans (He.glo_ok X G (c.t.d.fact 24 (f := .glo "law") rfl))
  cases e
  have b := FunD.bindsA (ps := ["script"]) F fun _ _ _ _ _ _ us hl => match us, hl with | [_], _ => rfl
  refine ⟨fd, [He.cT K ("law", none)], spLaw K mg (call T0 30) f_law, fun p hp => ?_, fun p hp => ?_, fun p hp => ?_, fun s u => b s [u] rfl, fun H a ns hl _ hT hS => ?_, fun base Xb Gb TB => ?_⟩
  · simp only [List.mem_singleton] at hp
    subst hp
    exact c.empty _ (by simp)
  · simp only [List.mem_singleton] at hp
    subst hp
    exact c.out _ (by simp)
  · simp only [List.mem_singleton] at hp
    subst hp
    exact PySem.W.codeHd_of_K X (c.hd _ (by simp))
  · have hT2 : LamX.Tabs (tabsK K) H := fun p hp => by
      have : p = ((He.cT K ("law", none)).2, (("law" : Str) ++ ".<locals>.") ++ "<lambda>") := by
        simpa [tabsK, lamDefs] using hp
      rw [this]
      exact LamX.TabS.nil (hT _ (by simp))
    obtain ⟨Fz, sr, rv⟩ := start_F hl hT2 hS
    obtain ⟨st, ht⟩ := law_true ns hl
    refine ⟨rfl, Fz, [], [], _, sr, rv, ?_⟩
    rw [ht]
    intro F2 m2 H2 v _ _ hv
    cases hv
    rfl
  · refine law_ok (lawName := ("law" : Str)) (P := PySem.Challenge.rw_refinesteps_k02_whole_terms.prog) (w := w) (n := 30) (fa := He.ga K "law") (base := base) (g := f_law) (tabOk Xb Gb c.t.d c.more) F sc_law rfl (by kernel_rfl) (part_ok Xb Gb c.t.d c.more) fun cc hcd hfd => ?_
    refine ⟨(He.cT K ("law", none)).2, ?_, by simp [tabsK, lamDefs], fun p hp _ => ?_⟩
    · have := TB (He.cT K ("law", none)) (by simp)
      have e1 : (He.cT K ("law", none)).1 = cc := by
        obtain ⟨oc, od, dV, kV, doc, pm, an, cdv, ct, osl, rfl, lk, _⟩ := F.ex
        exact He.codeOf_eq (p := ("law", none)) lk hfd
      rw [e1] at this
      exact this
    · have : p = ((He.cT K ("law", none)).2, (("law" : Str) ++ ".<locals>.") ++ "<lambda>") := by
        simpa [tabsK, lamDefs] using hp
      rw [this]
end
end PC
open PySem PySem.W PySem.Calls PyProof.Rows
theorem PySem.Challenge.cw_refinesteps_k02_whole_terms_holds : PySem.Challenge.rw_refinesteps_k02_whole_terms.Holds := by
  w_on; o_law
  refine HandSHeadRun.head_any (r := OpenLaw.row PySem.Challenge.rw_refinesteps_k02_whole_terms) (q := view (OpenLaw.row PySem.Challenge.rw_refinesteps_k02_whole_terms).prog [31]) (H := PC.hk) (ob := PC.ob) (M := 3000) (loose := PC.looseN) (d := HandSHeadRun.topDef (OpenLaw.row PySem.Challenge.rw_refinesteps_k02_whole_terms).prog 31) (kwd := []) PC.ob_eq
    (by kernel_rfl) (fun s => by kernel_rfl) PC.run (by kernel_rfl) (by kernel_rfl) (by kernel_rfl) (by rfl) (by first | assumption | decide +kernel) (by decide +kernel) ⟨rfl, rfl, rfl, rfl, rfl, by decide +kernel⟩ ?hw ?hc
  case hw => w_witness2
  case hc =>
    refine LamX.walk_ofTsE (l := PySem.Challenge.rw_refinesteps_k02_whole_terms) (n := 63) (k := 3 + 3 * 30 + 2 + 1) (x := "script") (CX := fun w => L2.CX (PySem.Challenge.rw_refinesteps_k02_whole_terms).prog w) rfl (by decide) (by kernel_rfl) ⟨rfl, by decide, by decide⟩ ?F (fun w H s e s' z => by obtain ⟨_, _, _, _, _, _, _, _, _, _, _, _, q⟩ := z; exact q)
    intro w mg fa h Y G hmg0
    obtain ⟨K, KX, c⟩ := Y
    have hmg : mg ("law" : PySem.Str) = some (.ref fa) := by
      have e : (HandSHeadRun.topDef (OpenLaw.row PySem.Challenge.rw_refinesteps_k02_whole_terms).prog 31).name = ("law" : PySem.Str) := by kernel_rfl
      rw [← e]
      exact hmg0
    exact ⟨K, KX, PC.law_head KX G hmg c⟩
