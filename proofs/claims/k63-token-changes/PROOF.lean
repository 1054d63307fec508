import PyProof.Rows.All
import HandS.ForMost
import HandS.Walk
import HandS.Zip
import HandS.Rev
import HandS.TupAny
import HandS.IsInst
import HandS.Conv
import HandS.Sort
import HandS.DictComp
import KE.GoesEnum
import HandS.SortKw
import KE.DataMinMax
import HandS.SetKeys
import HandS.Strs
import HandS.SetIn
import HandS.Flow
import HandS.HeadHook2
import HandS.Deep
import HandS.ForExc
import HandS.TupLen
import HandS.Text
import HandS.TupSets
import HandS.SetBool
import KE.KeyNested
import HandS.DictTup
import HandS.Head2
import HandS.HeadEnd
import PySem.Challenge.RW_alwaystree_k63_token_changes
import HandS.Codes
import PyProof.P3Eq
/-! text: B1 -/
set_option Elab.async false
set_option linter.all false
set_option maxRecDepth 100000
set_option maxHeartbeats 4000000
/-! walks that the layer lacks: enumerate of a tuple, a range held by a name, lists or tuples by one rule -/
namespace M
open PySem PySem.Spec PyProof.Rows L2

/-- a list (b true) or a tuple at a -/
def Sq (K : PySem.W.Frag) (b : Bool) (H : Hp) (a : Addr) (xs : List V) : Prop := match b with
  | true => SqL K H a xs
  | false => SqT K H a xs
def Itb (K : PySem.W.Frag) (b : Bool) (a : Addr) : It := match b with
  | true => Itl K a
  | false => Itt K a
def iSeq (K : PySem.W.Frag) (te : TE) : TI := fun σ H R => te σ H fun x H1 => ∃ (a : Addr) (b : Bool) (xs : List V), x = .ref a ∧ Sq K b H1 a xs ∧ R (Itb K b a) H1
section
variable {X : Cx} {tg : Expr}
theorem pi_seq {l : Expr} {tl : TE} (hl : PE X l tl) : PI X tg l (iSeq X.K tl) := by
  constructor
  intro pins s σ H R I h
  have h1 := (pi_list (tg := tg) hl).run pins s σ H R I
  have h2 := (pi_tup (tg := tg) hl).run pins s σ H R I
  refine thn (hl.run pins s σ H _ I h) fun v s1 q => ?_
  obtain ⟨x, H1, I1, r1, a, b, xs, rfl, hq, q⟩ := q
  have hp : PE X (.Constant .none 0 default) (tC .non) := pe_non
  cases b with
  | true =>
    cases r1
    obtain ⟨its, rv, p, hz⟩ := I1.list hq
    refine wpAny_pyIter_list p.isList ?_
    refine ⟨s1.heap.objs.size, [s1.heap.objs.size], _, _, H1, rfl, I1.kept (t' := s1.toks) (fun b o e => Heap.get?_push_of_some _ e), turn_list a _, ⟨_, Heap.get?_push_size _ rfl, rfl, rfl⟩, ?_, q⟩
    intro c hc
    have ec : c = s1.heap.objs.size := by simpa using hc
    rw [ec]
    exact I1.fpOk (Nat.le_refl _) (I1.hok.fresh (Nat.le_refl _))
  | false =>
    cases r1
    obtain ⟨its, rv, p, hz⟩ := I1.tuple hq
    refine wpAny_pyIter_tuple (show s1.heap.IsTuple a its.toArray from p) ?_
    refine ⟨s1.heap.objs.size, [s1.heap.objs.size], _, _, H1, rfl, I1.kept (t' := s1.toks) (fun b o e => Heap.get?_push_of_some _ e), turn_tuple a _, ⟨_, Heap.get?_push_size _ rfl, rfl, rfl⟩, ?_, q⟩
    intro c hc
    have ec : c = s1.heap.objs.size := by simpa using hc
    rw [ec]
    exact I1.fpOk (Nat.le_refl _) (I1.hok.fresh (Nat.le_refl _))
end
/-! ### a range object held by a name -/
def iRngV (te : TE) : TI := fun σ H R => te σ H fun x H1 => ∃ (a : Addr) (lo hi : Int), x = .ref a ∧ H1 a = some (.rng lo hi) ∧ -(2 ^ 62) ≤ lo ∧ lo < 2 ^ 62 ∧ -(2 ^ 62) ≤ hi ∧ hi < 2 ^ 62 ∧ R (Itr lo (hi - lo).toNat) H1
section
variable {X : Cx} {tg : Expr}
theorem pi_rngV {l : Expr} {tl : TE} (hl : PE X l tl) : PI X tg l (iRngV tl) := by
  constructor
  intro pins s σ H R I h
  refine thn (hl.run pins s σ H _ I h) fun v s1 q => ?_
  obtain ⟨x, H1, I1, r1, a, lo, hi, rfl, ha, b1, b2, b3, b4, q⟩ := q
  cases r1
  obtain ⟨t, u, v, ho⟩ := (show ∃ t u v, s1.heap.get? a = some { cls := .type "range", data := .fields #[.int lo t, .int hi u, .int 1 v] } from I1.hok a _ ha)
  have hr : IsRange s1.heap a lo hi 1 t u v := ho
  refine wpAny_pyIter_range hr (small_one b1 b2 b3 b4) ?_
  refine ⟨s1.heap.objs.size, [s1.heap.objs.size], _, _, H1, rfl, I1.kept (t' := s1.toks) (fun b o e => Heap.get?_push_of_some _ e), turn_range _ lo (hi - lo).toNat, ?_, ?_, q⟩
  · have e1 : lo + ((0 : Nat) : Int) * 1 = lo := by simp
    have e2 : (((hi - lo).toNat : Nat) : Int) - ((0 : Nat) : Int) = Builtin.Range.rangeSize lo hi 1 := by
      rw [rangeSize_one]
      split <;> omega
    show IsRangeIter _ _ (lo + ((0 : Nat) : Int) * 1) ((((hi - lo).toNat : Nat) : Int) - ((0 : Nat) : Int)) 1
    rw [e1, e2]
    exact Heap.get?_push_size _ rfl
  · intro c hc
    have ec : c = s1.heap.objs.size := by simpa using hc
    rw [ec]
    exact I1.fpOk (Nat.le_refl _) (I1.hok.fresh (Nat.le_refl _))
/-- range(n) as a value -/
def rRange1 : List V → Hp → VK → Prop := fun vs H Q => ∃ j : Int, vs = [.int j] ∧ ∀ p, H p = none → Q (.ref p) (upd H p (.rng 0 j))
theorem cr_range1 : CallR X (.type "range") rRange1 := by
  intro pins s σ H xs us Q I r h
  obtain ⟨j, rfl, q⟩ := h
  obtain ⟨u, rfl, t, rfl⟩ := vals1 r
  refine call_range_1 ?_
  refine ⟨.ref s.heap.objs.size, upd H s.heap.objs.size (.rng 0 j), I.laid (fun b o e => Heap.get?_push_of_some _ e) (Nat.le_refl _) ?_, rfl, q _ (I.hok.fresh (Nat.le_refl _))⟩
  exact ⟨_, _, _, Heap.get?_push_size _ rfl⟩
end
end M

/-! text: B2a -/
set_option Elab.async false
set_option linter.all false
set_option maxRecDepth 100000
set_option maxHeartbeats 4000000
namespace M
open PySem PySem.Spec PyProof.Rows L2
open Sem (wp)
abbrev enumO (a : Addr) : Obj := { cls := .type "enumerate", data := .fields #[.none, .bool false, .ref a, rawInt 0, .none, .none] }
theorem meets_enum1 {v : Value} {o : Obj} {G : Heap → Prop} (B : Begins v o G) :
    Meets (Builtin.«enumerate.__new__» ⟨[.type "enumerate", v], []⟩) (fun _ R s => G s.heap ∧
      R (.ok (.ret (.ref (s.heap.push o).objs.size))) { s with heap := (s.heap.push o).push (enumO s.heap.objs.size) }) := by
  refine .of_wp fun prog w A R s h => ?_
  obtain ⟨hp, g, d, tk, os⟩ := s
  obtain ⟨h1, h⟩ := h
  have q1 : ∀ {A' : Around} {E Q : Value → Shared → Prop}, Q (.ref hp.objs.size) ⟨hp.push o, g, d, tk, os⟩ → wpAny (model prog w) A' (pyIter v) Q E ⟨hp, g, d, tk, os⟩ := fun q => B.iter prog w _ _ ⟨hp, g, d, tk, os⟩ _ h1 q
  have sub := sub_enumerate
  wp_walk using q1
  refine wpAny_stack_any fun st => wpAny_pure ?_
  split
  · rename_i c _ _ _ _ _
    cases (c == Value.type "enumerate") <;> (wp_walk using q1; exact ⟨_, rfl, h⟩)
  · wp_walk using q1
    exact ⟨_, rfl, h⟩
theorem call_enum1 {prog : Program} {w : World} {A : Around} {E : Value → Shared → Prop} {s : Shared} {v : Value} {o : Obj} {G : Heap → Prop} {Q : Value → Shared → Prop} (B : Begins v o G) (h1 : G s.heap)
    (h : ∀ h', IsEnum h' (s.heap.objs.size + 1) s.heap.objs.size 0 .none → h'.get? s.heap.objs.size = some o → (∀ b o, s.heap.get? b = some o → h'.get? b = some o) → Q (.ref (s.heap.objs.size + 1)) { s with heap := h' }) :
    wpAny (model prog w) A (call (.type "enumerate") [v]) Q E s := by
  have hz : (s.heap.push o).objs.size = s.heap.objs.size + 1 := Heap.size_push ..
  have hq := Heap.get?_push_size (s.heap.push o) (o := enumO s.heap.objs.size) rfl
  rw [hz] at hq
  refine callType_new F.called_enumerate (by decide) (F.typeCall_enumerate_1 _) (F.newCall_enumerate_1 _) (fun obj => F.args_object_init_2 obj _) F.entry_enumerate_new (meets_enum1 B) ⟨h1, ?_⟩
  show _ ∧ _
  rw [hz]
  refine ⟨⟨_, hq, rfl⟩, h _ hq ?_ fun b o x => ?_⟩
  · exact Heap.get?_push_of_some _ (Heap.get?_push_size _ B.free)
  · exact Heap.get?_push_of_some _ (Heap.get?_push_of_some _ x)
end M

/-! text: B2 -/
set_option Elab.async false
set_option linter.all false
set_option maxRecDepth 100000
set_option maxHeartbeats 4000000
namespace M
open PySem PySem.Spec PyProof.Rows L2
/-- enumerate of the tuple at a: each item in a new pair -/
def IteT (K : PySem.W.Frag) (a : Addr) : It where
  go := fun i H => ∃ (xs : List V) (x : V), SqT K H a xs ∧ xs[i]? = some x
  yld := fun i H v H' => ∃ T x, v = .ref T ∧ H T = none ∧ H' = upd H T (.tup [.int (i : Nat), x]) ∧ ∀ xs, SqT K H a xs → xs[i]? = some x
  stop := fun i H => ∃ xs : List V, SqT K H a xs ∧ xs.length = i
theorem turn_enumT {P : Program} {w : World} {K : PySem.W.Frag} {elts : List Expr} {kk : Nat} {tpos : Pos} (a e it : Addr) :
    Turn P w K (.Tuple elts kk tpos) (IteT K a) [e, it] e (fun i h => (∃ old, IsEnum h e it ((i : Nat) : Int) old) ∧ h.IsTupleIter it a i ∧ e ≠ it ∧ a ≠ it ∧ a ≠ e) where
  mem := List.mem_cons_self
  obj := by
    intro i h st b hb
    obtain ⟨⟨old, he⟩, ⟨o, ho, hc, hd⟩, _⟩ := st
    rcases (show b = e ∨ b = it by simpa using hb) with z | z
    · subst z
      exact ⟨_, he, fun v q => nomatch q⟩
    · subst z
      refine ⟨o, ho, fun v q => ?_⟩
      rw [hd] at q
      cases q
  keep := by
    intro i h h' st k
    obtain ⟨⟨old, he⟩, hi, hne⟩ := st
    exact ⟨⟨old, k e (by simp) _ he⟩, hi.at fun o q => k it (by simp) o q, hne⟩
  item := by
    intro X hP hw hK hc i pins s σ H E I hf st hg
    subst hP hw hK
    obtain ⟨⟨old, he⟩, hit, hne, hai, hae⟩ := st
    obtain ⟨xs, x, hq, hx⟩ := hg
    obtain ⟨its, rv, p, hz⟩ := I.tuple hq
    obtain ⟨u, hu, ru⟩ := rv.get hx
    have hel : e < s.heap.objs.size := Heap.lt_size he
    have hil : it < s.heap.objs.size := by
      obtain ⟨_, q, _⟩ := hit
      exact Heap.lt_size q
    have D := Draws.tuple (prog := X.prog) (w := X.w) (A := X.A.in1) (I.ok.hd hc) it a hai its.toArray
    have hit2 : s.heap.IsTupleIter it a i ∧ s.heap.IsTuple a its.toArray := ⟨hit, p⟩
    refine wpAny_pyNext_enum_itemC D he hit2 (by simpa using (List.getElem?_eq_some_iff.mp hu).1) hne (by simp [hne, hae.symm]) fun x2 h' tk hP2 ho hit' hT hsz hk => ?_
    have ex : x2 = u := by
      have h2 : its.toArray[i]? = some x2 := hP2
      have h3 : its[i]? = some x2 := by simpa using h2
      rw [hu] at h3
      exact (Option.some.inj h3).symm
    subst ex
    refine ⟨_, rfl, wpAny_letOwnedTupleGo_enum (s := { s with heap := h', toks := tk + 1 }) ho fun h'' he' sb => ?_⟩
    have hT2 : h''.get? s.heap.objs.size = some { cls := .type "tuple", data := .seq #[.int i tk, x2] } := (sb.2 _ (Nat.ne_of_gt hel)).trans hT
    have new : ObjOk X.prog X.w (upd H s.heap.objs.size (.tup [.int (i : Nat), x])) h'' s.heap.objs.size (.tup [.int (i : Nat), x]) := by
      refine ⟨by show 2 ≤ sizeLine; decide, [.int i tk, x2], .cons ⟨_, rfl⟩ (.cons ru .nil), _, hT2, rfl, _, rfl⟩
    have I1 : Inv X pins σ (upd H s.heap.objs.size (.tup [.int (i : Nat), x])) { s with heap := h'', toks := tk + 1 } := by
      refine I.turnedNew (ch := [e, it]) (fun b ob hb q => ?_) hf (Nat.le_refl _) new
      have n1 : b ≠ e := fun z => hb (by simp [z])
      have n2 : b ≠ it := fun z => hb (by simp [z])
      exact (sb.2 b n1).trans (hk b ob n1 n2 q)
    refine ⟨.ref s.heap.objs.size, _, I1, rfl, ⟨_, x, rfl, I.hok.fresh (Nat.le_refl _), rfl, fun ys hy => ?_⟩, ⟨⟨x2, ?_⟩, hit'.1.at fun o q => (sb.2 it (Ne.symm hne)).trans q, hne, hai, hae⟩, fun b hb => ?_⟩
    · rw [I.tuple_inj hy hq]
      exact hx
    · have e1 : ((i + 1 : Nat) : Int) = (i : Int) + 1 := by omega
      rw [e1]
      exact he'
    · have hb' : b < s.heap.objs.size := by
        rcases (show b = e ∨ b = it by simpa using hb) with z | z
        · rw [z]
          exact hel
        · rw [z]
          exact hil
      rw [upd_ne (Nat.ne_of_lt hb')]
      exact (hf b hb).1
  done := by
    intro X hP hw hK hc i pins s σ H E I hf st hg
    subst hP hw hK
    obtain ⟨⟨old, he⟩, hit, hne, hai, hae⟩ := st
    obtain ⟨xs, hq, hx⟩ := hg
    obtain ⟨its, rv, p, hz⟩ := I.tuple hq
    have hl := rv.length
    have D := Draws.tuple (prog := X.prog) (w := X.w) (A := X.A.in1) (I.ok.hd hc) it a hai its.toArray
    have hsz : i = its.toArray.size := by
      simp
      omega
    obtain ⟨f0, f1, f2, f3, f4, f5⟩ := hf it (by simp)
    subst hsz
    have hst : s.heap.IsTupleIter it a its.toArray.size ∧ s.heap.IsTuple a its.toArray := ⟨hit, p⟩
    refine wpAny_pyNext_enum_endD D he hst fun h' eb => ⟨rfl, ?_⟩
    exact I.turned (t' := s.toks) (fun b o hb q => eb b o hb q) f0 f1 f3 f4 f5
  self := fun A i s Q E st h => wpAny_pyIter_enum st.1.choose_spec h
def iEnumT (K : PySem.W.Frag) (ta : TA) : TI := fun σ H R => ta σ H fun vs H1 => ∃ a xs, vs = [.ref a] ∧ SqT K H1 a xs ∧ R (IteT K a) H1
theorem pi_enumT {X : Cx} {e : Expr} {ta : TA} {p pos tpos : Pos} {elts : List Expr} {kk : Nat} (hg : Gl X "enumerate") (hm : X.mg "enumerate" = none) (ha : PA X [e] ta) (hs : starEach [e] X.env = [(false, eval e X.env)] := by rfl) :
    PI X (.Tuple elts kk tpos) (.Call (.Name "enumerate" p) [e] [] pos) (iEnumT X.K ta) := by
  constructor
  intro pins s σ H R I h
  refine Call_ (ld_blt I hg hm boot_enumerate (PyProof.Rows.callWith_type1 (thn (ha.run pos pins s σ H _ I h) fun us s1 q1 => ?_) hs rfl))
  obtain ⟨vs, H1, I1, r1, a, xs, rfl, hq, q⟩ := q1
  obtain ⟨u, rfl, r⟩ := vals1 r1
  cases r
  obtain ⟨its, rv, p', hz⟩ := I1.tuple hq
  have p2 : s1.heap.IsTuple a its.toArray := p'
  have hlt : a < s1.heap.objs.size := by
    obtain ⟨_, e, _⟩ := p2
    exact Heap.lt_size e
  refine call_enum1 (begins_tuple a its.toArray) p2 fun h' he hit hk => wpAny_pyIter_enum he ?_
  have I2 : Inv X pins σ H1 { s1 with heap := h' } := I1.kept (t' := s1.toks) hk
  refine ⟨s1.heap.objs.size + 1, [s1.heap.objs.size + 1, s1.heap.objs.size], _, _, H1, rfl, I2, turn_enumT a (s1.heap.objs.size + 1) s1.heap.objs.size, ⟨⟨.none, he⟩, ⟨_, hit, rfl, rfl⟩, Nat.succ_ne_self _, Nat.ne_of_lt hlt, Nat.ne_of_lt (Nat.lt_succ_of_lt hlt)⟩, fun b hb => ?_, q⟩
  have hle : s1.heap.objs.size ≤ b := by
    rcases (show b = s1.heap.objs.size + 1 ∨ b = s1.heap.objs.size by simpa using hb) with z | z
    · rw [z]
      exact Nat.le_succ _
    · rw [z]
      exact Nat.le_refl _
  exact I1.fpOk hle (I1.hok.fresh hle)
/-- what it gives, for for_it and lc_it -/
theorem walk_enumT {K : PySem.W.Frag} {a : Addr} {xs : List V} : Walk (IteT K a) xs.length (fun H => SqT K H a xs) (YPair (fun i => some (.int (i : Nat))) (fun i => xs[i]?)) where
  goes := fun i H hi q => ⟨xs, xs[i], q, by simp [hi]⟩
  stops := fun H q => ⟨xs, q, rfl⟩
  yields := by
    intro i H v H' hi q y
    obtain ⟨T, x, h1, h2, h3, h4⟩ := y
    exact ⟨T, .int (i : Nat), x, h1, h2, h3, rfl, h4 xs q⟩
theorem walk_sq {K : PySem.W.Frag} {b : Bool} {a : Addr} {xs : List V} : Walk (Itb K b a) xs.length (fun H => Sq K b H a xs) (YAt xs) := by
  cases b with
  | true => exact walk_list
  | false => exact walk_tup
end M

/-! text: B3 -/
set_option Elab.async false
set_option linter.all false
set_option maxRecDepth 100000
set_option maxHeartbeats 4000000
namespace M
open PySem PySem.Spec PyProof.Rows L2
/-- the least of these ints, or None -/
def lowV : List Int → V
  | [] => .non
  | n :: r => .int (r.foldl min n)
theorem dp_ints {K : PySem.W.Frag} {H : Hp} : ∀ ns : List Int, DpAll K H (ns.map V.int) (ns.map PyData.int)
  | [] => .nil
  | n :: r => .cons (.int n) (dp_ints r)
theorem depth_ints : ∀ ns : List Int, PyData.depthAll (ns.map PyData.int) ≤ 1
  | [] => by decide
  | n :: r => by
    have := depth_ints r
    simp only [List.map_cons, PyData.depthAll, PyData.depth]
    omega
theorem alike_ints (ns : List Int) : PySem.W.AlikeAll (ns.map PyData.int) := by
  constructor
  · intro x hx y hy
    obtain ⟨a, _, rfl⟩ := List.mem_map.mp hx
    obtain ⟨b, _, rfl⟩ := List.mem_map.mp hy
    rfl
  · intro x hx
    obtain ⟨a, _, rfl⟩ := List.mem_map.mp hx
    exact fun z => nomatch z
def rMinD (K : PySem.W.Frag) : List V → List V → Hp → VK → Prop := fun vs zs H Q => ∃ (a : Addr) (ns : List Int), vs = [.ref a] ∧ zs = [.non] ∧ SqL K H a (ns.map V.int) ∧ Q (lowV ns) H
theorem cr_minD {X : Cx} (hc : X.calm = true) (hu : X.A.units + 64 < cLine) : CallRK X (.builtin "min") ["default"] (rMinD X.K) := by
  intro pins s σ H vs zs us ws Q I r1 r2 h
  obtain ⟨a, ns, rfl, rfl, hq, q⟩ := h
  obtain ⟨u, rfl, ru⟩ := vals1 r1
  obtain ⟨w, rfl, rw⟩ := vals1 r2
  cases ru
  cases rw
  obtain ⟨its, rv, p, hz⟩ := I.list hq
  obtain ⟨as, hr⟩ := Dp.readsAll I (ns.map PyData.int) (ns.map V.int) its (dp_ints ns) rv
  have hd := depth_ints ns
  refine PySem.W.min_list_default (A := X.A) (I.ok.hd hc) (show s.heap.IsList a its.toArray from p.isList) (by simpa using hr) (alike_ints ns) (by omega) ?_ ?_
  · intro e h' tk hk
    have e2 : ns = [] := List.map_eq_nil_iff.mp e
    subst e2
    exact ⟨.non, H, I.kept hk, rfl, q⟩
  · intro y ys i v h' tk bs e hv hr2 hk
    cases ns with
    | nil => cases e
    | cons n r =>
      rw [List.map_cons] at e
      injection e with e1 e2
      subst e1 e2
      rw [PySem.W.minD_ints] at hr2
      have hi : ∃ t, v = Value.int (r.foldl min n) t := by
        cases hr2 with
        | int i t => exact ⟨t, rfl⟩
      obtain ⟨t, rfl⟩ := hi
      exact ⟨.int (r.foldl min n), H, I.kept hk, ⟨t, rfl⟩, q⟩
end M

/-! text: B3a -/
set_option Elab.async false
set_option linter.all false
set_option maxRecDepth 100000
set_option maxHeartbeats 4000000
namespace M
open PySem PySem.Spec PyProof.Rows L2
open Sem (wp)
open AutoSeq1 (wpAny_loadPart')
theorem extend_tup (l : Addr) (items : Array Value) (n : Nat) (b : Addr) (more : Array Value) (k : Nat) (dd : Option Addr) (sl : Array (Option Value)) (h0 : ¬(!items.isEmpty && Builtin.List.listTooLong (items.size + more.size)) = true) (h1 : items.size ≤ sizeLine) (h2 : items.size + more.size ≤ sizeLine + 1) :
    Meets (Builtin.«list.extend» ⟨[.ref l, .ref b], []⟩) (fun _ R s => s.heap.get? l = some { cls := .type "list", dict := none, data := .seq items n, slots := #[] } ∧ s.heap.get? b = some { cls := .type "tuple", dict := dd, data := .seq more k, slots := sl } ∧
      R (.ok (.ret Value.none)) { s with heap := s.heap.update l (Obj.mapSeq fun x => x ++ more), toks := s.toks }) := by
  refine .of_wp fun prog w A R s h => ?_
  obtain ⟨hp, g, d, tk, os⟩ := s
  obtain ⟨hl, hb, h⟩ := h
  have f1 := AutoSeq1.idx_int
  have f2 := AutoSeq1.sub_tuple_tuple
  have f3 := AutoSeq1.sub_list_list
  have f4 := AutoSeq1.sub_tuple_list
  have f5 := AutoSeq1.sub_list_tuple
  have hz' : (items ++ more).size ≤ sizeLine + 1 := by
    rw [Array.size_append]
    exact h2
  wp_walk using (wpAny_updateSeq hl rfl (hz := h1) (_hz' := hz')), wpAny_loadPart' hl, wpAny_loadPart' hb
  exact ⟨_, rfl, h⟩
/-- xs.extend(t), t a tuple -/
def rExtT : V → List V → Hp → VK → Prop := fun x vs H Q => ∃ l b xs zs, x = .ref l ∧ vs = [.ref b] ∧ H l = some (.lst xs) ∧ H b = some (.tup zs) ∧ xs.length + zs.length ≤ sizeLine ∧ Q .non (upd H l (.lst (xs ++ zs)))
theorem mt_extT {X : Cx} : MtM X "list.extend" rExtT := by
  intro pins s σ H x vs v us Q I rx rv h
  obtain ⟨l, b, xs, zs, rfl, rfl, hH, hB, hz, q⟩ := h
  cases rx
  obtain ⟨u, rfl, ru⟩ := rv.one
  cases ru
  obtain ⟨z, its, n, r, hl, e⟩ := I.lstM hH
  obtain ⟨its2, r2, p2, hl2⟩ := I.tuple (SqT.of hB)
  obtain ⟨⟨oc, od, dt, osl⟩, ho, hc, n2, hd⟩ := id p2
  replace hc : oc = .type "tuple" := hc
  replace hd : dt = .seq its2.toArray n2 := hd
  subst hc hd
  have l2 := r2.length
  have hsz : its.toArray.size + its2.toArray.size ≤ sizeLine := by
    simp only [List.size_toArray]
    omega
  have hlong : ¬ (!its.toArray.isEmpty && Builtin.List.listTooLong (its.toArray.size + its2.toArray.size)) = true := by
    rw [notLongL hsz, Bool.and_false]
    exact Bool.false_ne_true
  refine call_meets F.slot_list_extend ⟨_, e, rfl⟩ F.entry_list_extend (F.args_list_extend_2 _ _) (extend_tup l its.toArray n b its2.toArray n2 od osl hlong (by simp only [List.size_toArray]; omega) (by omega)) ⟨e, ho, ?_⟩
  refine ⟨.non, _, I.lset (its' := its ++ its2) hH e (by simp) (r.append r2) ?_, rfl, q⟩
  rw [List.length_append]
  omega
/-- xs.extend(ys): ys a list or a tuple -/
def rExtA : V → List V → Hp → VK → Prop := fun x vs H Q => rExtend x vs H Q ∨ rExtT x vs H Q
theorem mt_extA {X : Cx} : MtM X "list.extend" rExtA := by
  intro pins s σ H x vs v us Q I rx rv h
  rcases h with h | h
  · exact mt_extend pins s σ H x vs v us Q I rx rv h
  · exact mt_extT pins s σ H x vs v us Q I rx rv h
end M

/-! text: B4 -/
set_option Elab.async false
set_option linter.all false
set_option maxRecDepth 100000
set_option maxHeartbeats 8000000
/-! set(xs), xs a list or a tuple of unlike keys by value: ints, texts -/
namespace M
open PySem PySem.Spec PyProof.Rows L2
section
variable {K : Type} [DecidableEq K]
/-- k is one of these -/
def memB (ks : List K) (k : K) : Bool := ks.any fun x => decide (x = k)
theorem memB_iff {ks : List K} {k : K} : memB ks k = true ↔ k ∈ ks := by
  unfold memB
  rw [List.any_eq_true]
  constructor
  · rintro ⟨x, hx, e⟩
    exact (of_decide_eq_true e) ▸ hx
  · intro h
    exact ⟨k, h, decide_eq_true rfl⟩
theorem setOf_is {prog : Program} {w : World} {knd : KeyKind prog w K} {h : Heap} {a : Addr} {S S' : K → Bool} {n n' : Nat} (hS : h.SetOf knd a S n) (e : S = S') (en : n = n') : h.SetOf knd a S' n' := by
  subst e en
  exact hS
theorem setOf_more {prog : Program} {w : World} {knd : KeyKind prog w K} {h : Heap} {a : Addr} {ks : List K} {i : Nat} {k : K} (hk : ks[i]? = some k) (nd : ks.Nodup)
    (hS : h.SetOf knd a (fun k' => memB (ks.take i) k' || decide (k' = k)) (if memB (ks.take i) k = true then i else i + 1)) : h.SetOf knd a (memB (ks.take (i + 1))) (i + 1) := by
  have hi := (List.getElem?_eq_some_iff.mp hk).1
  refine setOf_is hS (funext fun k' => ?_) ?_
  · unfold memB
    rw [List.take_add_one, hk, List.any_append]
    congr 1
    show decide (k' = k) = (decide (k = k') || false)
    rw [Bool.or_false, Bool.eq_iff_iff]
    simp only [decide_eq_true_eq]
    exact ⟨Eq.symm, Eq.symm⟩
  · rw [if_neg]
    intro hm
    have hx : k ∈ ks.take i := memB_iff.mp hm
    obtain ⟨j, hj, ej⟩ := List.mem_iff_getElem.mp hx
    have hj2 : j < i := by
      rw [List.length_take] at hj
      omega
    have e1 : ks[j]? = some k := by
      rw [List.getElem_take] at ej
      rw [List.getElem?_eq_getElem (by omega), ej]
    have := nd_ix nd e1 hk
    omega
variable {prog : Program} {w : World} {A : Around} {R : Result → Shared → Prop} {I : Addr} {fp wr : List Addr} {G : Array GenState → Array GenState → Prop} {n : Nat} {P : Nat → Value → Prop} {St : Nat → Shared → Prop}
theorem set_loop (W : WalksS prog w A.in1 I fp wr G n P St) (S : Addr) (hSf : S ∉ fp) (knd : KeyKind prog w K) (ks : List K) (nd : ks.Nodup) (hsz : ks.length = n) (hb : n + 1 < scanBound)
    (hval : ∀ (i : Nat) v k, ks[i]? = some k → P i v → knd.is k v = true ∧ v.scannable = true) : ∀ (m i : Nat) (s : Shared), n - i = m → i ≤ n → St i s → s.heap.SetOf knd S (memB (ks.take i)) i →
      (∀ s', Moved (S :: wr) G s s' → s'.heap.SetOf knd S (memB ks) n → R (.ok (.ret .none)) s') → codeAny (model prog w) A (.builtin "set.update.loop" ⟨[.ref S, .ref I], []⟩) R s := by
  have hSw : S ∉ wr := fun h => hSf (W.sub _ h)
  have hsub : ∀ b ∈ wr, b ∈ S :: wr := fun b hb => List.mem_cons_of_mem _ hb
  intro m
  induction m with
  | zero =>
    intro i s hk hi hst hS hR
    obtain rfl : i = n := by omega
    refine codeAny_builtin F.entry_set_update_loop ?_
    rw [Around.under_plainId F.plain_set_update_loop _]
    show wpAny _ A.in1 (pyNext (.ref I) >>= _) _ _ s
    refine wpAny_bind (W.done s _ _ hst fun s' hm => ?_)
    show wpAny _ A.in1 (ret Value.none) _ _ s'
    refine wpAny_pure (hR s' (hm.mono hsub) ?_)
    rw [List.take_of_length_le (Nat.le_of_eq hsz)] at hS
    obtain ⟨o, es, ep, t, ho, rest⟩ := hS
    exact ⟨o, es, ep, t, hm.heap S _ hSw ho, rest⟩
  | succ m ih =>
    intro i s hk hi hst hS hR
    have hlt : i < n := by omega
    have hkk : ks[i]? = some ks[i] := List.getElem?_eq_getElem (by omega)
    generalize ks[i] = k at hkk
    refine codeAny_builtin F.entry_set_update_loop ?_
    rw [Around.under_plainId F.plain_set_update_loop _]
    show wpAny _ A.in1 (pyNext (.ref I) >>= _) _ _ s
    refine wpAny_bind (W.item i s _ _ hlt hst fun v s' hP hst' hm => ?_)
    obtain ⟨hv1, hv2⟩ := hval i v k hkk hP
    have hS' : s'.heap.SetOf knd S (memB (ks.take i)) i := by
      obtain ⟨o, es, ep, tb, ho, rest⟩ := hS
      exact ⟨o, es, ep, tb, hm.heap S _ hSw ho, rest⟩
    show wpAny _ A.in1 (holding [v] (setAdd S v) >>= _) _ _ s'
    refine wpAny_bind (wpAny_holding ?_)
    unfold setAdd
    refine wpAny_holding (wpAny_bind (knd.pyHash hv1 ?_))
    refine wpAny_setAddHashed_of (knd := knd) (s := { s' with toks := s'.toks + 1 }) hv1 hv2 hS' (by omega) fun h' hsb hS2 => ?_
    refine wpAny_pure ⟨plainId_quiet F.plain_set_update_loop _, ih (i + 1) _ (by omega) hlt (W.frame _ s' _ _ hst' (Nat.le_succ _) fun b hb o e => ?_) (setOf_more hkk nd hS2) fun s'' hm'' hS'' => ?_⟩
    · exact (hsb.2 b fun z => hSf (z ▸ hb)).trans e
    · refine hR s'' (Moved.trans W.gtrans ((hm.mono hsub).then_heap (Nat.le_succ _) fun b o hb e => ?_) hm'') hS''
      exact (hsb.2 b fun z => hb (z ▸ List.mem_cons_self)).trans e
end
end M

/-! text: B4a -/
set_option Elab.async false
set_option linter.all false
set_option maxRecDepth 100000
set_option maxHeartbeats 8000000
namespace M
open PySem PySem.Spec PyProof.Rows L2
section
variable {K : Type} [DecidableEq K]
variable {prog : Program} {w : World} {A : Around} {E : Value → Shared → Prop} {s : Shared}
/-- what set(v) asks of v's type -/
structure SetSrc (T : String) : Prop where
  s1 : isSubtype (.type T) (.type "set") = pure false
  s2 : isSubtype (.type T) (.type "frozenset") = pure false
  nd : (Value.type T == Value.type "dict") = false
theorem src_list : SetSrc "list" := ⟨F.sub_list_set, F.sub_list_frozenset, by decide⟩
abbrev set0 (led : Bool) : Obj := { cls := .type "set", dict := none, data := .set #[] 0 (.fresh 0 0 led) }
theorem call_set_of {T : String} (src : SetSrc T) {l : Addr} {ob it : Obj} (knd : KeyKind prog w K) (ks : List K) (nd : ks.Nodup) {items : Array Value} {Q : Value → Shared → Prop} {G : Heap → Prop}
    (hl : s.heap.get? l = some ob) (hcls : ob.cls = .type T) (B : Begins (.ref l) it G) (hG : G s.heap) {Pw : Nat → Value → Prop} {St : Addr → Nat → Heap → Prop} (hG2 : ∀ h h' : Heap, G h → (∀ b o, h.get? b = some o → h'.get? b = some o) → G h')
    (W : ∀ (A' : Around) (j : Addr), A'.handled = none → l ≠ j → Walks prog w A' j [j, l] [j] ks.length Pw (St j)) (h0 : ∀ (h : Heap) (j : Addr), h.get? j = some it → G h → St j 0 h)
    (hh : A.handled = none) (hval : ∀ (i : Nat) v k, ks[i]? = some k → Pw i v → knd.is k v = true ∧ v.scannable = true) (hb : ks.length + 1 < scanBound)
    (h : ∀ (h' : Heap) (tk : Nat), h'.SetOf knd s.heap.objs.size (memB ks) ks.length → (∀ b o, s.heap.get? b = some o → h'.get? b = some o) → Q (.ref s.heap.objs.size) { s with heap := h', toks := tk }) :
    wpAny (model prog w) A (call (.type "set") [.ref l]) Q E s := by
  obtain ⟨c, tl, hmro⟩ := F.called_set.mro
  have hmade := F.called_set.made
  have hsub := F.called_set.sub
  refine wpAny_call (codeAny_of_tree ?_)
  show wpAny _ _ (callAny (.type "set") _) _ _ _
  refine wpAny_pure ⟨Code.quiet_builtin _ (by decide +kernel), codeAny_builtin F.entry_type_call ?_⟩
  rw [Around.under_plain (weight_type_call_type "set" [.ref l] []) rfl]
  have h1 := F.called_set.notType
  have h2 := F.called_set.canCreate
  have hct := F.typeCall_set_1 (.ref l)
  repeat (any_goals (first | assumption | wp_step))
  refine codeAny_mono (code_set_new_1 (.ref l) (E := E) (Q₁ := fun obj s₁ => ∃ led : Bool, obj = .ref s.heap.objs.size ∧ s₁ = { s with heap := s.heap.push (set0 led) }) fun led => ⟨led, rfl, rfl⟩) fun r s₁ hr => ?_
  cases r with
  | error e => exact hr
  | ok fl =>
    cases fl with
    | ret obj =>
      obtain ⟨led, rfl, rfl⟩ := hr
      have hS : (s.heap.push (set0 led)).get? s.heap.objs.size = some (set0 led) := Heap.get?_push_size _ rfl
      have hT : Shared.TypeIs { s with heap := s.heap.push (set0 led) } (.ref s.heap.objs.size) "set" := ⟨_, hS, rfl⟩
      have hli := F.called_set.init.lookup
      have hbi := F.called_set.init.bind (.ref s.heap.objs.size)
      repeat (any_goals (first | assumption | wp_step))
      refine codeAny_mono (codeAny_call_builtin (R := wants (fun r s₂ => r = .none ∧ ∃ h' tk, s₂ = { s with heap := h', toks := tk } ∧ h'.SetOf knd s.heap.objs.size (memB ks) ks.length ∧
          (∀ b o, s.heap.get? b = some o → h'.get? b = some o)) E) F.called_set.init.plain F.entry_set_init (check_set_init_1 hT ?_)) fun r₂ s₂ hr₂ => ?_
      · have hlS : l < s.heap.objs.size := Heap.lt_size hl
        obtain ⟨ocls, odict, odata, oslots⟩ := ob
        replace hcls : ocls = .type T := hcls
        subst hcls
        have hol' : (s.heap.push (set0 led)).get? l = some { cls := .type T, dict := odict, data := odata, slots := oslots } := Heap.get?_push_of_some _ hl
        have hsls := src.s1
        have hslf := src.s2
        have hne := src.nd
        have hG1 : G (s.heap.push (set0 led)) := hG2 _ _ hG fun b o e => Heap.get?_push_of_some _ e
        unfold Builtin.«set.__init__» noKeywords Builtin.Frozenset.updateFrom
        generalize hPI : pyIter = PI
        wp_walk
        subst hPI
        refine B.iter prog w _ _ { s with heap := s.heap.push (set0 led) } _ hG1 ?_
        refine wpAny_bind (wpAny_runValue ?_)
        have hh3 : A.in1.in1.in1.handled = none := by simp [hh]
        have hz : (s.heap.push (set0 led)).objs.size = s.heap.objs.size + 1 := Heap.size_push ..
        have hneI : l ≠ (s.heap.push (set0 led)).objs.size := by
          rw [hz]
          exact Nat.ne_of_lt (Nat.lt_succ_of_lt hlS)
        have hSf : s.heap.objs.size ∉ [(s.heap.push (set0 led)).objs.size, l] := by
          rw [hz]
          intro hm
          rcases List.mem_cons.mp hm with z | z
          · exact absurd z (Nat.ne_of_lt (Nat.lt_succ_self _))
          · exact absurd (List.mem_singleton.mp z) (Nat.ne_of_gt hlS)
        have hit : ((s.heap.push (set0 led)).push it).get? (s.heap.push (set0 led)).objs.size = some it := Heap.get?_push_size _ B.free
        refine set_loop ((W A.in1.in1.in1 _ hh3 hneI).toS) s.heap.objs.size hSf knd ks nd rfl hb hval (ks.length - 0) 0 _ rfl (Nat.zero_le _) (h0 _ _ hit (hG2 _ _ hG1 fun b o e => Heap.get?_push_of_some _ e)) ?hS0 ?hR
        case hS0 =>
          have hget : ((s.heap.push (set0 led)).push it).get? s.heap.objs.size = some (set0 led) := Heap.get?_push_of_some _ hS
          exact setOf_is ((setObjOf_fresh (knd := knd) led).setOf hget (by unfold scanBound; omega)) (by rw [List.take_zero]; rfl) rfl
        case hR =>
          intro s' hm hS'
          obtain ⟨h', g', d', tk', os'⟩ := s'
          have eg : g' = s.gens := hm.gens
          have ed : d' = s.drawn := hm.drawn
          have eo : os' = s.os := hm.os
          subst eg ed eo
          show wpAny _ _ _ _ _ _
          refine wpAny_pure ?_
          show wpAny _ _ (ret Value.none) _ _ _
          refine wpAny_pure ⟨rfl, h', tk', rfl, hS', fun b o e => ?_⟩
          have hb : b < s.heap.objs.size := Heap.lt_size e
          refine hm.heap b o (fun hmm => ?_) (Heap.get?_push_of_some _ (Heap.get?_push_of_some _ e))
          rcases List.mem_cons.mp hmm with z | z
          · exact absurd z (Nat.ne_of_lt hb)
          · rw [hz] at z
            exact absurd (List.mem_singleton.mp z) (Nat.ne_of_lt (Nat.lt_succ_of_lt hb))
      · cases r₂ with
        | error e => exact hr₂
        | ok fl₂ =>
          cases fl₂ with
          | ret r =>
            obtain ⟨rfl, h', tk, rfl, hS', hk'⟩ := hr₂
            repeat (any_goals (first | assumption | wp_step))
            exact h _ _ hS' hk'
          | _ => exact hr₂.elim
    | _ => exact hr.elim
end
end M

/-! text: B4b -/
set_option Elab.async false
set_option linter.all false
set_option maxRecDepth 100000
set_option maxHeartbeats 4000000
namespace M
open PySem PySem.Spec PyProof.Rows L2
theorem src_tup : SetSrc "tuple" := ⟨F.sub_tuple_set, F.sub_tuple_frozenset, by decide⟩
theorem kv_key {P : Program} {w : World} {ks : List Key} {us : List Value} (r : Vals (ks.map kV) us) : ∀ (i : Nat) v k, ks[i]? = some k → us.toArray[i]? = some v → (mixKind P w).is k v = true ∧ v.scannable = true := by
  intro i v k h1 h2
  have h3 : us[i]? = some v := by simpa using h2
  have h4 : (ks.map kV)[i]? = some (kV k) := by rw [List.getElem?_map, h1] <;> rfl
  obtain ⟨u, h5, h6⟩ := r.get h4
  rw [h3] at h5
  obtain rfl := Option.some.inj h5
  exact ⟨kV_is h6, key_scan h6⟩
/-- set(xs) -/
def rSetOf (K : PySem.W.Frag) (P : Program) (w : World) : List V → Hp → VK → Prop := fun vs H Q => ∃ (l : Addr) (b : Bool) (ks : List Key), vs = [.ref l] ∧ Sq K b H l (ks.map kV) ∧ ks.Nodup ∧ ks.length ≤ 1000 ∧
  ∀ p, H p = none → Q (.ref p) (upd H p (SetK P w p (memB ks) ks.length))
section
variable {X : Cx}
theorem cr_setOf (hc : X.calm = true) : CallR X (.type "set") (rSetOf X.K X.prog X.w) := by
  intro pins s σ H xs us Q I r h
  obtain ⟨l, b, ks, rfl, hq, nd, hz, q⟩ := h
  obtain ⟨u, rfl, ru⟩ := vals1 r
  cases ru
  have hb : ks.length + 1 < scanBound := by
    unfold scanBound
    omega
  have fin : ∀ (h' : Heap) (tk : Nat), h'.SetOf (mixKind X.prog X.w) s.heap.objs.size (memB ks) ks.length → (∀ b o, s.heap.get? b = some o → h'.get? b = some o) →
      EP X pins σ Q (.ref s.heap.objs.size) { s with heap := h', toks := tk } := by
    intro h' tk hS hk
    exact ⟨.ref s.heap.objs.size, _, I.laid (t' := tk) hk (Nat.le_refl _) (setK_new hS), rfl, q _ (I.hok.fresh (Nat.le_refl _))⟩
  cases b with
  | true =>
    obtain ⟨its, rv, p, hz2⟩ := I.list hq
    have hl : its.toArray.size = ks.length := by rw [List.size_toArray, ← rv.length, List.length_map]
    have pL : s.heap.IsList l its.toArray := p.isList
    obtain ⟨ob, ho, hcl, _⟩ := id pL
    have Wk : ∀ (A' : Around) (j : Addr), A'.handled = none → l ≠ j → Walks X.prog X.w A' j [j, l] [j] ks.length (fun i v => its.toArray[i]? = some v) (fun i h => h.IsListIter j l i ∧ h.IsList l its.toArray) := by
      intro A' j hh hne
      have := Walks.list (prog := X.prog) (w := X.w) hh j l hne its.toArray
      rw [hl] at this
      exact this
    exact call_set_of (items := #[]) (St := fun j i h => h.IsListIter j l i ∧ h.IsList l its.toArray) src_list (mixKind X.prog X.w) ks nd ho hcl (begins_list l its.toArray) pL (fun h h' x k => x.at fun o e => k l o e) Wk (fun h j e g => And.intro (show h.IsListIter j l 0 from ⟨_, e, rfl, rfl⟩) g) (I.ok.hd hc) (kv_key rv) hb fin
  | false =>
    obtain ⟨its, rv, p, hz2⟩ := I.tuple hq
    have hl : its.toArray.size = ks.length := by rw [List.size_toArray, ← rv.length, List.length_map]
    have pL : s.heap.IsTuple l its.toArray := p
    obtain ⟨ob, ho, hcl, _⟩ := id pL
    have Wk : ∀ (A' : Around) (j : Addr), A'.handled = none → l ≠ j → Walks X.prog X.w A' j [j, l] [j] ks.length (fun i v => its.toArray[i]? = some v) (fun i h => h.IsTupleIter j l i ∧ h.IsTuple l its.toArray) := by
      intro A' j hh hne
      have := Walks.tuple (prog := X.prog) (w := X.w) hh j l hne its.toArray
      rw [hl] at this
      exact this
    exact call_set_of (items := #[]) (St := fun j i h => h.IsTupleIter j l i ∧ h.IsTuple l its.toArray) src_tup (mixKind X.prog X.w) ks nd ho hcl (begins_tuple l its.toArray) pL (fun h h' x k => x.at fun o e => k l o e) Wk (fun h j e g => And.intro (show h.IsTupleIter j l 0 from ⟨_, e, rfl, rfl⟩) g) (I.ok.hd hc) (kv_key rv) hb fin
/-- len of such a set -/
def rLenSet (P : Program) (w : World) : List V → Hp → VK → Prop := fun vs H Q => ∃ (p : Addr) (S : Key → Bool) (n : Nat), vs = [.ref p] ∧ H p = some (SetK P w p S n) ∧ n ≤ 1000 ∧ Q (.int n) H
theorem cr_lenSet : CallR X (.builtin "len") (rLenSet X.prog X.w) := by
  intro pins s σ H xs us Q I r h
  obtain ⟨p, S, n, rfl, hp, hz, q⟩ := h
  obtain ⟨u, rfl, ru⟩ := vals1 r
  cases ru
  obtain ⟨o, es, ep, t, ho, hex, hd, _, _, _, hf, hn⟩ := setK_get I hp
  exact call_len_set ho hex hd hf (by rw [hn]; omega) ⟨.int n, H, I.tok _, ⟨_, by rw [hn]⟩, q⟩
end
end M

/-! text: B5 -/
set_option Elab.async false
set_option linter.all false
set_option maxRecDepth 100000
set_option maxHeartbeats 4000000
/-! own readings: fields by class, isinstance by type names -/
namespace M
open PySem PySem.Spec PyProof.Rows L2
/-! ### fields, the class known -/
def tF (C : Addr) (ta : TE) (f : Str) : TE := fun σ H Q => ta σ H fun x H1 => ∃ a dx fs v, x = .ref a ∧ H1 a = some (.ins C dx fs) ∧ fs.lookup f = some v ∧ Q v H1
def sF (C : Addr) (ta tv : TE) (f : Str) : TS := fun D σ H => tv σ H fun y H1 => ta σ H1 fun x H2 => ∃ a dx fs, x = .ref a ∧ H2 a = some (.ins C dx fs) ∧ fs.length < 1000 ∧ D.nx σ (upd H2 a (.ins C dx (putF f y fs)))
def sFAug (C : Addr) (ta tv : TE) (rd : R2) (f : Str) : TS := fun D σ H => ta σ H fun x H1 => ∃ a dx fs v, x = .ref a ∧ H1 a = some (.ins C dx fs) ∧ fs.lookup f = some v ∧
  tv σ H1 fun y H2 => rd v y H2 fun z H3 => ∃ dx' fs', H3 a = some (.ins C dx' fs') ∧ fs'.length < 1000 ∧ D.nx σ (upd H3 a (.ins C dx' (putF f z fs')))
section
variable {X : Cx} {o e value : Expr} {f : Str} {pos pos' tpos : Pos} {ta tv : TE} {C : Addr}
theorem peF (cl : Cls X.K C) (na : NoAttr X.K C f) (he : PE X e ta) (hb : attributeBase e f X.env (eval e X.env) = eval e X.env := by rfl) : PE X (.Attribute e f pos) (tF C ta f) := by
  constructor
  intro pins s σ H Q I h
  refine attr_of hb (thn (he.run pins s σ H _ I h) fun u s1 q => ?_)
  obtain ⟨x, H1, I1, rx, a, dx, fs, v, ex, ea, l, q⟩ := q
  subst ex
  cases rx
  exact getattr_ok I1 ea cl na l fun u' s2 I2 ru => ⟨v, H1, I2, ru, q⟩
theorem psF (cl : Cls X.K C) (na : NoAttr X.K C f) (ha : PE X o ta) (hv : PE X value tv) (hs : swapsWith value (some (.Attribute o f pos')) pos.line X.env = pure false := by rfl) : PS X (.Assign [.Attribute o f pos'] value pos) (sF C ta tv f) := by
  constructor
  intro pins s σ H D I h
  refine plainObj_wpAny_Assign_Attribute (thn (hv.run pins s σ H _ I h) fun u s1 q => ?_) hs
  obtain ⟨y, H1, I1, ry, q⟩ := q
  refine thn (ha.run pins s1 σ H1 _ I1 q) fun ov s2 q2 => ?_
  obtain ⟨x, H2, I2, rx, a, dx, fs, ex, ea, l, q2⟩ := q2
  subst ex
  cases rx
  exact setattr_ok I2 ea cl na l ry fun s3 I3 => ⟨σ, _, I3, q2⟩
theorem psFAug {op : Operator} {rd : R2} (cl : Cls X.K C) (na : NoAttr X.K C f) (ha : PE X o ta) (hv : PE X value tv) (hop : InOp X op rd) : PS X (.AugAssign (.Attribute o f tpos) op value pos) (sFAug C ta tv rd f) := by
  constructor
  intro pins s σ H D I h
  refine wpAny_AugAssign_AttributeAny (thn (ha.run pins s σ H _ I h) fun ov s1 q => ?_)
  obtain ⟨x, H1, I1, rx, a, dx, fs, v, ex, ea, l, q⟩ := q
  subst ex
  cases rx
  refine getattr_ok I1 ea cl na l fun u s2 I2 ru => thn (hv.run pins s2 σ H1 _ I2 q) fun w3 s3 q3 => ?_
  obtain ⟨y, H2, I3, ry, q3⟩ := q3
  refine thn (hop pins s3 σ H2 v y u w3 _ I3 ru ry q3) fun w4 s4 q4 => ?_
  obtain ⟨z, H3, I4, rz, dx', fs', ea', l', q4⟩ := q4
  exact setattr_ok I4 ea' cl na l' rz fun s5 I5 => ⟨σ, _, I5, q4⟩
end
/-! ### types by names -/
inductive TN (H : Hp) : V → String → Prop
  | non : TN H .non "NoneType"
  | bl (b : Bool) : TN H (.bl b) "bool"
  | int (i : Int) : TN H (.int i) "int"
  | str (x : Str) : TN H (.str x) "str"
  | lst {a : Addr} {xs : List V} (h : H a = some (.lst xs)) : TN H (.ref a) "list"
  | tup {a : Addr} {xs : List V} (h : H a = some (.tup xs)) : TN H (.ref a) "tuple"
  | dK {a : Addr} {kvs : List (Key × V)} (h : H a = some (.dK kvs)) : TN H (.ref a) "dict"
theorem TN.tyX {K : PySem.W.Frag} {H : Hp} {x : V} {t : String} (h : TN H x t) : TyX K H x (.type t) := by
  cases h with
  | non => exact .base .non
  | bl b => exact .base (.bl b)
  | int i => exact .base (.int i)
  | str x => exact .base (.str x)
  | lst h => exact .base (.lst h)
  | tup h => exact .base (.tup h)
  | dK h => exact .base (.dK h)
/-- isinstance by names: bool is an int -/
def isN (t c : String) : Bool := t == c || (t == "bool" && c == "int")
def clsN : List String := ["int", "bool", "str", "tuple", "list"]
theorem kit_names : (["NoneType", "bool", "int", "str", "list", "tuple", "dict"].all fun t => clsN.all fun c => kitB t c == some (isN t c)) = true := by decide +kernel
theorem TN.mem {H : Hp} {x : V} {t : String} (h : TN H x t) : t ∈ ["NoneType", "bool", "int", "str", "list", "tuple", "dict"] := by
  cases h <;> simp
theorem kit_n {K : PySem.W.Frag} {H : Hp} {x : V} {t c : String} (h : TN H x t) (hc : c ∈ clsN) : PySem.W.kitOne K (.type t) (.type c) = some (isN t c) := by
  have h1 := List.all_eq_true.mp kit_names t h.mem
  have h2 := List.all_eq_true.mp h1 c hc
  exact kit_ty (by simpa using h2)
/-- isinstance(x, c) -/
def rIs1 : List V → Hp → VK → Prop := fun xs H Q => ∃ (x : V) (c t : String), xs = [x, .ty c] ∧ TN H x t ∧ clsN.contains c = true ∧ Q (.bl (isN t c)) H
/-- isinstance(x, (c1, c2)) -/
def rIs2 : List V → Hp → VK → Prop := fun xs H Q => ∃ (x : V) (c1 c2 t : String) (p : Addr), xs = [x, .ref p] ∧ H p = some (.tup [.ty c1, .ty c2]) ∧ TN H x t ∧ (clsN.contains c1 && clsN.contains c2) = true ∧ Q (.bl (isN t c1 || isN t c2)) H
section
variable {X : Cx}
theorem cr_is1 : CallR X (.builtin "isinstance") rIs1 := by
  intro pins s σ H xs us Q I r h
  obtain ⟨x, c, t, rfl, ht, hc, q⟩ := h
  exact call_isi pins s σ H _ us Q I r ⟨x, .ty c, .type t, .type c, isN t c, rfl, .ty c, ht.tyX, kit_n ht (by simpa using hc), q⟩
theorem cr_is2 : CallR X (.builtin "isinstance") rIs2 := by
  intro pins s σ H xs us Q I r h
  obtain ⟨x, c1, c2, t, p, rfl, hp, ht, hc, q⟩ := h
  have hc : clsN.contains c1 = true ∧ clsN.contains c2 = true := by simpa using hc
  refine call_isiT pins s σ H _ us Q I r ⟨x, p, [.ty c1, .ty c2], .type t, [.type c1, .type c2], isN t c1 || isN t c2, rfl, hp, .cons (.ty c1) (.cons (.ty c2) .nil), ht.tyX, ?_, q⟩
  refine kitAny_cons (kit_n ht (by simpa using hc.1)) (fun e => ?_) (fun e => ?_)
  · rw [e]
    refine kitAny_cons (kit_n ht (by simpa using hc.2)) (fun e2 => ?_) (fun e2 => ?_)
    · rw [e2]
      exact kitAny_nil
    · rw [e2] <;> rfl
  · rw [e] <;> rfl
end
end M

/-! text: B6 -/
set_option Elab.async false
set_option linter.all false
set_option maxRecDepth 100000
set_option maxHeartbeats 4000000
/-! calls of defs by their promises, as one package -/
namespace M
open PySem PySem.Spec PyProof.Rows L2
abbrev CXE (P : Program) (w : World) : CXT := L2.CX P w
/-- the def found at at_ keeps the promise sp at level k -/
structure Okd (P : Program) (w : World) (K : PySem.W.Frag) (mg : Str → Option Value) (base : Heap) (k : Nat) (at_ : Str × Option Str) (ps : List Str) (sp : Sp) : Prop where
  ex : ∃ fd, FnOk P w K mg base (CXE P w) k (He.fAd K at_) fd ps sp ∧ Binds K fd ps []
  kp : PySem.W.keepIn K (.ref (He.fAd K at_)) = true
abbrev tCl (sp : Sp) (t : TA) : TE := tCall sp [] E0 t
abbrev tMt (C : Addr) (m : Str) (sp : Sp) (ta : TE) (t : TA) : TE := tMeth C m sp [] E0 ta t
abbrev tMk (C : Addr) (sp : Sp) (t : TA) : TE := tMake C sp [] E0 t
section
variable {X : Cx} {k n : Nat} {x m : Str} {ps : List Str} {sp : Sp} {p pos apos : Pos} {e o : Expr} {es : List Expr} {ta : TE} {t : TA} {cn : Str}
theorem peCall (G : Okd X.prog X.w X.K X.mg X.base k (x, none) ps sp) (hr : Room n X.A) (hm : X.mg x = some (.ref (He.ga X.K x))) (ha : PA X (e :: es) t) (hk : k ≤ n := by decide) (hg : Gl X x := by rfl)
    (hdb : (x == ("__debug__" : Str)) = false := by decide) (he : starEach (e :: es) X.env = (false, eval e X.env) :: starEach es X.env := by rfl) (hpl : (backTo pos (starEach es X.env)).any (·.1) = false := by rfl) :
    PE X (.Call (.Name x p) (e :: es) [] pos) (tCl sp t) := by
  obtain ⟨fd, F, b⟩ := G.ex
  exact pe_call F (hr.mono hk) hg hm G.kp b .nil passL ha hdb he hpl
theorem peCall0 (G : Okd X.prog X.w X.K X.mg X.base k (x, none) ps sp) (hr : Room n X.A) (hm : X.mg x = some (.ref (He.ga X.K x))) (hk : k ≤ n := by decide) (hg : Gl X x := by rfl)
    (hdb : (x == ("__debug__" : Str)) = false := by decide) : PE X (.Call (.Name x p) [] [] pos) (tCl sp tNil) := by
  obtain ⟨fd, F, b⟩ := G.ex
  exact pe_call0 F (hr.mono hk) hg hm G.kp b .nil passL hdb
theorem peMeth {pl : Sem Bool} (G : Okd X.prog X.w X.K X.mg X.base k (cn, some m) ps sp) (hr : Room n X.A) (c : Cls X.K (He.ga X.K cn)) (hm : Meth X.K (He.ga X.K cn) m (He.ma X.K (He.ga X.K cn) m)) (he : PE X o ta) (ha : PA X (e :: es) t) (hk : k ≤ n := by decide)
    (hst : starEach (e :: es) X.env = (false, eval e X.env) :: starEach es X.env := by rfl) (hpl : (backTo pos (starEach es X.env)).any (·.1) = false := by rfl)
    (ht : eval (.Call (.Attribute o m apos) (e :: es) [] pos) X.env = (do
      let ov ← eval o X.env
      standAt apos.atName
      let (f, first) ← holding [ov] (getMethod ov m pl)
      callWith pos f first (backTo pos (starEach (e :: es) X.env)) (backToKw pos (keywordEach [] X.env))) := by rfl) :
    PE X (.Call (.Attribute o m apos) (e :: es) [] pos) (tMt (He.ga X.K cn) m sp ta t) := by
  obtain ⟨fd, F, b⟩ := G.ex
  exact pe_meth he c hm F (hr.mono hk) b .nil passL ha hst hpl ht
theorem peMeth0 {pl : Sem Bool} (G : Okd X.prog X.w X.K X.mg X.base k (cn, some m) ps sp) (hr : Room n X.A) (c : Cls X.K (He.ga X.K cn)) (hm : Meth X.K (He.ga X.K cn) m (He.ma X.K (He.ga X.K cn) m)) (he : PE X o ta) (hk : k ≤ n := by decide)
    (ht : eval (.Call (.Attribute o m apos) [] [] pos) X.env = (do
      let ov ← eval o X.env
      standAt apos.atName
      let (f, first) ← holding [ov] (getMethod ov m pl)
      callWith pos f first (backTo pos (starEach [] X.env)) (backToKw pos (keywordEach [] X.env))) := by rfl) :
    PE X (.Call (.Attribute o m apos) [] [] pos) (tMt (He.ga X.K cn) m sp ta tNil) := by
  obtain ⟨fd, F, b⟩ := G.ex
  exact pe_meth0 he c hm F (hr.mono hk) b .nil passL ht
theorem peMake (G : Okd X.prog X.w X.K X.mg X.base k (x, some "__init__") ps sp) (hr : Room n X.A) (hm : X.mg x = some (.ref (He.ga X.K x))) (mk : Mk X.K (He.ga X.K x) (He.ma X.K (He.ga X.K x) "__init__")) (ha : PA X (e :: es) t) (hk : k + 1 ≤ n := by decide) (hg : Gl X x := by rfl)
    (hdb : (x == ("__debug__" : Str)) = false := by decide) (he : starEach (e :: es) X.env = (false, eval e X.env) :: starEach es X.env := by rfl) (hpl : (backTo pos (starEach es X.env)).any (·.1) = false := by rfl) :
    PE X (.Call (.Name x p) (e :: es) [] pos) (tMk (He.ga X.K x) sp t) := by
  obtain ⟨fd, F, b⟩ := G.ex
  exact pe_make mk F (hr.mono hk) hg hm b .nil passL ha hdb he hpl
end
/-- how a def's package is made: its body's reading t, its derivation, the reading's proof -/
theorem okd_mk {P : Program} {w : World} {K : PySem.W.Frag} {mg : Str → Option Value} {base : Heap} {k : Nat} {at_ : Str × Option Str} {nm qual : Str} {params : Arguments} {body : List Stmt} {scope : Scope} {fd : FuncData} {N ps : List Str} {sp : Sp} {t : TS}
    (F : FunD K nm qual params body scope [] [] (He.fAd K at_) fd) (S : FnScope N ps scope) (len : ∀ vs H Q E, sp vs H Q E → vs.length = ps.length)
    (hb : ∀ (kV doc pm : Value) (an : Option Addr) (cdv ct : Value) (us : List Value), us.length = ps.length → bindArgs (PySem.W.fnOf nm qual params body scope .none kV doc pm an cdv ct) ⟨us, []⟩ = pure (ps.zip us))
    (der : ∀ (cdv : Value) (A : Around) (outer : List Env) (s : Shared) (H : Hp) (E : XK), Room k (A.deeper (envOfC qual scope s.heap.objs.size (He.fAd K at_) cdv)) →
      PSs (cxOf (CXE P w) P w K mg base N qual scope (He.fAd K at_) cdv A outer s H E).nox body t)
    (pure_ : ∀ vs H Q E, sp vs H Q E → t { nx := fun _ H' => Q .non H', rt := Q } (start N vs) H) : Okd P w K mg base (k + 1) at_ ps sp := by
  constructor
  · refine ⟨fd, ?_, F.bindsN hb⟩
    exact F.ok S len fun cdv A outer s H vs Q E hr h => ⟨t, PSs.nox (der cdv A outer s H E hr), pure_ vs H Q E h⟩
  · exact F.kp
end M

/-! text: B7 -/
set_option Elab.async false
set_option linter.all false
set_option maxRecDepth 100000
set_option maxHeartbeats 4000000
/-! short names of readings by operation -/
namespace M
open PySem PySem.Spec PyProof.Rows L2
abbrev rAddI : R2 := rI0 fun i j => .int (i + j)
abbrev rSubI : R2 := rI0 fun i j => .int (i - j)
abbrev rMulI : R2 := rI CMul fun i j => .int (i * j)
abbrev rDivI : R2 := rI CDiv fun i j => .int (i / j)
abbrev rModI : R2 := rI (fun _ j => 0 < j) fun i j => .int (i % j)
abbrev rLtI : R2 := rI0 fun i j => .bl (decide (i < j))
abbrev rLeI : R2 := rI0 fun i j => .bl (decide (i ≤ j))
abbrev rGtI : R2 := rI0 fun i j => .bl (decide (j < i))
abbrev rGeI : R2 := rI0 fun i j => .bl (decide (j ≤ i))
abbrev rAddStr : R2 := fun x y H Q => ∃ i j, x = .str i ∧ y = .str j ∧ i.length + j.length ≤ sizeLine ∧ Q (.str (i ++ j)) H
abbrev rIsNon : R2 := fun x y H Q => y = .non ∧ Q (.bl (decide (x = .non))) H
abbrev rNotNon : R2 := fun x y H Q => y = .non ∧ Q (.bl (!decide (x = .non))) H
abbrev rInSign : R2 := fun x y H Q => ∃ (c : Nat) (z : Str), x = .str ⟨#[c]⟩ ∧ y = .str z ∧ Q (.bl (decide (c ∈ z.cps.toList))) H
abbrev rLenSeq (K : PySem.W.Frag) : List V → Hp → VK → Prop := fun xs H Q => ∃ p ys, xs = [.ref p] ∧ (SqL K H p ys ∨ SqT K H p ys) ∧ Q (.int ys.length) H
abbrev rLenStr : List V → Hp → VK → Prop := fun xs H Q => ∃ z, xs = [.str z] ∧ z.length ≤ sizeLine ∧ Q (.int z.length) H
abbrev rInt1 : List V → Hp → VK → Prop := fun xs H Q => (∃ i, xs = [.int i] ∧ Q (.int i) H) ∨ ∃ k, xs = [.bl k] ∧ Q (.int (if k then 1 else 0)) H
abbrev rListOf (K : PySem.W.Frag) : List V → Hp → VK → Prop := fun xs H Q => ∃ p ys, xs = [.ref p] ∧ (SqL K H p ys ∨ SqT K H p ys) ∧ ∀ l, H l = none → Q (.ref l) (upd H l (.lst ys))
abbrev rTupleOf (K : PySem.W.Frag) : List V → Hp → VK → Prop := fun xs H Q => ∃ p ys, xs = [.ref p] ∧ ((SqL K H p ys ∧ ∀ l, H l = none → Q (.ref l) (upd H l (.tup ys))) ∨ (SqT K H p ys ∧ Q (.ref p) H))
abbrev rMax2I : List V → Hp → VK → Prop := fun xs H Q => ∃ i j, xs = [.int i, .int j] ∧ Q (.int (if j > i then j else i)) H
abbrev rMin2I : List V → Hp → VK → Prop := fun xs H Q => ∃ i j, xs = [.int i, .int j] ∧ Q (.int (if j < i then j else i)) H
/-- a test by a value's truth -/
def tTru (K : PySem.W.Frag) (ta : TE) : TT := fun σ H Q => ta σ H fun x H' => ∃ k, TruV K x H' k ∧ Q k H'
theorem ptTru {X : Cx} {a : Expr} {ta : TE} (ha : PE X a ta) (he : ∀ whole, isTrue a X.env whole = (do let v ← whole; standAt a.pos; holding [v] (truthy v)) := by intro _; rfl) : PT X a (tTru X.K ta) := pt_truth ha he
/-- a def's name as the module has it -/
abbrev Glo (K : PySem.W.Frag) (mg : Str → Option Value) (x : Str) : Prop := mg x = some (.ref (He.ga K x))
theorem op_in_sg {X : Cx} : OpR X (compareOp .In) rInSign := op_in_sign
theorem peStr {X : Cx} {x z : Str} {pos : Pos} (h : ∃ t, X.mg x = some (.str z t)) (hg : Gl X x := by rfl) (hd : (x == ("__debug__" : Str)) = false := by decide) : PE X (.Name x pos) (tC (.str z)) := by
  obtain ⟨t, h⟩ := h
  exact pe_glob hg h ⟨t, rfl⟩ hd
theorem peInt {X : Cx} {x : Str} {i : Int} {pos : Pos} (h : ∃ t, X.mg x = some (.int i t)) (hg : Gl X x := by rfl) (hd : (x == ("__debug__" : Str)) = false := by decide) : PE X (.Name x pos) (tC (.int i)) := by
  obtain ⟨t, h⟩ := h
  exact pe_glob hg h ⟨t, rfl⟩ hd
abbrev tM1j (K : PySem.W.Frag) (to te : TE) : TE := tM1 (fun x xs H Q => ∃ a p, ∃ ys : List Str, x = .str a ∧ xs = [.ref p] ∧ (SqL K H p (ys.map V.str) ∨ SqT K H p (ys.map V.str)) ∧ (ys.map (·.length)).sum + ys.length * a.length ≤ 16777216 ∧ Q (.str (Txt.join a ys)) H) to te
end M

/-! text: B8 -/
set_option Elab.async false
set_option linter.all false
set_option maxRecDepth 100000
set_option maxHeartbeats 4000000
/-! frames; comprehensions whose elements change nothing that stood -/
namespace M
open PySem PySem.Spec PyProof.Rows L2
theorem _root_.L2.Same.new {H : Hp} {p : Addr} {o : HO} (h : H p = none) : Same H (upd H p o) := fun b u e => by
  rw [upd_ne (ne_of_none e h)]
  exact e
/-- an object that H does not know may change -/
theorem _root_.L2.Same.mut {H H' : Hp} {p : Addr} {o : HO} (e : Same H H') (h : H p = none) : Same H (upd H' p o) := fun b u q => by
  rw [upd_ne (ne_of_none q h)]
  exact e b u q
theorem _root_.L2.Same.sqt {K : PySem.W.Frag} {H H' : Hp} {a : Addr} {xs : List V} (e : Same H H') (h : SqT K H a xs) : SqT K H' a xs := by
  rcases h with (h | ⟨o, h⟩) | h
  · exact .inl (.inl (e _ _ h))
  · exact .inl (.inr ⟨o, e _ _ h⟩)
  · exact .inr h
theorem _root_.L2.Same.sq {K : PySem.W.Frag} {b : Bool} {H H' : Hp} {a : Addr} {xs : List V} (e : Same H H') (h : Sq K b H a xs) : Sq K b H' a xs := by
  cases b with
  | true => exact e.seq h
  | false => exact e.sqt h
theorem _root_.L2.Same.tn {H H' : Hp} {x : V} {t : String} (e : Same H H') (h : TN H x t) : TN H' x t := by
  cases h with
  | non => exact .non
  | bl b => exact .bl b
  | int i => exact .int i
  | str x => exact .str x
  | lst h => exact .lst (e _ _ h)
  | tup h => exact .tup (e _ _ h)
  | dK h => exact .dK (e _ _ h)
theorem _root_.L2.Same.fresh {H H' : Hp} {p : Addr} (e : Same H H') (h : H' p = none) : H p = none := e.free h
/-- what may have changed lies at these addresses -/
def But (S : List Addr) (H H' : Hp) : Prop := ∀ a o, H a = some o → a ∉ S → H' a = some o
theorem But.of {S : List Addr} {H H' : Hp} (e : Same H H') : But S H H' := fun a o h _ => e a o h
theorem But.refl (S : List Addr) (H : Hp) : But S H H := fun _ _ h _ => h
theorem But.trans {S : List Addr} {H H1 H2 : Hp} (a : But S H H1) (b : But S H1 H2) : But S H H2 := fun x o h n => b x o (a x o h n) n
theorem But.mono {S S' : List Addr} {H H' : Hp} (a : But S H H') (h : ∀ x ∈ S, x ∈ S') : But S' H H' := fun x o e n => a x o e fun m => n (h x m)
theorem But.put {S : List Addr} {H H' : Hp} {p : Addr} {o : HO} (a : But S H H') (h : p ∈ S) : But S H (upd H' p o) := fun x u e n => by
  rw [upd_ne (fun z => n (by rw [z]; exact h))]
  exact a x u e n
theorem But.mut {S : List Addr} {H H' : Hp} {p : Addr} {o : HO} (a : But S H H') (h : H p = none) : But S H (upd H' p o) := fun x u e n => by
  rw [upd_ne (ne_of_none e h)]
  exact a x u e n
theorem But.same {H H' : Hp} (a : But [] H H') : Same H H' := fun x o e => a x o e (by simp)
theorem But.fresh {S : List Addr} {H H' : Hp} {p : Addr} (a : But S H H') (h : H' p = none) (n : p ∉ S) : H p = none := by
  cases e : H p with
  | none => rfl
  | some o =>
    rw [a p o e n] at h
    cases h
theorem But.tup {S : List Addr} {H H' : Hp} {p : Addr} {xs : List V} (a : But S H H') (h : H p = some (.tup xs)) (n : p ∉ S) : H' p = some (.tup xs) := a p _ h n
/-- all but what S names, S unknown to H -/
theorem But.to_same {S : List Addr} {H H' : Hp} (a : But S H H') (h : ∀ p ∈ S, H p = none) : Same H H' := fun x o e => a x o e fun m => by
  rw [h x m] at e
  cases e
/-- the i-th that are kept, told by f -/
def kept (n : Nat) (p : Nat → Bool) (f : Nat → V) : List V := ((List.range n).filter p).map f
theorem kept_yes {n : Nat} {p : Nat → Bool} {f : Nat → V} (h : p n = true) : kept (n + 1) p f = kept n p f ++ [f n] := by
  unfold kept
  rw [List.range_succ, List.filter_append, List.map_append, List.filter_cons, if_pos h]
  rfl
theorem kept_no {n : Nat} {p : Nat → Bool} {f : Nat → V} (h : p n = false) : kept (n + 1) p f = kept n p f := by
  unfold kept
  rw [List.range_succ, List.filter_append, List.map_append, List.filter_cons, if_neg (by rw [h]; decide)]
  exact List.append_nil _
theorem kept_len (n : Nat) (p : Nat → Bool) (f : Nat → V) : (kept n p f).length ≤ n := by
  unfold kept
  rw [List.length_map]
  have h := List.length_filter_le p (List.range n)
  rw [List.length_range] at h
  exact h
theorem kept_all (n : Nat) (f : Nat → V) : kept n (fun _ => true) f = (List.range n).map f := by
  unfold kept
  rw [List.filter_eq_self.mpr fun _ _ => rfl]
/-- a list of n values told by place is the map over its items -/
theorem range_map {α β : Type} (l : List α) (f : Nat → β) (g : α → β) (h : ∀ i x, l[i]? = some x → f i = g x) : (List.range l.length).map f = l.map g := by
  apply List.ext_getElem?
  intro i
  rw [List.getElem?_map, List.getElem?_map]
  by_cases hi : i < l.length
  · rw [List.getElem?_range hi, List.getElem?_eq_getElem hi]
    exact congrArg some (h i _ (List.getElem?_eq_getElem hi))
  · rw [List.getElem?_eq_none (by rw [List.length_range]; omega), List.getElem?_eq_none (by omega)]
    rfl
section
variable {J : It} {n : Nat} {G : Hp → Prop} {Y : Nat → Hp → V → Hp → Prop} {g : TG} {tt : TT} {te : TE} {vs : List Nat} {σ : L2.St} {H1 : Hp} {D : Addr} {Qd : Hp → Prop}
/-- a comprehension: each turn from any heap that keeps H1; its element f i, kept where p i -/
theorem lc_pure (w : Walk J n G Y) (hn : n ≤ 1000000) (p : Nat → Bool) (f : Nat → V) (hD : H1 D = none) (hG : ∀ H, Same H1 H → G H)
    (hs : ∀ i x Ha Hb, i < n → Same H1 Ha → Y i Ha x Hb → ∀ (Q : VK) (QF : Hp → Prop), (p i = true → ∀ H4, Same Ha H4 → Q (f i) H4) → (p i = false → ∀ H4, Same Ha H4 → QF H4) →
      g x (wipe σ vs) Hb fun σ2 H2 => wipe σ2 vs = wipe σ vs ∧ tt σ2 H2 fun b H3 => if b = true then te σ2 H3 Q else QF H3)
    (hd : ∀ H, Same H1 H → H D = some (.lst (kept n p f)) → Qd H) :
    ∃ W : Nat → Nat → Hp → Prop, (∃ m, W 0 m (upd H1 D (.lst []))) ∧ ∀ i m H, W i m H →
      (J.stop i H ∧ Qd H) ∨ (J.go i H ∧ ∃ Nx : Hp → Prop, (∀ H', Nx H' → ∃ m', m' < m ∧ W (i + 1) m' H') ∧ ∀ x H', J.yld i H x H' → g x (wipe σ vs) H' fun σ2 H2 => wipe σ2 vs = wipe σ vs ∧ tt σ2 H2 fun b H3 =>
        if b = true then te σ2 H3 fun y H4 => ∃ acc, H4 D = some (.lst acc) ∧ acc.length < sizeLine ∧ Nx (upd H4 D (.lst (acc ++ [y]))) else Nx H3) := by
  have hz : sizeLine = 16777216 := sizeLine_eq
  refine lc_it w (fun i H => Same H1 H ∧ H D = some (.lst (kept i p f))) ⟨Same.new hD, upd_same⟩ (fun i H _ q => hG H q.1) (fun i x Ha Hb hi q y => ?_) (fun H q => hd H q.1 q.2)
  obtain ⟨q1, q2⟩ := q
  refine hs i x Ha Hb hi q1 y _ _ (fun e H4 e4 => ⟨kept i p f, e4 _ _ q2, by have := kept_len i p f; omega, Same.mut (q1.trans e4) hD, ?_⟩) (fun e H4 e4 => ⟨q1.trans e4, ?_⟩)
  · rw [kept_yes e]
    exact upd_same
  · rw [kept_no e]
    exact e4 _ _ q2
end
end M

/-! text: B9 -/
set_option Elab.async false
set_option linter.all false
set_option maxRecDepth 100000
set_option maxHeartbeats 8000000
/-! a set comprehension of tuples that adds to an empty set alone -/
namespace M
open PySem PySem.Spec PyProof.Rows L2
/-- a set of m things at p; m = 0: a fresh one -/
def SzO (w : World) (p : Addr) (m : Nat) : HO := .ext fun h => ∃ o es ep t, h.get? p = some o ∧ o.ExactSet ∧ o.data = .set es ep t ∧ t.fits es.size = true ∧ es.size = m ∧
  (m = 0 → es = #[] ∧ t = .fresh 0 0 (!w.params.followText "set-order"))
theorem szO_new {P : Program} {w : World} {H : Hp} {h : Heap} {p : Addr} {m : Nat} (q : ∃ o es ep t, h.get? p = some o ∧ o.ExactSet ∧ o.data = .set es ep t ∧ t.fits es.size = true ∧ es.size = m ∧ (m = 0 → es = #[] ∧ t = .fresh 0 0 (!w.params.followText "set-order"))) :
    ObjOk P w H h p (SzO w p m) := by
  refine ⟨q, ?_, ?_⟩
  · obtain ⟨o, es, ep, t, ho, r⟩ := q
    exact ⟨o, ho⟩
  · rintro h1 h2 ⟨o, es, ep, t, ho, r⟩ k
    exact ⟨o, es, ep, t, k o ho, r⟩
theorem tab_fresh (led : Bool) : TabOk (.fresh 0 0 led) [] := ⟨List.Pairwise.nil, rfl, rfl, .inl rfl, fun x hx => (by cases hx), fun i h j hi => (by simp at hi)⟩
section
variable {P : Program} {w : World} {A : Around} {E : Value → Shared → Prop} {s : Shared} {a : Addr}
theorem search_new {o : Obj} {ep : Nat} {led : Bool} (ho : s.heap.get? a = some o) (hd : o.data = .set #[] ep (.fresh 0 0 led)) {x : Addr} {h : Int} {Q : SetFound → Shared → Prop}
    (q : Q (.free (way (SetTable.fresh 0 0 led).mask h 0) false) s) : wpAny (model P w) A (setSearch a (.ref x) h true) Q E s := by
  unfold setSearch
  rw [show (100000 : Nat) = 99999 + 1 from rfl, setSearchFrom_succ]
  refine wpAny_bind (wpAny_setState_of ho hd rfl ?_)
  dsimp only
  refine wp_if_neg (by cases led <;> decide) ?_
  try refine wpAny_bind (wpAny_pure ?_)
  exact wpAny_pure q
/-- hashByValue of a tuple whose first item is a text -/
theorem hashBy_text {b : Addr} {o : Obj} {x : Str} {t : Nat} {r : List Value} {n : Nat} {Q : Bool → Shared → Prop} (ho : s.heap.get? b = some o) (hc : o.cls = .type "tuple") (hd : o.data = .seq (Value.str x t :: r).toArray n) (h : Q false s) :
    wpAny (model P w) A (hashByValue 8 (.ref b)) Q E s := by
  have hT : s.TypeIs (.ref b) "tuple" := ⟨o, ho, hc⟩
  unfold hashByValue
  refine wpAny_bind (wpAny_specialOf hT F.slot_tuple_hash.lookup ?_)
  show wpAny _ _ (seqItems? (.ref b) >>= _) _ _ s
  refine wpAny_bind (wpAny_seqItems ho hd ?_)
  show wpAny _ _ (forIn (Value.str x t :: r).toArray _ _ >>= _) _ _ s
  rw [← Array.forIn_toList]
  simp only [List.forIn_cons, bind_assoc]
  have e : (hashByValue 7 (.str x t) : Sem Bool) = pure false := by unfold hashByValue; rfl
  rw [e]
  refine wpAny_bind (wpAny_pure ?_)
  simp only [Bool.not_false, if_true, pure_bind]
  exact wpAny_pure h
theorem add_new {o : Obj} {ep : Nat} {led : Bool} (ho : s.heap.get? a = some o) (hex : o.ExactSet) (hd : o.data = .set #[] ep (.fresh 0 0 led)) {x : Addr} {h : Int} {ox : Obj} {z : Str} {tz n : Nat} {r : List Value} {Q : Bool → Shared → Prop}
    (hx : s.heap.get? x = some ox) (hc : ox.cls = .type "tuple") (hdx : ox.data = .seq (Value.str z tz :: r).toArray n)
    (q : ∀ h', Heap.SameBut a s.heap h' → (∃ o es ep t, h'.get? a = some o ∧ o.ExactSet ∧ o.data = .set es ep t ∧ t.fits es.size = true ∧ es.size = 1) → Q true { s with heap := h' }) :
    wpAny (model P w) A (setAddHashed a (.ref x) h) Q E s := by
  unfold setAddHashed
  refine wpAny_holding ?_
  rw [show (100000 : Nat) = 99999 + 1 from rfl, setAddHashedIn_succ]
  refine wpAny_bind (wpAny_setState_of ho hd rfl ?_)
  dsimp only
  refine wp_if_neg (by simp [byScan, Value.scannable]) ?_
  try refine wpAny_bind (wpAny_pure ?_)
  refine wpAny_bind (search_new ho hd ?_)
  dsimp only
  refine wpAny_bind (wpAny_setState_of ho hd rfl ?_)
  dsimp only
  obtain ⟨q1, q2, q3, q4, q5, q6, q7, q8, q9⟩ := (tab_fresh led).put (h := h) (K := 0) (fun z => nomatch z) (fun k hk => absurd hk (Nat.not_lt_zero _))
  have hp1 : ((SetTable.fresh 0 0 led).put (way (SetTable.fresh 0 0 led).mask h 0)).1.plain = true := by rw [q6]; rfl
  generalize hpt : (SetTable.fresh 0 0 led).put (way (SetTable.fresh 0 0 led).mask h 0) = pt at q1 q3 q4 q5 q6 q7 q8 q9 hp1 ⊢
  obtain ⟨t1, p⟩ := pt
  dsimp only at q1 q3 q4 q5 q6 q7 q8 q9 hp1 ⊢
  have hp0 : p = 0 := by
    rw [q1]
    exact Nat.le_zero.mp q2
  subst hp0
  first
    | (refine wpAny_bind ?_; refine wp_if_pos hp1 ?_; refine hashBy_text hx hc hdx ?_)
    | refine wp_if_pos hp1 (wpAny_bind (hashBy_text hx hc hdx ?_))
  simp only [Bool.false_eq_true, if_false]
  have hsz : t1.place.size = 1 := by
    have e := q3.sz
    rw [e, ← q1]
    rfl
  have hfit : ({ t1 with plain := false } : SetTable).fits 1 = true := by
    unfold SetTable.fits SetTable.fill
    rw [Bool.and_eq_true, beq_iff_eq, decide_eq_true_eq]
    show t1.place.size = 1 ∧ t1.place.size + t1.dummies.size ≤ t1.mask
    rw [hsz, q3.dm, q4]
    exact ⟨rfl, by cases led <;> decide⟩
  have hes : (SetTable.insertAt (#[] : Array (Int × Value)) 0 (h, Value.ref x)).size = 1 := rfl
  refine wpAny_bind (wpAny_storeSet_of ho hd ?_ (by show (1 : Nat) ≤ _; rw [sizeLine_eq]; omega))
  have sb : Heap.SameBut a s.heap (s.heap.update a (Obj.putSet (SetTable.insertAt (#[] : Array (Int × Value)) 0 (h, Value.ref x)) { t1 with plain := false })) := Heap.SameBut.update ..
  have ho1 := store_at (es' := SetTable.insertAt (#[] : Array (Int × Value)) 0 (h, Value.ref x)) (t' := { t1 with plain := false }) ho hd
  have hf : ({ t1 with plain := false } : SetTable).tooFull = false := by
    unfold SetTable.tooFull
    rw [decide_eq_false_iff_not]
    show ¬ (t1.fill * 5 ≥ t1.mask * 3)
    rw [q9, q4]
    cases led <;> decide
  first
    | refine wp_if_neg (by simp [hf]) ?_
    | (refine wpAny_bind ?_; refine wp_if_neg (by simp [hf]) ?_; refine wpAny_pure ?_)
  exact wpAny_pure (q _ sb ⟨_, _, _, _, ho1, ⟨hex.1, hex.2.1, hex.2.2⟩, rfl, hfit, hes⟩)
end
end M

/-! text: B9a -/
set_option Elab.async false
set_option linter.all false
set_option maxRecDepth 100000
set_option maxHeartbeats 8000000
namespace M
open PySem PySem.Spec PyProof.Rows L2
theorem sz_fresh {h : Heap} (w : World) : ∃ o es ep t, (h.push { cls := .type "set", dict := none, data := .set #[] 0 (.fresh 0 0 (!w.params.followText "set-order")) }).get? h.objs.size = some o ∧ o.ExactSet ∧ o.data = .set es ep t ∧ t.fits es.size = true ∧ es.size = 0 ∧
    ((0 : Nat) = 0 → es = #[] ∧ t = .fresh 0 0 (!w.params.followText "set-order")) :=
  ⟨_, #[], 0, _, Heap.get?_push_size _ rfl, ⟨rfl, rfl, rfl⟩, rfl, rfl, rfl, fun _ => ⟨rfl, rfl⟩⟩
theorem nested_texts {h : Heap} : ∀ {ns : List Str} {us : List Value}, Vals (ns.map V.str) us → NestedAll h (ns.map NestedKey.text) us
  | [], _, r => by cases r; exact .nil
  | n :: ns, _, r => by
    cases r with
    | cons r1 r2 =>
      obtain ⟨t, rfl⟩ := (show ∃ t, _ = Value.str n t from r1)
      exact .cons (.text n t) (nested_texts r2)
theorem depth_texts : ∀ ns : List Str, NestedKey.depthAll (ns.map NestedKey.text) ≤ 2
  | [] => by decide
  | n :: ns => by
    have := depth_texts ns
    simp only [List.map_cons, NestedKey.depthAll, NestedKey.depth]
    omega
section
variable {X : Cx}
theorem addN_ok {pins : List (Addr × Obj)} {σ : L2.St} {H : Hp} {s : Shared} {E : Value → Shared → Prop} {D ax bx : Addr} {nm : Str} {ns : List Str} {Q : Value → Shared → Prop} (hu : X.A.units + 64 < cLine) (I : Inv X pins σ H s)
    (hx : H ax = some (.tup [.str nm, .ref bx])) (hb : SqT X.K H bx (ns.map V.str)) (hD : H D = some (SzO X.w D 0)) (q : ∀ s', Inv X pins σ (upd H D (SzO X.w D 1)) s' → Q .none s') :
    wpAny (model X.prog X.w) X.A (call (.builtin "set.add") [.ref D, .ref ax]) Q E s := by
  obtain ⟨o, es, ep, t, ho, hex, hd, hf, hn, h0⟩ := (I.hok D _ hD).1
  obtain ⟨rfl, rfl⟩ := h0 rfl
  have hT : s.TypeIs (.ref D) "set" := ⟨o, ho, hex.1⟩
  obtain ⟨its, rv, px, _⟩ := I.tuple (show SqT X.K H ax [.str nm, .ref bx] from .inl (.inl hx))
  obtain ⟨its2, rv2, pb, _⟩ := I.tuple hb
  cases rv with
  | cons r1 rr =>
    cases rr with
    | cons r2 rr =>
      cases rr
      obtain ⟨tz, rfl⟩ := (show ∃ t, _ = Value.str nm t from r1)
      cases r2
      obtain ⟨oa, ha, hca, na, hda⟩ := px
      obtain ⟨ob, hob, hcb, nb, hdb⟩ := pb
      have nk : NestedIs s.heap (.tup [.text nm, .tup (ns.map NestedKey.text)]) (.ref ax) := .tup ha hca hda (.cons (.text nm tz) (.cons (.tup hob hcb hdb (by simpa using nested_texts rv2)) .nil))
      refine wpAny_call_entry F.slot_set_add hT F.entry_set_add ?_ (F.args_set_add_2 _ _)
      unfold Builtin.«set.add» Builtin.Frozenset.oneOther
      simp only [List.isEmpty_nil, bind_assoc]
      unfold Builtin.Frozenset.addrOf setAdd
      refine wpAny_bind (wpAny_pure ?_)
      try dsimp only
      refine wpAny_bind (wpAny_pure ?_)
      try dsimp only
      refine wpAny_bind (wpAny_holding (wpAny_bind ?_))
      refine pyHash_key _ _ _ _ _ nk ?_ ?_
      · have := depth_texts ns
        have e : (NestedKey.tup [.text nm, .tup (ns.map NestedKey.text)]).depth ≤ 8 := by
          simp only [NestedKey.depth, NestedKey.depthAll]
          omega
        show X.A.in1.units + _ < cLine
        have : X.A.in1.units ≤ X.A.units + 1 := Nat.le_refl _
        omega
      refine add_new (s := { s with toks := s.toks + _ }) ho hex hd ha hca hda fun h' sb new => ?_
      show wpAny _ _ (ret Value.none) _ _ _
      refine wpAny_pure ⟨_, rfl, q _ ?_⟩
      obtain ⟨o1, es1, ep1, t1, g1, g2, g3, g4, g5⟩ := new
      exact I.write (e := D) (by rw [hD]; trivial) (.inl rfl) (fun b u hb hu => (sb.2 b hb).trans hu) ⟨o1, g1⟩ (szO_new ⟨o1, es1, ep1, t1, g1, g2, g3, g4, g5, fun z => nomatch z⟩)
def tSc (K : PySem.W.Frag) (w : World) (wi : TI) (g : TG) (tt : TT) (te : TE) (vs : List Nat) : TE := fun σ H Q => wi σ H fun J H1 => ∀ D, H1 D = none → ∃ W : Nat → Nat → Hp → Prop, (∃ m, W 0 m (upd H1 D (SzO w D 0))) ∧ ∀ i m H, W i m H →
  (J.stop i H ∧ Q (.ref D) H) ∨ (J.go i H ∧ ∃ Nx : Hp → Prop, (∀ H', Nx H' → ∃ m', m' < m ∧ W (i + 1) m' H') ∧ ∀ x H', J.yld i H x H' → g x (wipe σ vs) H' fun σ2 H2 => wipe σ2 vs = wipe σ vs ∧ tt σ2 H2 fun b H3 =>
    if b = true then te σ2 H3 fun y H4 => ∃ (ax : Addr) (nm : Str) (bx : Addr) (ns : List Str), y = .ref ax ∧ H4 ax = some (.tup [.str nm, .ref bx]) ∧ SqT K H4 bx (ns.map V.str) ∧ H4 D = some (SzO w D 0) ∧ Nx (upd H4 D (SzO w D 1)) else Nx H3)
theorem szc_core {pns : List (Addr × Obj)} {s : Shared} {τ : L2.St} {H : Hp} {Q : VK} {elt tg iter : Expr} {ifs : List Expr} {scp : Scope} {own : List (PySem.Str × Nat)} {pos pos' : Pos} {wi : TI} {g : TG} {tt : TT} {te : TE} {use : Option (Value → Sem Unit)} {Qf : Value → Shared → Prop}
    (hu : X.A.units + 64 < cLine) (hc : X.calm = true) (hN : X.N.Nodup) (I : Inv X pns τ H s) (hi : PI X tg iter wi) (ok : BlkOk X.N X.env.scope scp own)
    (hg : ∀ (s : Shared) (H : Hp) (CC : Addr) (cl : List (PySem.Str × Addr)) (fps : List Addr), PG (X.blk s H scp (compEnvC scp cl CC X.env) fps) tg g) (ht : ∀ (s : Shared) (H : Hp) (CC : Addr) (cl : List (PySem.Str × Addr)) (fps : List Addr), PTs (X.blk s H scp (compEnvC scp cl CC X.env) fps) ifs tt)
    (he : ∀ (s : Shared) (H : Hp) (CC : Addr) (cl : List (PySem.Str × Addr)) (fps : List Addr), PE (X.blk s H scp (compEnvC scp cl CC X.env) fps) elt te) (hs : ∀ xx, foldedSetIterable iter X.env xx = pure xx)
    (h : tSc X.K X.w wi g tt te (own.map (·.2)) τ H Q)
    (hRR : ∀ D CC s'' m1 H'', Inv X pns τ H'' s'' → Q (.ref D) H'' → s''.heap.Ns CC m1 → FpOk X pns H'' CC → compPost (model X.prog X.w) X.A X.xe use Qf (.ref D) CC (.ok .next) s'') :
    wpAny (model X.prog X.w) X.A (comprehension (.SetComp elt [⟨tg, iter, ifs, 0⟩] scp pos) scp X.env pos' (newSet (.type "set")) false (eval iter X.env) use) Qf X.xe s := by
  have hfr : ∀ yz ∈ scp.names, yz.2 = .free → ∃ cc, X.env.cells.lookup yz.1 = some cc := fun yz hyz ee => by
    rcases ok.free yz hyz ee with kk | kk
    · exact I.ok.has _ (.inl kk)
    · exact I.ok.has _ (.inr kk)
  refine wpAny_comprehension_free (use := use) rfl hs (closure_ok hfr) ok.kind (fun yz hyz ee => by rw [ok.uniq yz hyz, ee])
    (thn (hi.run pns s τ H _ I h) fun xu z1 hxv => thn hxv fun iu z2 hh2 => ?_)
  obtain ⟨itr, fps, stt, Jt, G2, ee, J2, T, stt2, ff2, q⟩ := hh2
  subst ee
  refine PpSet.newSet_ok (L2.newEnv_comp ?_)
  generalize eD : z2.heap.objs.size = D
  have nD : G2 D = none := J2.hok.fresh (Nat.le_of_eq eD)
  obtain ⟨W, ⟨mm, ww⟩, trn⟩ := q D nD
  -- the new list
  generalize es3 : ({ z2 with heap := z2.heap.push { cls := .type "set", dict := none, data := .set #[] 0 (.fresh 0 0 (!X.w.params.followText "set-order")) } } : Shared) = z3
  have J3 : Inv X pns τ (upd G2 D (SzO X.w D 0)) z3 := by
    rw [← es3]
    refine J2.laid (t' := z2.toks) (fun bb oo ee => Heap.get?_push_of_some _ ee) (Nat.le_of_eq eD) ?_
    rw [← eD]
    exact szO_new (sz_fresh X.w)
  have eh3 : z3.heap = z2.heap.push { cls := .type "set", dict := none, data := .set #[] 0 (.fresh 0 0 (!X.w.params.followText "set-order")) } := by rw [← es3]
  have szs : ∀ bb ∈ fps, bb < z2.heap.objs.size := fun bb hbb => by
    obtain ⟨oo, ee, _⟩ := T.obj _ _ stt2 bb hbb
    exact Heap.lt_size ee
  have ff3 : ∀ bb ∈ fps, FpOk X pns (upd G2 D (SzO X.w D 0)) bb ∧ bb < z3.heap.objs.size := fun bb hbb => by
    have hltt := szs bb hbb
    refine ⟨⟨?_, (ff2 bb hbb).2⟩, by rw [eh3, Heap.size_push]; exact Nat.lt_succ_of_lt hltt⟩
    rw [upd_ne (by rw [← eD]; exact Nat.ne_of_lt hltt)]
    exact (ff2 bb hbb).1
  have stt3 : stt 0 z3.heap := T.keep _ _ _ stt2 fun bb _ oo ee => by rw [eh3]; exact Heap.get?_push_of_some _ ee
  have J4 := block_start J3 ok hN ff3
  have pgx := hg z3 (upd G2 D (SzO X.w D 0)) z3.heap.objs.size (cellsFrom (z3.heap.objs.size + 1) scp.names (cloFrom X.env.cells scp.names [])) fps
  have ptx := ht z3 (upd G2 D (SzO X.w D 0)) z3.heap.objs.size (cellsFrom (z3.heap.objs.size + 1) scp.names (cloFrom X.env.cells scp.names [])) fps
  have pex := he z3 (upd G2 D (SzO X.w D 0)) z3.heap.objs.size (cellsFrom (z3.heap.objs.size + 1) scp.names (cloFrom X.env.cells scp.names [])) fps
  show codeAny _ _ (.compStart (.SetComp elt [⟨tg, iter, ifs, 0⟩] scp pos) 0 (.ref itr) (.ref D) (compEnvC scp (cellsFrom (z3.heap.objs.size + 1) scp.names (cloFrom X.env.cells scp.names [])) z3.heap.objs.size X.env)) (compPost (model X.prog X.w) X.A X.xe use Qf (.ref D) z3.heap.objs.size) { z3 with heap := pushCells (z3.heap.push { cls := .type "dict", data := .dict #[] }) scp.names }
  have nfs : ∀ bb ∈ fps, (upd G2 D (SzO X.w D 0)) bb = none := fun bb hbb => (ff3 bb hbb).1.1
  generalize ece : compEnvC scp (cellsFrom (z3.heap.objs.size + 1) scp.names (cloFrom X.env.cells scp.names [])) z3.heap.objs.size X.env = cen at J4 pgx ptx pex ⊢
  have ecl : cen.locals = z3.heap.objs.size := by subst ece; rfl
  generalize eG3 : upd G2 D (SzO X.w D 0) = G3 at J3 J4 pgx ptx pex ww nfs ff3
  generalize es4 : ({ z3 with heap := pushCells (z3.heap.push { cls := .type "dict", data := .dict #[] }) scp.names } : Shared) = z4 at J4 ⊢
  have stt4 : stt 0 z4.heap := T.keep _ _ _ stt3 fun bb _ oo ee => by rw [← es4]; exact pushCells_keeps _ _ _ _ (Heap.get?_push_of_some _ ee)
  have stf : ∀ {σ' : L2.St} {H'' : Hp} {s'' : Shared}, Inv (X.blk z3 G3 scp cen fps) [] σ' H'' s'' → (∀ bb ∈ fps, H'' bb = none) → ∀ bb ∈ fps, FpOk (X.blk z3 G3 scp cen fps) [] H'' bb := fun {σ' H'' s''} I'' hnn bb hbb =>
    ⟨hnn bb hbb, (I''.ok.exf bb hbb).1, I''.ok.exfs bb hbb, .inl hbb, fun xx cc ee => (I''.ok.exf bb hbb).2 xx cc ee, fun p hp => absurd (show p ∈ ([] : List (Addr × Obj)) ++ [] from hp) (by simp)⟩
  have lop : codeAny (model X.prog X.w) X.A (.compLoop (.SetComp elt [⟨tg, iter, ifs, 0⟩] scp pos) 0 (.ref itr) (.ref D) cen) (compPost (model X.prog X.w) X.A X.xe use Qf (.ref D) z3.heap.objs.size) z4 := by
    refine PpSet.compLoopS_any (fun nn s'' => ∃ ii H'', Inv (X.blk z3 G3 scp cen fps) [] (wipe τ (own.map (·.2))) H'' s'' ∧ stt ii s''.heap ∧ (∀ bb ∈ fps, H'' bb = none) ∧ W ii nn H'') ?_ mm ⟨0, G3, J4, stt4, nfs, ww⟩
    rintro nn z5 ⟨ii, G5, J5, stt5, nn5, ww5⟩
    rcases trn ii nn G5 ww5 with ⟨stp, qs⟩ | ⟨gg, Nz, hNz, stq⟩
    · have tdn := T.done (X.blk z3 G3 scp cen fps) rfl rfl rfl hc ii [] z5 _ G5 (fun _ _ => False) J5 (stf J5 nn5) stt5 stp
      refine thnF tdn fun rr z6 ⟨hrr, J6⟩ => ?_
      subst hrr
      -- back in the def's context
      have J7 : Inv X pns τ G5 z6 := J3.call' (ch := fps) J6.os J6.base J6.hok J6.bare fun bb hbb => ⟨(ff3 bb hbb).1.2.2.2.1, (ff3 bb hbb).1.2.1, (ff3 bb hbb).1.2.2.2.2.1, (ff3 bb hbb).1.2.2.2.2.2⟩
      have nCC : G5 z3.heap.objs.size = none := by
        have zv : G5 cen.locals = none := J6.free
        rw [ecl] at zv
        exact zv
      obtain ⟨m1, hnn, _⟩ := J6.loc
      have hnn : z6.heap.Ns cen.locals m1 := hnn
      rw [ecl] at hnn
      exact hRR D z3.heap.objs.size z6 m1 G5 J7 qs hnn (J3.fpOk (Nat.le_refl _) nCC)
    · have tit := T.item (X.blk z3 G3 scp cen fps) rfl rfl rfl hc ii [] z5 _ G5 (fun _ _ => False) J5 (stf J5 nn5) stt5 gg
      refine thnF tit fun rr z6 ⟨uu, hrr, h6⟩ => ?_
      subst hrr
      refine thnF h6 fun _ z7 ⟨xx, G7, J7, rr7, yy7, stt7, nn7⟩ => ?_
      have I7' := J7.pinned (stf J7 nn7) (T.obj _ _ stt7)
      refine thnF (pgx.run _ z7 _ G7 xx uu _ I7' rr7 (stq xx G7 yy7)) fun _ z8 ⟨σ8, G8, J8, ew8, qq8⟩ => ?_
      refine thnF (ptx.run _ z8 σ8 G8 _ J8 qq8) fun bb z9 ⟨G9, J9, qq9⟩ => ?_
      -- the turn's end
      have fnl : ∀ {s'' : Shared} {H'' : Hp}, Inv (X.blk z3 G3 scp cen fps) ([] ++ pinsAt fps z7.heap) σ8 H'' s'' → Nz H'' → ∃ m1, m1 < nn ∧ ∃ ii H'', Inv (X.blk z3 G3 scp cen fps) [] (wipe τ (own.map (·.2))) H'' s'' ∧ stt ii s''.heap ∧ (∀ bb ∈ fps, H'' bb = none) ∧ W ii m1 H'' := fun {s'' H''} I'' nxx => by
        obtain ⟨m', hm, w'⟩ := hNz H'' nxx
        have pin' : ∀ bb ∈ fps, ∀ oo, z7.heap.get? bb = some oo → s''.heap.get? bb = some oo ∧ H'' bb = none := fun bb hbb oo ee =>
          let zv := I''.pin (bb, oo) (List.mem_append_right _ (List.mem_append_right _ (mem_pinsAt hbb ee)))
          ⟨zv.1, zv.2.1⟩
        have ehl : (wipe τ (own.map (·.2))).length = σ8.length := by rw [← ew8, wipe_length]
        refine ⟨m', hm, ii + 1, H'', (I''.unpinned (pins := [])).weak ehl (fun jj vv ee => ?_), T.keep _ _ _ stt7 fun bb hbb oo ee => (pin' bb hbb oo ee).1, fun bb hbb => ?_, w'⟩
        · rw [← ew8] at ee
          exact (wipe_some ee).1
        · obtain ⟨oo, ee, _⟩ := T.obj _ _ stt7 bb hbb
          exact (pin' bb hbb oo ee).2
      cases bb with
      | false =>
        simp only [Bool.false_eq_true, if_false] at qq9 ⊢
        exact fnl J9 qq9
      | true =>
        simp only [if_true] at qq9 ⊢
        refine thnF (pex.run _ z9 σ8 G9 _ J9 qq9) fun zv z10 ⟨yvv, G10, J10, r10, ax, nm, bx, ns, ey, hx10, hb10, hD10, nxx⟩ => ?_
        subst ey
        cases (show zv = Value.ref ax from r10)
        exact addN_ok (X := X.blk z3 G3 scp cen fps) hu J10 hx10 hb10 hD10 fun z11 J11 => fnl J11 nxx
  exact PpSet.codeAny_compStart_set lop (T.self X.A 0 _ _ _ stt4 lop)
/-- as a value -/
theorem pe_sz {elt tg iter : Expr} {ifs : List Expr} {scp : Scope} {own : List (PySem.Str × Nat)} {pos : Pos} {wi : TI} {g : TG} {tt : TT} {te : TE} (hu : X.A.units + 64 < cLine) (hc : X.calm = true) (hN : X.N.Nodup) (hi : PI X tg iter wi) (ok : BlkOk X.N X.env.scope scp own)
    (hg : ∀ (s : Shared) (H : Hp) (CC : Addr) (cl : List (PySem.Str × Addr)) (fps : List Addr), PG (X.blk s H scp (compEnvC scp cl CC X.env) fps) tg g) (ht : ∀ (s : Shared) (H : Hp) (CC : Addr) (cl : List (PySem.Str × Addr)) (fps : List Addr), PTs (X.blk s H scp (compEnvC scp cl CC X.env) fps) ifs tt)
    (he : ∀ (s : Shared) (H : Hp) (CC : Addr) (cl : List (PySem.Str × Addr)) (fps : List Addr), PE (X.blk s H scp (compEnvC scp cl CC X.env) fps) elt te) (hs : ∀ xx, foldedSetIterable iter X.env xx = pure xx := by intro _; rfl) :
    PE X (.SetComp elt [⟨tg, iter, ifs, 0⟩] scp pos) (tSc X.K X.w wi g tt te (own.map (·.2))) := by
  refine ⟨fun pns s τ H Q I h => ?_⟩
  rw [PpSet.eval_SetComp]
  refine szc_core hu hc hN I hi ok hg ht he hs h fun D CC s'' m1 H'' I'' q hnn f => ⟨m1, hnn, fun h'' sb => ?_⟩
  obtain ⟨g0, g1, ff2, ff3, g4, g5⟩ := f
  exact ⟨.ref D, H'', I''.turned (t' := s''.toks) (fun bb oo hbb ee => (sb.2 bb hbb).trans ee) g0 g1 ff3 g4 g5, rfl, q⟩
def rLenSetN (w : World) : List V → Hp → VK → Prop := fun vs H Q => ∃ (p : Addr) (n : Nat), vs = [.ref p] ∧ H p = some (SzO w p n) ∧ n ≤ 1000 ∧ Q (.int n) H
theorem cr_lenSetN : CallR X (.builtin "len") (rLenSetN X.w) := by
  intro pins s σ H xs us Q I r h
  obtain ⟨p, n, rfl, hp, hz, q⟩ := h
  obtain ⟨u, rfl, ru⟩ := vals1 r
  cases ru
  obtain ⟨o, es, ep, t, ho, hex, hd, hf, hn, _⟩ := (I.hok p _ hp).1
  exact call_len_set ho hex hd hf (by rw [hn]; omega) ⟨.int n, H, I.tok _, ⟨_, by rw [hn]⟩, q⟩
end
end M

/-! text: B9b -/
set_option Elab.async false
set_option linter.all false
set_option maxRecDepth 100000
set_option maxHeartbeats 8000000
namespace M
open PySem PySem.Spec PyProof.Rows L2
section
variable {X : Cx}
theorem dictSetT {pins : List (Addr × Obj)} {σ : L2.St} {H : Hp} {s : Shared} {E : Value → Shared → Prop} {D b : Addr} {kvs : List (List Key × V)} {k : List Key} {v : V} {r : Value} {Q : Unit → Shared → Prop} (hu : X.A.units + 64 < cLine) (I : Inv X pins σ H s) (hD : H D = some (.dT kvs))
    (eb : H b = some (.tup (k.map kV))) (l : kvs.length < sizeLine) (rv : RelV v r) (h : ∀ s', Inv X pins σ (upd H D (.dT (putK kvs k v))) s' → Q () s') : wpAny (model X.prog X.w) X.A (dictSet D (.ref b) r) Q E s := by
  obtain ⟨z, hd, xs, rel, dd⟩ := dt_of I.hok hD
  have hz : xs.length ≤ sizeLine := by rw [← Paired.length rel]; exact z
  have hl : (putK kvs k v).length ≤ sizeLine := by have := length_putK kvs k v; omega
  have hu2 : (tupleKind (mixKind X.prog X.w)).room X.A := by
    show X.A.units < cLine
    omega
  refine wpAny_dictSet_heap (hsz := hz) hu2 (key_of I.hok eb) dd fun h' dd' hs => h _ ?_
  obtain ⟨q, es, ep, hq, h2, h3, h4, _, h5⟩ := dd'
  refine d_write I (by rw [hD]; exact True.intro) hs ⟨q, hq⟩ ⟨hl, hd, _, (rel.put k eb rv).keeps fun c ys ec => ?_, q, es, ep, hq, h2, h3, h4, h5⟩
  rw [upd_ne (ne_of ec hD (fun z => nomatch z))]
  exact ec
/-- a new dict of tuple keys, D -/
def tDcT (wi : TI) (g : TG) (tt : TT) (tk tv : TE) (vs : List Nat) : TE := fun σ H Q => wi σ H fun J H1 => ∀ D, H1 D = none → ∃ W : Nat → Nat → Hp → Prop, (∃ m, W 0 m (upd H1 D (.dT []))) ∧ ∀ i m H, W i m H →
  (J.stop i H ∧ Q (.ref D) H) ∨ (J.go i H ∧ ∃ Nx : Hp → Prop, (∀ H', Nx H' → ∃ m', m' < m ∧ W (i + 1) m' H') ∧ ∀ x H', J.yld i H x H' → g x (wipe σ vs) H' fun σ2 H2 => wipe σ2 vs = wipe σ vs ∧ tt σ2 H2 fun b H3 =>
    if b = true then tk σ2 H3 fun y H4 => tv σ2 H4 fun z H5 => ∃ kvs k q, y = .ref q ∧ H5 q = some (.tup (k.map kV)) ∧ H5 D = some (.dT kvs) ∧ kvs.length < sizeLine ∧ Nx (upd H5 D (.dT (putK kvs k z))) else Nx H3)
theorem dct_core {pins : List (Addr × Obj)} {s : Shared} {σ : L2.St} {H : Hp} {Q : VK} {kx vx tg iter : Expr} {ifs : List Expr} {scp : Scope} {own : List (Str × Nat)} {pos pos' : Pos} {wi : TI} {g : TG} {tt : TT} {tk tv : TE} {use : Option (Value → Sem Unit)} {Qf : Value → Shared → Prop}
    (hu : X.A.units + 64 < cLine) (hc : X.calm = true) (hN : X.N.Nodup) (I : Inv X pins σ H s) (hi : PI X tg iter wi) (ok : BlkOk X.N X.env.scope scp own)
    (hg : ∀ (s : Shared) (H : Hp) (CC : Addr) (cl : List (Str × Addr)) (fps : List Addr), PG (X.blk s H scp (compEnvC scp cl CC X.env) fps) tg g) (ht : ∀ (s : Shared) (H : Hp) (CC : Addr) (cl : List (Str × Addr)) (fps : List Addr), PTs (X.blk s H scp (compEnvC scp cl CC X.env) fps) ifs tt)
    (hk : ∀ (s : Shared) (H : Hp) (CC : Addr) (cl : List (Str × Addr)) (fps : List Addr), PE (X.blk s H scp (compEnvC scp cl CC X.env) fps) kx tk)
    (he : ∀ (s : Shared) (H : Hp) (CC : Addr) (cl : List (Str × Addr)) (fps : List Addr), PE (X.blk s H scp (compEnvC scp cl CC X.env) fps) vx tv) (hs : ∀ xx, foldedSetIterable iter X.env xx = pure xx)
    (h : tDcT wi g tt tk tv (own.map (·.2)) σ H Q)
    (hRR : ∀ D CC s'' m1 H'', Inv X pins σ H'' s'' → Q (.ref D) H'' → s''.heap.Ns CC m1 → FpOk X pins H'' CC → compPost (model X.prog X.w) X.A X.xe use Qf (.ref D) CC (.ok .next) s'') :
    wpAny (model X.prog X.w) X.A (comprehension (.DictComp kx vx [⟨tg, iter, ifs, 0⟩] scp pos) scp X.env pos' newDict false (eval iter X.env) use) Qf X.xe s := by
  have hfr : ∀ yz ∈ scp.names, yz.2 = .free → ∃ cc, X.env.cells.lookup yz.1 = some cc := fun yz hyz ee => by
    rcases ok.free yz hyz ee with kk | kk
    · exact I.ok.has _ (.inl kk)
    · exact I.ok.has _ (.inr kk)
  refine wpAny_comprehension_free (use := use) rfl hs (closure_ok hfr) ok.kind (fun yz hyz ee => by rw [ok.uniq yz hyz, ee])
    (thn (hi.run pins s σ H _ I h) fun xu z1 hxv => thn hxv fun iu z2 hh2 => ?_)
  obtain ⟨itr, fps, stt, Jt, G2, ee, J2, T, stt2, ff2, q⟩ := hh2
  subst ee
  refine wpAny_newObj_type (L2.newEnv_comp ?_)
  generalize eD : z2.heap.objs.size = D
  have nD : G2 D = none := J2.hok.fresh (Nat.le_of_eq eD)
  obtain ⟨W, ⟨mm, ww⟩, trn⟩ := q D nD
  -- the new list
  generalize es3 : ({ z2 with heap := z2.heap.push { cls := .type "dict", data := .dict #[] } } : Shared) = z3
  have J3 : Inv X pins σ (upd G2 D (.dT [])) z3 := by
    rw [← es3]
    refine J2.laid (t' := z2.toks) (fun bb oo ee => Heap.get?_push_of_some _ ee) (Nat.le_of_eq eD) ?_
    rw [← eD]
    exact dt_empty z2.heap J2.big
  have eh3 : z3.heap = z2.heap.push { cls := .type "dict", data := .dict #[] } := by rw [← es3]
  have szs : ∀ bb ∈ fps, bb < z2.heap.objs.size := fun bb hbb => by
    obtain ⟨oo, ee, _⟩ := T.obj _ _ stt2 bb hbb
    exact Heap.lt_size ee
  have ff3 : ∀ bb ∈ fps, FpOk X pins (upd G2 D (.dT [])) bb ∧ bb < z3.heap.objs.size := fun bb hbb => by
    have hltt := szs bb hbb
    refine ⟨⟨?_, (ff2 bb hbb).2⟩, by rw [eh3, Heap.size_push]; exact Nat.lt_succ_of_lt hltt⟩
    rw [upd_ne (by rw [← eD]; exact Nat.ne_of_lt hltt)]
    exact (ff2 bb hbb).1
  have stt3 : stt 0 z3.heap := T.keep _ _ _ stt2 fun bb _ oo ee => by rw [eh3]; exact Heap.get?_push_of_some _ ee
  have J4 := block_start J3 ok hN ff3
  have pgx := hg z3 (upd G2 D (.dT [])) z3.heap.objs.size (cellsFrom (z3.heap.objs.size + 1) scp.names (cloFrom X.env.cells scp.names [])) fps
  have ptx := ht z3 (upd G2 D (.dT [])) z3.heap.objs.size (cellsFrom (z3.heap.objs.size + 1) scp.names (cloFrom X.env.cells scp.names [])) fps
  have pkx := hk z3 (upd G2 D (.dT [])) z3.heap.objs.size (cellsFrom (z3.heap.objs.size + 1) scp.names (cloFrom X.env.cells scp.names [])) fps
  have pex := he z3 (upd G2 D (.dT [])) z3.heap.objs.size (cellsFrom (z3.heap.objs.size + 1) scp.names (cloFrom X.env.cells scp.names [])) fps
  show codeAny _ _ (.compStart (.DictComp kx vx [⟨tg, iter, ifs, 0⟩] scp pos) 0 (.ref itr) (.ref D) (compEnvC scp (cellsFrom (z3.heap.objs.size + 1) scp.names (cloFrom X.env.cells scp.names [])) z3.heap.objs.size X.env)) (compPost (model X.prog X.w) X.A X.xe use Qf (.ref D) z3.heap.objs.size) { z3 with heap := pushCells (z3.heap.push { cls := .type "dict", data := .dict #[] }) scp.names }
  have nfs : ∀ bb ∈ fps, (upd G2 D (.dT [])) bb = none := fun bb hbb => (ff3 bb hbb).1.1
  generalize ece : compEnvC scp (cellsFrom (z3.heap.objs.size + 1) scp.names (cloFrom X.env.cells scp.names [])) z3.heap.objs.size X.env = cen at J4 pgx ptx pkx pex ⊢
  have ecl : cen.locals = z3.heap.objs.size := by subst ece; rfl
  generalize eG3 : upd G2 D (.dT []) = G3 at J3 J4 pgx ptx pkx pex ww nfs ff3
  generalize es4 : ({ z3 with heap := pushCells (z3.heap.push { cls := .type "dict", data := .dict #[] }) scp.names } : Shared) = z4 at J4 ⊢
  have stt4 : stt 0 z4.heap := T.keep _ _ _ stt3 fun bb _ oo ee => by rw [← es4]; exact pushCells_keeps _ _ _ _ (Heap.get?_push_of_some _ ee)
  have stf : ∀ {σ' : L2.St} {H'' : Hp} {s'' : Shared}, Inv (X.blk z3 G3 scp cen fps) [] σ' H'' s'' → (∀ bb ∈ fps, H'' bb = none) → ∀ bb ∈ fps, FpOk (X.blk z3 G3 scp cen fps) [] H'' bb := fun {σ' H'' s''} I'' hnn bb hbb =>
    ⟨hnn bb hbb, (I''.ok.exf bb hbb).1, I''.ok.exfs bb hbb, .inl hbb, fun xx cc ee => (I''.ok.exf bb hbb).2 xx cc ee, fun p hp => absurd (show p ∈ ([] : List (Addr × Obj)) ++ [] from hp) (by simp)⟩
  have lop : codeAny (model X.prog X.w) X.A (.compLoop (.DictComp kx vx [⟨tg, iter, ifs, 0⟩] scp pos) 0 (.ref itr) (.ref D) cen) (compPost (model X.prog X.w) X.A X.xe use Qf (.ref D) z3.heap.objs.size) z4 := by
    refine compLoop_anyD (fun nn s'' => ∃ ii H'', Inv (X.blk z3 G3 scp cen fps) [] (wipe σ (own.map (·.2))) H'' s'' ∧ stt ii s''.heap ∧ (∀ bb ∈ fps, H'' bb = none) ∧ W ii nn H'') ?_ mm ⟨0, G3, J4, stt4, nfs, ww⟩
    rintro nn z5 ⟨ii, G5, J5, stt5, nn5, ww5⟩
    rcases trn ii nn G5 ww5 with ⟨stp, qs⟩ | ⟨gg, Nz, hNz, stq⟩
    · have tdn := T.done (X.blk z3 G3 scp cen fps) rfl rfl rfl hc ii [] z5 _ G5 (fun _ _ => False) J5 (stf J5 nn5) stt5 stp
      refine thnF tdn fun rr z6 ⟨hrr, J6⟩ => ?_
      subst hrr
      -- back in the def's context
      have J7 : Inv X pins σ G5 z6 := J3.call' (ch := fps) J6.os J6.base J6.hok J6.bare fun bb hbb => ⟨(ff3 bb hbb).1.2.2.2.1, (ff3 bb hbb).1.2.1, (ff3 bb hbb).1.2.2.2.2.1, (ff3 bb hbb).1.2.2.2.2.2⟩
      have nCC : G5 z3.heap.objs.size = none := by
        have zv : G5 cen.locals = none := J6.free
        rw [ecl] at zv
        exact zv
      obtain ⟨m1, hnn, _⟩ := J6.loc
      have hnn : z6.heap.Ns cen.locals m1 := hnn
      rw [ecl] at hnn
      exact hRR D z3.heap.objs.size z6 m1 G5 J7 qs hnn (J3.fpOk (Nat.le_refl _) nCC)
    · have tit := T.item (X.blk z3 G3 scp cen fps) rfl rfl rfl hc ii [] z5 _ G5 (fun _ _ => False) J5 (stf J5 nn5) stt5 gg
      refine thnF tit fun rr z6 ⟨uu, hrr, h6⟩ => ?_
      subst hrr
      refine thnF h6 fun _ z7 ⟨xx, G7, J7, rr7, yy7, stt7, nn7⟩ => ?_
      have I7' := J7.pinned (stf J7 nn7) (T.obj _ _ stt7)
      refine thnF (pgx.run _ z7 _ G7 xx uu _ I7' rr7 (stq xx G7 yy7)) fun _ z8 ⟨σ8, G8, J8, ew8, qq8⟩ => ?_
      refine thnF (ptx.run _ z8 σ8 G8 _ J8 qq8) fun bb z9 ⟨G9, J9, qq9⟩ => ?_
      -- the turn's end
      have fnl : ∀ {s'' : Shared} {H'' : Hp}, Inv (X.blk z3 G3 scp cen fps) ([] ++ pinsAt fps z7.heap) σ8 H'' s'' → Nz H'' → ∃ m1, m1 < nn ∧ ∃ ii H'', Inv (X.blk z3 G3 scp cen fps) [] (wipe σ (own.map (·.2))) H'' s'' ∧ stt ii s''.heap ∧ (∀ bb ∈ fps, H'' bb = none) ∧ W ii m1 H'' := fun {s'' H''} I'' nxx => by
        obtain ⟨m', hm, w'⟩ := hNz H'' nxx
        have pin' : ∀ bb ∈ fps, ∀ oo, z7.heap.get? bb = some oo → s''.heap.get? bb = some oo ∧ H'' bb = none := fun bb hbb oo ee =>
          let zv := I''.pin (bb, oo) (List.mem_append_right _ (List.mem_append_right _ (mem_pinsAt hbb ee)))
          ⟨zv.1, zv.2.1⟩
        have ehl : (wipe σ (own.map (·.2))).length = σ8.length := by rw [← ew8, wipe_length]
        refine ⟨m', hm, ii + 1, H'', (I''.unpinned (pins := [])).weak ehl (fun jj vv ee => ?_), T.keep _ _ _ stt7 fun bb hbb oo ee => (pin' bb hbb oo ee).1, fun bb hbb => ?_, w'⟩
        · rw [← ew8] at ee
          exact (wipe_some ee).1
        · obtain ⟨oo, ee, _⟩ := T.obj _ _ stt7 bb hbb
          exact (pin' bb hbb oo ee).2
      cases bb with
      | false =>
        simp only [Bool.false_eq_true, if_false] at qq9 ⊢
        exact fnl J9 qq9
      | true =>
        simp only [if_true] at qq9 ⊢
        refine thnF (pkx.run _ z9 σ8 G9 _ J9 qq9) fun zv z10 ⟨yk, G10, J10, r10, q10⟩ => ?_
        refine thnF (pex.run _ z10 σ8 G10 _ J10 q10) fun zv2 z11 ⟨yvv, G11, J11, r11, kvs, kk, bk, ek, hbk, hD11, hz11, nxx⟩ => ?_
        subst ek
        cases r10
        exact dictSetT (X := X.blk z3 G3 scp cen fps) hu J11 hD11 hbk hz11 r11 fun z12 J12 => fnl J12 nxx
  exact codeAny_compStart_dict lop (T.self X.A 0 _ _ _ stt4 lop)
/-- as a value -/
theorem pe_dcT {kx vx tg iter : Expr} {ifs : List Expr} {scp : Scope} {own : List (Str × Nat)} {pos : Pos} {wi : TI} {g : TG} {tt : TT} {tk tv : TE} (hu : X.A.units + 64 < cLine) (hc : X.calm = true) (hN : X.N.Nodup) (hi : PI X tg iter wi) (ok : BlkOk X.N X.env.scope scp own)
    (hg : ∀ (s : Shared) (H : Hp) (CC : Addr) (cl : List (Str × Addr)) (fps : List Addr), PG (X.blk s H scp (compEnvC scp cl CC X.env) fps) tg g) (ht : ∀ (s : Shared) (H : Hp) (CC : Addr) (cl : List (Str × Addr)) (fps : List Addr), PTs (X.blk s H scp (compEnvC scp cl CC X.env) fps) ifs tt)
    (hk : ∀ (s : Shared) (H : Hp) (CC : Addr) (cl : List (Str × Addr)) (fps : List Addr), PE (X.blk s H scp (compEnvC scp cl CC X.env) fps) kx tk)
    (he : ∀ (s : Shared) (H : Hp) (CC : Addr) (cl : List (Str × Addr)) (fps : List Addr), PE (X.blk s H scp (compEnvC scp cl CC X.env) fps) vx tv) (hs : ∀ xx, foldedSetIterable iter X.env xx = pure xx := by intro _; rfl) :
    PE X (.DictComp kx vx [⟨tg, iter, ifs, 0⟩] scp pos) (tDcT wi g tt tk tv (own.map (·.2))) := by
  constructor
  intro pins s σ H Q I h
  rw [arm_eval_DictComp]
  refine dct_core hu hc hN I hi ok hg ht hk he hs h fun D CC s'' m1 H'' I'' q hnn f => ⟨m1, hnn, fun h'' sb => ?_⟩
  obtain ⟨g0, g1, ff2, ff3, g4, g5⟩ := f
  exact ⟨.ref D, H'', I''.turned (t' := s''.toks) (fun bb oo hbb ee => (sb.2 bb hbb).trans ee) g0 g1 ff3 g4 g5, rfl, q⟩
end
end M

/-! text: B9c -/
set_option Elab.async false
set_option linter.all false
set_option maxRecDepth 100000
set_option maxHeartbeats 8000000
namespace M
open PySem PySem.Spec PyProof.Rows L2
section
variable {X : Cx}
/-- xs[lo:hi] of a list or a tuple: some list or tuple that holds the cut -/
def rSlB (K : PySem.W.Frag) : V → Option Int → Option Int → Hp → VK → Prop := fun x lo hi H Q => ∃ a b xs, x = .ref a ∧ Sq K b H a xs ∧ ∀ p b' H', Same H H' → Sq K b' H' p (cutV xs lo hi) → Q (.ref p) H'
theorem cut_whole {xs : List V} {lo hi : Option Int} (h : HT.sIx xs.length 0 lo = 0 ∧ HT.sIx xs.length xs.length hi = xs.length) : cutV xs lo hi = xs := by
  unfold cutV
  rw [h.1, h.2]
  simp
theorem sl_both : SlR X (rSlB X.K) := by
  intro pins s σ H x v vl vu lo hi sl Q I rx hs pl pu h
  obtain ⟨a, b, xs, rfl, hq, q⟩ := h
  cases b with
  | true => exact sl_list pins s σ H _ v vl vu lo hi sl Q I rx hs pl pu ⟨a, xs, rfl, hq, fun p hp => q p true _ (Same.new hp) (.inl (.inl upd_same))⟩
  | false =>
    refine sl_tupA pins s σ H _ v vl vu lo hi sl Q I rx hs pl pu ⟨a, xs, rfl, hq, fun hw => q a false H (Same.refl H) ?_, fun hw p hp => q p false _ (Same.new hp) (.inl (.inl upd_same))⟩
    rw [cut_whole hw]
    exact hq
end
end M

/-! text: facts -/
set_option Elab.async false
set_option linter.all false
set_option maxRecDepth 100000
set_option maxHeartbeats 0
namespace M
open PySem PySem.Spec PyProof.Rows L2
/-! the text by places -/
def top (i : Nat) : Stmt := PySem.Challenge.pw_alwaystree_k63_token_changes.main.body.getD i (.Pass ⟨0, 0, 0, 0⟩)
abbrev s_wall : Stmt := top 0
abbrev s_is_integer : Stmt := top 4
abbrev s_is_below : Stmt := top 5
abbrev s_is_sequence : Stmt := top 6
abbrev s_is_name : Stmt := top 7
abbrev s_are_names : Stmt := top 8
abbrev s_stretch_cost : Stmt := top 10
abbrev s_Prices_init : Stmt := inClass (top 11) 0
abbrev s_Prices_price : Stmt := inClass (top 11) 1
abbrev s_added : Stmt := top 18
abbrev s_lowest : Stmt := top 19
abbrev s_Tabling_init : Stmt := inClass (top 20) 0
abbrev s_Tabling_lay : Stmt := inClass (top 20) 1
abbrev s_Tabling_inner_sums : Stmt := inClass (top 20) 2
abbrev s_Tabling_sum_by : Stmt := inClass (top 20) 3
abbrev s_Tabling_add_up : Stmt := inClass (top 20) 4
abbrev s_Tabling_by_rule : Stmt := inClass (top 20) 5
abbrev s_Tabling_lowers : Stmt := inClass (top 20) 6
abbrev s_Tabling_entries : Stmt := inClass (top 20) 7
abbrev s_is_row : Stmt := top 22
abbrev s_row_asked : Stmt := top 23
abbrev s_least_changes : Stmt := top 25
abbrev s_token_changes : Stmt := top 26
abbrev s_Beginnings_init : Stmt := inClass (top 28) 0
abbrev s_empty_groups : Stmt := top 29
abbrev s_first_table : Stmt := top 30
abbrev s_first_of : Stmt := top 31
abbrev s_marked_ones : Stmt := top 32
abbrev s_behind_dots : Stmt := top 33
abbrev s_joined_ones : Stmt := top 34
abbrev s_with_trees : Stmt := top 36
abbrev s_can_stand : Stmt := top 37
abbrev s_reached : Stmt := top 38
abbrev s_useless_rules : Stmt := top 39
abbrev s_Grammar_init : Stmt := inClass (top 41) 0
abbrev s_Grammar_eq : Stmt := inClass (top 41) 1
abbrev s_are_rules : Stmt := top 42
abbrev s_is_rule_pair : Stmt := top 43
abbrev s_groups_in : Stmt := top 44
abbrev s_rules_with : Stmt := top 45
abbrev s_law_box : Stmt := top 47
abbrev s_law_draw : Stmt := top 48
abbrev s_law_shuffled : Stmt := top 49
abbrev s_law_int : Stmt := top 50
abbrev s_law_same : Stmt := top 51
abbrev s_law_names : Stmt := top 52
abbrev s_law_costs : Stmt := top 53
abbrev s_law_by_places : Stmt := top 54
abbrev s_law : Stmt := top 55
/-! the head: facts by names -/
def d_wall : He.DefD := ⟨("_wall", none), "_wall", "_wall", defArgs s_wall, defBody s_wall, defScope s_wall, [], []⟩
def d_is_integer : He.DefD := ⟨("is_integer", none), "is_integer", "is_integer", defArgs s_is_integer, defBody s_is_integer, defScope s_is_integer, [], []⟩
def d_is_below : He.DefD := ⟨("is_below", none), "is_below", "is_below", defArgs s_is_below, defBody s_is_below, defScope s_is_below, [], []⟩
def d_is_sequence : He.DefD := ⟨("is_sequence", none), "is_sequence", "is_sequence", defArgs s_is_sequence, defBody s_is_sequence, defScope s_is_sequence, [], []⟩
def d_is_name : He.DefD := ⟨("is_name", none), "is_name", "is_name", defArgs s_is_name, defBody s_is_name, defScope s_is_name, [], []⟩
def d_are_names : He.DefD := ⟨("are_names", none), "are_names", "are_names", defArgs s_are_names, defBody s_are_names, defScope s_are_names, [], []⟩
def d_stretch_cost : He.DefD := ⟨("stretch_cost", none), "stretch_cost", "stretch_cost", defArgs s_stretch_cost, defBody s_stretch_cost, defScope s_stretch_cost, [], []⟩
def d_Prices_init : He.DefD := ⟨("Prices", some "__init__"), "__init__", "Prices.__init__", defArgs s_Prices_init, defBody s_Prices_init, defScope s_Prices_init, [], []⟩
def d_Prices_price : He.DefD := ⟨("Prices", some "price"), "price", "Prices.price", defArgs s_Prices_price, defBody s_Prices_price, defScope s_Prices_price, [], []⟩
def d_added : He.DefD := ⟨("added", none), "added", "added", defArgs s_added, defBody s_added, defScope s_added, [], []⟩
def d_lowest : He.DefD := ⟨("lowest", none), "lowest", "lowest", defArgs s_lowest, defBody s_lowest, defScope s_lowest, [], []⟩
def d_Tabling_init : He.DefD := ⟨("Tabling", some "__init__"), "__init__", "Tabling.__init__", defArgs s_Tabling_init, defBody s_Tabling_init, defScope s_Tabling_init, [], []⟩
def d_Tabling_lay : He.DefD := ⟨("Tabling", some "lay"), "lay", "Tabling.lay", defArgs s_Tabling_lay, defBody s_Tabling_lay, defScope s_Tabling_lay, [], []⟩
def d_Tabling_inner_sums : He.DefD := ⟨("Tabling", some "inner_sums"), "inner_sums", "Tabling.inner_sums", defArgs s_Tabling_inner_sums, defBody s_Tabling_inner_sums, defScope s_Tabling_inner_sums, [], []⟩
def d_Tabling_sum_by : He.DefD := ⟨("Tabling", some "sum_by"), "sum_by", "Tabling.sum_by", defArgs s_Tabling_sum_by, defBody s_Tabling_sum_by, defScope s_Tabling_sum_by, [], []⟩
def d_Tabling_add_up : He.DefD := ⟨("Tabling", some "add_up"), "add_up", "Tabling.add_up", defArgs s_Tabling_add_up, defBody s_Tabling_add_up, defScope s_Tabling_add_up, [], []⟩
def d_Tabling_by_rule : He.DefD := ⟨("Tabling", some "by_rule"), "by_rule", "Tabling.by_rule", defArgs s_Tabling_by_rule, defBody s_Tabling_by_rule, defScope s_Tabling_by_rule, [], []⟩
def d_Tabling_lowers : He.DefD := ⟨("Tabling", some "lowers"), "lowers", "Tabling.lowers", defArgs s_Tabling_lowers, defBody s_Tabling_lowers, defScope s_Tabling_lowers, [], []⟩
def d_Tabling_entries : He.DefD := ⟨("Tabling", some "entries"), "entries", "Tabling.entries", defArgs s_Tabling_entries, defBody s_Tabling_entries, defScope s_Tabling_entries, [], []⟩
def d_is_row : He.DefD := ⟨("is_row", none), "is_row", "is_row", defArgs s_is_row, defBody s_is_row, defScope s_is_row, [], []⟩
def d_row_asked : He.DefD := ⟨("row_asked", none), "row_asked", "row_asked", defArgs s_row_asked, defBody s_row_asked, defScope s_row_asked, [], []⟩
def d_least_changes : He.DefD := ⟨("least_changes", none), "least_changes", "least_changes", defArgs s_least_changes, defBody s_least_changes, defScope s_least_changes, [], []⟩
def d_token_changes : He.DefD := ⟨("token_changes", none), "token_changes", "token_changes", defArgs s_token_changes, defBody s_token_changes, defScope s_token_changes, [], []⟩
def d_Beginnings_init : He.DefD := ⟨("Beginnings", some "__init__"), "__init__", "Beginnings.__init__", defArgs s_Beginnings_init, defBody s_Beginnings_init, defScope s_Beginnings_init, [], []⟩
def d_empty_groups : He.DefD := ⟨("empty_groups", none), "empty_groups", "empty_groups", defArgs s_empty_groups, defBody s_empty_groups, defScope s_empty_groups, [], []⟩
def d_first_table : He.DefD := ⟨("first_table", none), "first_table", "first_table", defArgs s_first_table, defBody s_first_table, defScope s_first_table, [], []⟩
def d_first_of : He.DefD := ⟨("first_of", none), "first_of", "first_of", defArgs s_first_of, defBody s_first_of, defScope s_first_of, [], []⟩
def d_marked_ones : He.DefD := ⟨("marked_ones", none), "marked_ones", "marked_ones", defArgs s_marked_ones, defBody s_marked_ones, defScope s_marked_ones, [], []⟩
def d_behind_dots : He.DefD := ⟨("behind_dots", none), "behind_dots", "behind_dots", defArgs s_behind_dots, defBody s_behind_dots, defScope s_behind_dots, [], []⟩
def d_joined_ones : He.DefD := ⟨("joined_ones", none), "joined_ones", "joined_ones", defArgs s_joined_ones, defBody s_joined_ones, defScope s_joined_ones, [], []⟩
def d_with_trees : He.DefD := ⟨("with_trees", none), "with_trees", "with_trees", defArgs s_with_trees, defBody s_with_trees, defScope s_with_trees, [], []⟩
def d_can_stand : He.DefD := ⟨("can_stand", none), "can_stand", "can_stand", defArgs s_can_stand, defBody s_can_stand, defScope s_can_stand, [], []⟩
def d_reached : He.DefD := ⟨("reached", none), "reached", "reached", defArgs s_reached, defBody s_reached, defScope s_reached, [], []⟩
def d_useless_rules : He.DefD := ⟨("useless_rules", none), "useless_rules", "useless_rules", defArgs s_useless_rules, defBody s_useless_rules, defScope s_useless_rules, [], []⟩
def d_Grammar_init : He.DefD := ⟨("Grammar", some "__init__"), "__init__", "Grammar.__init__", defArgs s_Grammar_init, defBody s_Grammar_init, defScope s_Grammar_init, [], []⟩
def d_Grammar_eq : He.DefD := ⟨("Grammar", some "__eq__"), "__eq__", "Grammar.__eq__", defArgs s_Grammar_eq, defBody s_Grammar_eq, defScope s_Grammar_eq, [], []⟩
def d_are_rules : He.DefD := ⟨("are_rules", none), "are_rules", "are_rules", defArgs s_are_rules, defBody s_are_rules, defScope s_are_rules, [], []⟩
def d_is_rule_pair : He.DefD := ⟨("is_rule_pair", none), "is_rule_pair", "is_rule_pair", defArgs s_is_rule_pair, defBody s_is_rule_pair, defScope s_is_rule_pair, [], []⟩
def d_groups_in : He.DefD := ⟨("groups_in", none), "groups_in", "groups_in", defArgs s_groups_in, defBody s_groups_in, defScope s_groups_in, [], []⟩
def d_rules_with : He.DefD := ⟨("rules_with", none), "rules_with", "rules_with", defArgs s_rules_with, defBody s_rules_with, defScope s_rules_with, [], []⟩
def d_law_box : He.DefD := ⟨("_law_box", none), "_law_box", "_law_box", defArgs s_law_box, defBody s_law_box, defScope s_law_box, [], []⟩
def d_law_draw : He.DefD := ⟨("_law_draw", none), "_law_draw", "_law_draw", defArgs s_law_draw, defBody s_law_draw, defScope s_law_draw, [], []⟩
def d_law_shuffled : He.DefD := ⟨("_law_shuffled", none), "_law_shuffled", "_law_shuffled", defArgs s_law_shuffled, defBody s_law_shuffled, defScope s_law_shuffled, [], []⟩
def d_law_int : He.DefD := ⟨("_law_int", none), "_law_int", "_law_int", defArgs s_law_int, defBody s_law_int, defScope s_law_int, [], []⟩
def d_law_same : He.DefD := ⟨("_law_same", none), "_law_same", "_law_same", defArgs s_law_same, defBody s_law_same, defScope s_law_same, [], []⟩
def d_law_names : He.DefD := ⟨("_law_names", none), "_law_names", "_law_names", defArgs s_law_names, defBody s_law_names, defScope s_law_names, [], []⟩
def d_law_costs : He.DefD := ⟨("_law_costs", none), "_law_costs", "_law_costs", defArgs s_law_costs, defBody s_law_costs, defScope s_law_costs, [], []⟩
def d_law_by_places : He.DefD := ⟨("_law_by_places", none), "_law_by_places", "_law_by_places", defArgs s_law_by_places, defBody s_law_by_places, defScope s_law_by_places, [], []⟩
def d_law : He.DefD := ⟨("law", none), "law", "law", defArgs s_law, defBody s_law, defScope s_law, [], []⟩
def fnL0 : List He.DefD := [d_wall, d_is_integer, d_is_below, d_is_sequence, d_is_name, d_are_names, d_stretch_cost, d_Prices_init, d_Prices_price, d_added, d_lowest, d_Tabling_init, d_Tabling_lay, d_Tabling_inner_sums, d_Tabling_sum_by, d_Tabling_add_up, d_Tabling_by_rule, d_Tabling_lowers, d_Tabling_entries, d_is_row, d_row_asked, d_least_changes, d_token_changes, d_Beginnings_init, d_empty_groups, d_first_table, d_first_of, d_marked_ones, d_behind_dots, d_joined_ones]
def fnL1 : List He.DefD := [d_with_trees, d_can_stand, d_reached, d_useless_rules, d_Grammar_init, d_Grammar_eq, d_are_rules, d_is_rule_pair, d_groups_in, d_rules_with, d_law_box, d_law_draw, d_law_shuffled, d_law_int, d_law_same, d_law_names, d_law_costs, d_law_by_places, d_law]
def fnL : List He.DefD := fnL0 ++ fnL1
def faL0 : List He.Fa := [.glo "_wall", .str "LETTERS" "abcdefghijklmnopqrstuvwxyz", .int "LONGEST" 12, .glo "is_integer", .glo "is_below", .glo "is_sequence", .glo "is_name", .glo "are_names", .glo "stretch_cost", .glo "Prices", .glo "TreeError", .glo "InvalidKinds", .glo "InvalidRules", .glo "InvalidTokens", .glo "added", .glo "lowest", .glo "Tabling", .glo "is_row", .glo "row_asked", .glo "least_changes", .glo "token_changes", .glo "Beginnings", .glo "empty_groups", .glo "first_table", .glo "first_of", .glo "marked_ones", .glo "behind_dots", .glo "joined_ones", .glo "with_trees", .glo "can_stand"]
def faL1 : List He.Fa := [.glo "reached", .glo "useless_rules", .glo "Grammar", .glo "are_rules", .glo "is_rule_pair", .glo "groups_in", .glo "rules_with", .glo "_law_box", .glo "_law_draw", .glo "_law_shuffled", .glo "_law_int", .glo "_law_same", .glo "_law_names", .glo "_law_costs", .glo "_law_by_places", .glo "law", .free "ValueError", .free "isinstance", .free "all", .free "min", .free "len", .free "tuple", .free "reversed", .free "list", .free "bool", .free "int", .free "str", .free "range", .free "enumerate", .free "zip"]
def faL2 : List He.Fa := [.free "sorted", .free "max", .free "set", .cls "Prices", .mkr "Prices", .noat "Prices" "count", .noat "Prices" "row", .noat "Prices" "numbers", .meth "Prices" "price", .cls "Tabling", .mkr "Tabling", .noat "Tabling" "grammar", .noat "Tabling" "row", .noat "Tabling" "numbers", .noat "Tabling" "prices", .noat "Tabling" "sums", .noat "Tabling" "made", .meth "Tabling" "lay", .meth "Tabling" "inner_sums", .meth "Tabling" "sum_by", .meth "Tabling" "add_up", .meth "Tabling" "by_rule", .meth "Tabling" "lowers", .meth "Tabling" "entries", .cls "Beginnings", .mkr "Beginnings", .noat "Beginnings" "count", .noat "Beginnings" "empty", .noat "Beginnings" "first", .noat "Beginnings" "behind"]
def faL3 : List He.Fa := [.cls "Grammar", .mkr "Grammar", .noat "Grammar" "tokens", .noat "Grammar" "rules", .noat "Grammar" "groups", .noat "Grammar" "codes", .noat "Grammar" "heads", .noat "Grammar" "parts", .noat "Grammar" "rules_of", .noat "Grammar" "beginnings", .noat "Grammar" "state_list"]
def faL : List He.Fa := faL0 ++ faL1 ++ faL2 ++ faL3
def looseL0 : List PySem.Str := ["_wall", "LETTERS", "LONGEST", "is_integer", "is_below", "is_sequence", "is_name", "are_names", "stretch_cost", "Prices", "TreeError", "InvalidKinds", "InvalidRules", "InvalidTokens", "added", "lowest", "Tabling", "is_row", "row_asked", "least_changes", "token_changes", "Beginnings", "empty_groups", "first_table", "first_of", "marked_ones", "behind_dots", "joined_ones", "with_trees", "can_stand"]
def looseL1 : List PySem.Str := ["reached", "useless_rules", "Grammar", "are_rules", "is_rule_pair", "groups_in", "rules_with", "_law_box", "_law_draw", "_law_shuffled", "_law_int", "_law_same", "_law_names", "_law_costs", "_law_by_places"]
def looseL : List PySem.Str := looseL0 ++ looseL1

structure Txt (K : PySem.W.Frag) (mg : Str → Option Value) : Prop where
  c : He.SaysD faL fnL K
  ex : ∃ h, K.In h ∧ h.Ns mainGlobals mg
section
variable {K : PySem.W.Frag} {mg : Str → Option Value}
theorem g__wall (T : Txt K mg) : mg "_wall" = some (.ref (He.ga K "_wall")) := by
  obtain ⟨h, X, G⟩ := T.ex
  exact He.glo_ok X G (T.c.fact 0 (f := .glo "_wall") rfl)
theorem v_LETTERS (T : Txt K mg) : ∃ t, mg "LETTERS" = some (.str "abcdefghijklmnopqrstuvwxyz" t) := by
  obtain ⟨h, X, G⟩ := T.ex
  exact He.str_ok X G (T.c.fact 1 (f := .str "LETTERS" "abcdefghijklmnopqrstuvwxyz") rfl)
theorem v_LONGEST (T : Txt K mg) : ∃ t, mg "LONGEST" = some (.int 12 t) := by
  obtain ⟨h, X, G⟩ := T.ex
  exact He.int_ok X G (T.c.fact 2 (f := .int "LONGEST" 12) rfl)
theorem g_is_integer (T : Txt K mg) : mg "is_integer" = some (.ref (He.ga K "is_integer")) := by
  obtain ⟨h, X, G⟩ := T.ex
  exact He.glo_ok X G (T.c.fact 3 (f := .glo "is_integer") rfl)
theorem g_is_below (T : Txt K mg) : mg "is_below" = some (.ref (He.ga K "is_below")) := by
  obtain ⟨h, X, G⟩ := T.ex
  exact He.glo_ok X G (T.c.fact 4 (f := .glo "is_below") rfl)
theorem g_is_sequence (T : Txt K mg) : mg "is_sequence" = some (.ref (He.ga K "is_sequence")) := by
  obtain ⟨h, X, G⟩ := T.ex
  exact He.glo_ok X G (T.c.fact 5 (f := .glo "is_sequence") rfl)
theorem g_is_name (T : Txt K mg) : mg "is_name" = some (.ref (He.ga K "is_name")) := by
  obtain ⟨h, X, G⟩ := T.ex
  exact He.glo_ok X G (T.c.fact 6 (f := .glo "is_name") rfl)
theorem g_are_names (T : Txt K mg) : mg "are_names" = some (.ref (He.ga K "are_names")) := by
  obtain ⟨h, X, G⟩ := T.ex
  exact He.glo_ok X G (T.c.fact 7 (f := .glo "are_names") rfl)
theorem g_stretch_cost (T : Txt K mg) : mg "stretch_cost" = some (.ref (He.ga K "stretch_cost")) := by
  obtain ⟨h, X, G⟩ := T.ex
  exact He.glo_ok X G (T.c.fact 8 (f := .glo "stretch_cost") rfl)
theorem g_Prices (T : Txt K mg) : mg "Prices" = some (.ref (He.ga K "Prices")) := by
  obtain ⟨h, X, G⟩ := T.ex
  exact He.glo_ok X G (T.c.fact 9 (f := .glo "Prices") rfl)
theorem g_TreeError (T : Txt K mg) : mg "TreeError" = some (.ref (He.ga K "TreeError")) := by
  obtain ⟨h, X, G⟩ := T.ex
  exact He.glo_ok X G (T.c.fact 10 (f := .glo "TreeError") rfl)
theorem g_InvalidKinds (T : Txt K mg) : mg "InvalidKinds" = some (.ref (He.ga K "InvalidKinds")) := by
  obtain ⟨h, X, G⟩ := T.ex
  exact He.glo_ok X G (T.c.fact 11 (f := .glo "InvalidKinds") rfl)
theorem g_InvalidRules (T : Txt K mg) : mg "InvalidRules" = some (.ref (He.ga K "InvalidRules")) := by
  obtain ⟨h, X, G⟩ := T.ex
  exact He.glo_ok X G (T.c.fact 12 (f := .glo "InvalidRules") rfl)
theorem g_InvalidTokens (T : Txt K mg) : mg "InvalidTokens" = some (.ref (He.ga K "InvalidTokens")) := by
  obtain ⟨h, X, G⟩ := T.ex
  exact He.glo_ok X G (T.c.fact 13 (f := .glo "InvalidTokens") rfl)
theorem g_added (T : Txt K mg) : mg "added" = some (.ref (He.ga K "added")) := by
  obtain ⟨h, X, G⟩ := T.ex
  exact He.glo_ok X G (T.c.fact 14 (f := .glo "added") rfl)
theorem g_lowest (T : Txt K mg) : mg "lowest" = some (.ref (He.ga K "lowest")) := by
  obtain ⟨h, X, G⟩ := T.ex
  exact He.glo_ok X G (T.c.fact 15 (f := .glo "lowest") rfl)
theorem g_Tabling (T : Txt K mg) : mg "Tabling" = some (.ref (He.ga K "Tabling")) := by
  obtain ⟨h, X, G⟩ := T.ex
  exact He.glo_ok X G (T.c.fact 16 (f := .glo "Tabling") rfl)
theorem g_is_row (T : Txt K mg) : mg "is_row" = some (.ref (He.ga K "is_row")) := by
  obtain ⟨h, X, G⟩ := T.ex
  exact He.glo_ok X G (T.c.fact 17 (f := .glo "is_row") rfl)
theorem g_row_asked (T : Txt K mg) : mg "row_asked" = some (.ref (He.ga K "row_asked")) := by
  obtain ⟨h, X, G⟩ := T.ex
  exact He.glo_ok X G (T.c.fact 18 (f := .glo "row_asked") rfl)
theorem g_least_changes (T : Txt K mg) : mg "least_changes" = some (.ref (He.ga K "least_changes")) := by
  obtain ⟨h, X, G⟩ := T.ex
  exact He.glo_ok X G (T.c.fact 19 (f := .glo "least_changes") rfl)
theorem g_token_changes (T : Txt K mg) : mg "token_changes" = some (.ref (He.ga K "token_changes")) := by
  obtain ⟨h, X, G⟩ := T.ex
  exact He.glo_ok X G (T.c.fact 20 (f := .glo "token_changes") rfl)
theorem g_Beginnings (T : Txt K mg) : mg "Beginnings" = some (.ref (He.ga K "Beginnings")) := by
  obtain ⟨h, X, G⟩ := T.ex
  exact He.glo_ok X G (T.c.fact 21 (f := .glo "Beginnings") rfl)
theorem g_empty_groups (T : Txt K mg) : mg "empty_groups" = some (.ref (He.ga K "empty_groups")) := by
  obtain ⟨h, X, G⟩ := T.ex
  exact He.glo_ok X G (T.c.fact 22 (f := .glo "empty_groups") rfl)
theorem g_first_table (T : Txt K mg) : mg "first_table" = some (.ref (He.ga K "first_table")) := by
  obtain ⟨h, X, G⟩ := T.ex
  exact He.glo_ok X G (T.c.fact 23 (f := .glo "first_table") rfl)
theorem g_first_of (T : Txt K mg) : mg "first_of" = some (.ref (He.ga K "first_of")) := by
  obtain ⟨h, X, G⟩ := T.ex
  exact He.glo_ok X G (T.c.fact 24 (f := .glo "first_of") rfl)
theorem g_marked_ones (T : Txt K mg) : mg "marked_ones" = some (.ref (He.ga K "marked_ones")) := by
  obtain ⟨h, X, G⟩ := T.ex
  exact He.glo_ok X G (T.c.fact 25 (f := .glo "marked_ones") rfl)
theorem g_behind_dots (T : Txt K mg) : mg "behind_dots" = some (.ref (He.ga K "behind_dots")) := by
  obtain ⟨h, X, G⟩ := T.ex
  exact He.glo_ok X G (T.c.fact 26 (f := .glo "behind_dots") rfl)
theorem g_joined_ones (T : Txt K mg) : mg "joined_ones" = some (.ref (He.ga K "joined_ones")) := by
  obtain ⟨h, X, G⟩ := T.ex
  exact He.glo_ok X G (T.c.fact 27 (f := .glo "joined_ones") rfl)
theorem g_with_trees (T : Txt K mg) : mg "with_trees" = some (.ref (He.ga K "with_trees")) := by
  obtain ⟨h, X, G⟩ := T.ex
  exact He.glo_ok X G (T.c.fact 28 (f := .glo "with_trees") rfl)
theorem g_can_stand (T : Txt K mg) : mg "can_stand" = some (.ref (He.ga K "can_stand")) := by
  obtain ⟨h, X, G⟩ := T.ex
  exact He.glo_ok X G (T.c.fact 29 (f := .glo "can_stand") rfl)
theorem g_reached (T : Txt K mg) : mg "reached" = some (.ref (He.ga K "reached")) := by
  obtain ⟨h, X, G⟩ := T.ex
  exact He.glo_ok X G (T.c.fact 30 (f := .glo "reached") rfl)
theorem g_useless_rules (T : Txt K mg) : mg "useless_rules" = some (.ref (He.ga K "useless_rules")) := by
  obtain ⟨h, X, G⟩ := T.ex
  exact He.glo_ok X G (T.c.fact 31 (f := .glo "useless_rules") rfl)
theorem g_Grammar (T : Txt K mg) : mg "Grammar" = some (.ref (He.ga K "Grammar")) := by
  obtain ⟨h, X, G⟩ := T.ex
  exact He.glo_ok X G (T.c.fact 32 (f := .glo "Grammar") rfl)
theorem g_are_rules (T : Txt K mg) : mg "are_rules" = some (.ref (He.ga K "are_rules")) := by
  obtain ⟨h, X, G⟩ := T.ex
  exact He.glo_ok X G (T.c.fact 33 (f := .glo "are_rules") rfl)
theorem g_is_rule_pair (T : Txt K mg) : mg "is_rule_pair" = some (.ref (He.ga K "is_rule_pair")) := by
  obtain ⟨h, X, G⟩ := T.ex
  exact He.glo_ok X G (T.c.fact 34 (f := .glo "is_rule_pair") rfl)
theorem g_groups_in (T : Txt K mg) : mg "groups_in" = some (.ref (He.ga K "groups_in")) := by
  obtain ⟨h, X, G⟩ := T.ex
  exact He.glo_ok X G (T.c.fact 35 (f := .glo "groups_in") rfl)
theorem g_rules_with (T : Txt K mg) : mg "rules_with" = some (.ref (He.ga K "rules_with")) := by
  obtain ⟨h, X, G⟩ := T.ex
  exact He.glo_ok X G (T.c.fact 36 (f := .glo "rules_with") rfl)
theorem g__law_box (T : Txt K mg) : mg "_law_box" = some (.ref (He.ga K "_law_box")) := by
  obtain ⟨h, X, G⟩ := T.ex
  exact He.glo_ok X G (T.c.fact 37 (f := .glo "_law_box") rfl)
theorem g__law_draw (T : Txt K mg) : mg "_law_draw" = some (.ref (He.ga K "_law_draw")) := by
  obtain ⟨h, X, G⟩ := T.ex
  exact He.glo_ok X G (T.c.fact 38 (f := .glo "_law_draw") rfl)
theorem g__law_shuffled (T : Txt K mg) : mg "_law_shuffled" = some (.ref (He.ga K "_law_shuffled")) := by
  obtain ⟨h, X, G⟩ := T.ex
  exact He.glo_ok X G (T.c.fact 39 (f := .glo "_law_shuffled") rfl)
theorem g__law_int (T : Txt K mg) : mg "_law_int" = some (.ref (He.ga K "_law_int")) := by
  obtain ⟨h, X, G⟩ := T.ex
  exact He.glo_ok X G (T.c.fact 40 (f := .glo "_law_int") rfl)
theorem g__law_same (T : Txt K mg) : mg "_law_same" = some (.ref (He.ga K "_law_same")) := by
  obtain ⟨h, X, G⟩ := T.ex
  exact He.glo_ok X G (T.c.fact 41 (f := .glo "_law_same") rfl)
theorem g__law_names (T : Txt K mg) : mg "_law_names" = some (.ref (He.ga K "_law_names")) := by
  obtain ⟨h, X, G⟩ := T.ex
  exact He.glo_ok X G (T.c.fact 42 (f := .glo "_law_names") rfl)
theorem g__law_costs (T : Txt K mg) : mg "_law_costs" = some (.ref (He.ga K "_law_costs")) := by
  obtain ⟨h, X, G⟩ := T.ex
  exact He.glo_ok X G (T.c.fact 43 (f := .glo "_law_costs") rfl)
theorem g__law_by_places (T : Txt K mg) : mg "_law_by_places" = some (.ref (He.ga K "_law_by_places")) := by
  obtain ⟨h, X, G⟩ := T.ex
  exact He.glo_ok X G (T.c.fact 44 (f := .glo "_law_by_places") rfl)
theorem g_law (T : Txt K mg) : mg "law" = some (.ref (He.ga K "law")) := by
  obtain ⟨h, X, G⟩ := T.ex
  exact He.glo_ok X G (T.c.fact 45 (f := .glo "law") rfl)
theorem b_ValueError (T : Txt K mg) : mg "ValueError" = none := by
  obtain ⟨h, X, G⟩ := T.ex
  exact He.free_ok X G (T.c.fact 46 (f := .free "ValueError") rfl)
theorem b_isinstance (T : Txt K mg) : mg "isinstance" = none := by
  obtain ⟨h, X, G⟩ := T.ex
  exact He.free_ok X G (T.c.fact 47 (f := .free "isinstance") rfl)
theorem b_all (T : Txt K mg) : mg "all" = none := by
  obtain ⟨h, X, G⟩ := T.ex
  exact He.free_ok X G (T.c.fact 48 (f := .free "all") rfl)
theorem b_min (T : Txt K mg) : mg "min" = none := by
  obtain ⟨h, X, G⟩ := T.ex
  exact He.free_ok X G (T.c.fact 49 (f := .free "min") rfl)
theorem b_len (T : Txt K mg) : mg "len" = none := by
  obtain ⟨h, X, G⟩ := T.ex
  exact He.free_ok X G (T.c.fact 50 (f := .free "len") rfl)
theorem b_tuple (T : Txt K mg) : mg "tuple" = none := by
  obtain ⟨h, X, G⟩ := T.ex
  exact He.free_ok X G (T.c.fact 51 (f := .free "tuple") rfl)
theorem b_reversed (T : Txt K mg) : mg "reversed" = none := by
  obtain ⟨h, X, G⟩ := T.ex
  exact He.free_ok X G (T.c.fact 52 (f := .free "reversed") rfl)
theorem b_list (T : Txt K mg) : mg "list" = none := by
  obtain ⟨h, X, G⟩ := T.ex
  exact He.free_ok X G (T.c.fact 53 (f := .free "list") rfl)
theorem b_bool (T : Txt K mg) : mg "bool" = none := by
  obtain ⟨h, X, G⟩ := T.ex
  exact He.free_ok X G (T.c.fact 54 (f := .free "bool") rfl)
theorem b_int (T : Txt K mg) : mg "int" = none := by
  obtain ⟨h, X, G⟩ := T.ex
  exact He.free_ok X G (T.c.fact 55 (f := .free "int") rfl)
theorem b_str (T : Txt K mg) : mg "str" = none := by
  obtain ⟨h, X, G⟩ := T.ex
  exact He.free_ok X G (T.c.fact 56 (f := .free "str") rfl)
theorem b_range (T : Txt K mg) : mg "range" = none := by
  obtain ⟨h, X, G⟩ := T.ex
  exact He.free_ok X G (T.c.fact 57 (f := .free "range") rfl)
theorem b_enumerate (T : Txt K mg) : mg "enumerate" = none := by
  obtain ⟨h, X, G⟩ := T.ex
  exact He.free_ok X G (T.c.fact 58 (f := .free "enumerate") rfl)
theorem b_zip (T : Txt K mg) : mg "zip" = none := by
  obtain ⟨h, X, G⟩ := T.ex
  exact He.free_ok X G (T.c.fact 59 (f := .free "zip") rfl)
theorem b_sorted (T : Txt K mg) : mg "sorted" = none := by
  obtain ⟨h, X, G⟩ := T.ex
  exact He.free_ok X G (T.c.fact 60 (f := .free "sorted") rfl)
theorem b_max (T : Txt K mg) : mg "max" = none := by
  obtain ⟨h, X, G⟩ := T.ex
  exact He.free_ok X G (T.c.fact 61 (f := .free "max") rfl)
theorem b_set (T : Txt K mg) : mg "set" = none := by
  obtain ⟨h, X, G⟩ := T.ex
  exact He.free_ok X G (T.c.fact 62 (f := .free "set") rfl)
theorem cl_Prices (T : Txt K mg) : Cls K (He.ga K "Prices") := He.cls_ok (T.c.fact 63 (f := .cls "Prices") rfl)
theorem mk_Prices (T : Txt K mg) : Mk K (He.ga K "Prices") (He.ma K (He.ga K "Prices") "__init__") := He.mkr_ok (T.c.fact 64 (f := .mkr "Prices") rfl)
theorem n_Prices_count (T : Txt K mg) : NoAttr K (He.ga K "Prices") "count" := He.noat_ok (T.c.fact 65 (f := .noat "Prices" "count") rfl)
theorem n_Prices_row (T : Txt K mg) : NoAttr K (He.ga K "Prices") "row" := He.noat_ok (T.c.fact 66 (f := .noat "Prices" "row") rfl)
theorem n_Prices_numbers (T : Txt K mg) : NoAttr K (He.ga K "Prices") "numbers" := He.noat_ok (T.c.fact 67 (f := .noat "Prices" "numbers") rfl)
theorem m_Prices_price (T : Txt K mg) : Meth K (He.ga K "Prices") "price" (He.ma K (He.ga K "Prices") "price") := He.meth_ok (T.c.fact 68 (f := .meth "Prices" "price") rfl)
theorem cl_Tabling (T : Txt K mg) : Cls K (He.ga K "Tabling") := He.cls_ok (T.c.fact 69 (f := .cls "Tabling") rfl)
theorem mk_Tabling (T : Txt K mg) : Mk K (He.ga K "Tabling") (He.ma K (He.ga K "Tabling") "__init__") := He.mkr_ok (T.c.fact 70 (f := .mkr "Tabling") rfl)
theorem n_Tabling_grammar (T : Txt K mg) : NoAttr K (He.ga K "Tabling") "grammar" := He.noat_ok (T.c.fact 71 (f := .noat "Tabling" "grammar") rfl)
theorem n_Tabling_row (T : Txt K mg) : NoAttr K (He.ga K "Tabling") "row" := He.noat_ok (T.c.fact 72 (f := .noat "Tabling" "row") rfl)
theorem n_Tabling_numbers (T : Txt K mg) : NoAttr K (He.ga K "Tabling") "numbers" := He.noat_ok (T.c.fact 73 (f := .noat "Tabling" "numbers") rfl)
theorem n_Tabling_prices (T : Txt K mg) : NoAttr K (He.ga K "Tabling") "prices" := He.noat_ok (T.c.fact 74 (f := .noat "Tabling" "prices") rfl)
theorem n_Tabling_sums (T : Txt K mg) : NoAttr K (He.ga K "Tabling") "sums" := He.noat_ok (T.c.fact 75 (f := .noat "Tabling" "sums") rfl)
theorem n_Tabling_made (T : Txt K mg) : NoAttr K (He.ga K "Tabling") "made" := He.noat_ok (T.c.fact 76 (f := .noat "Tabling" "made") rfl)
theorem m_Tabling_lay (T : Txt K mg) : Meth K (He.ga K "Tabling") "lay" (He.ma K (He.ga K "Tabling") "lay") := He.meth_ok (T.c.fact 77 (f := .meth "Tabling" "lay") rfl)
theorem m_Tabling_inner_sums (T : Txt K mg) : Meth K (He.ga K "Tabling") "inner_sums" (He.ma K (He.ga K "Tabling") "inner_sums") := He.meth_ok (T.c.fact 78 (f := .meth "Tabling" "inner_sums") rfl)
theorem m_Tabling_sum_by (T : Txt K mg) : Meth K (He.ga K "Tabling") "sum_by" (He.ma K (He.ga K "Tabling") "sum_by") := He.meth_ok (T.c.fact 79 (f := .meth "Tabling" "sum_by") rfl)
theorem m_Tabling_add_up (T : Txt K mg) : Meth K (He.ga K "Tabling") "add_up" (He.ma K (He.ga K "Tabling") "add_up") := He.meth_ok (T.c.fact 80 (f := .meth "Tabling" "add_up") rfl)
theorem m_Tabling_by_rule (T : Txt K mg) : Meth K (He.ga K "Tabling") "by_rule" (He.ma K (He.ga K "Tabling") "by_rule") := He.meth_ok (T.c.fact 81 (f := .meth "Tabling" "by_rule") rfl)
theorem m_Tabling_lowers (T : Txt K mg) : Meth K (He.ga K "Tabling") "lowers" (He.ma K (He.ga K "Tabling") "lowers") := He.meth_ok (T.c.fact 82 (f := .meth "Tabling" "lowers") rfl)
theorem m_Tabling_entries (T : Txt K mg) : Meth K (He.ga K "Tabling") "entries" (He.ma K (He.ga K "Tabling") "entries") := He.meth_ok (T.c.fact 83 (f := .meth "Tabling" "entries") rfl)
theorem cl_Beginnings (T : Txt K mg) : Cls K (He.ga K "Beginnings") := He.cls_ok (T.c.fact 84 (f := .cls "Beginnings") rfl)
theorem mk_Beginnings (T : Txt K mg) : Mk K (He.ga K "Beginnings") (He.ma K (He.ga K "Beginnings") "__init__") := He.mkr_ok (T.c.fact 85 (f := .mkr "Beginnings") rfl)
theorem n_Beginnings_count (T : Txt K mg) : NoAttr K (He.ga K "Beginnings") "count" := He.noat_ok (T.c.fact 86 (f := .noat "Beginnings" "count") rfl)
theorem n_Beginnings_empty (T : Txt K mg) : NoAttr K (He.ga K "Beginnings") "empty" := He.noat_ok (T.c.fact 87 (f := .noat "Beginnings" "empty") rfl)
theorem n_Beginnings_first (T : Txt K mg) : NoAttr K (He.ga K "Beginnings") "first" := He.noat_ok (T.c.fact 88 (f := .noat "Beginnings" "first") rfl)
theorem n_Beginnings_behind (T : Txt K mg) : NoAttr K (He.ga K "Beginnings") "behind" := He.noat_ok (T.c.fact 89 (f := .noat "Beginnings" "behind") rfl)
theorem cl_Grammar (T : Txt K mg) : Cls K (He.ga K "Grammar") := He.cls_ok (T.c.fact 90 (f := .cls "Grammar") rfl)
theorem mk_Grammar (T : Txt K mg) : Mk K (He.ga K "Grammar") (He.ma K (He.ga K "Grammar") "__init__") := He.mkr_ok (T.c.fact 91 (f := .mkr "Grammar") rfl)
theorem n_Grammar_tokens (T : Txt K mg) : NoAttr K (He.ga K "Grammar") "tokens" := He.noat_ok (T.c.fact 92 (f := .noat "Grammar" "tokens") rfl)
theorem n_Grammar_rules (T : Txt K mg) : NoAttr K (He.ga K "Grammar") "rules" := He.noat_ok (T.c.fact 93 (f := .noat "Grammar" "rules") rfl)
theorem n_Grammar_groups (T : Txt K mg) : NoAttr K (He.ga K "Grammar") "groups" := He.noat_ok (T.c.fact 94 (f := .noat "Grammar" "groups") rfl)
theorem n_Grammar_codes (T : Txt K mg) : NoAttr K (He.ga K "Grammar") "codes" := He.noat_ok (T.c.fact 95 (f := .noat "Grammar" "codes") rfl)
theorem n_Grammar_heads (T : Txt K mg) : NoAttr K (He.ga K "Grammar") "heads" := He.noat_ok (T.c.fact 96 (f := .noat "Grammar" "heads") rfl)
theorem n_Grammar_parts (T : Txt K mg) : NoAttr K (He.ga K "Grammar") "parts" := He.noat_ok (T.c.fact 97 (f := .noat "Grammar" "parts") rfl)
theorem n_Grammar_rules_of (T : Txt K mg) : NoAttr K (He.ga K "Grammar") "rules_of" := He.noat_ok (T.c.fact 98 (f := .noat "Grammar" "rules_of") rfl)
theorem n_Grammar_beginnings (T : Txt K mg) : NoAttr K (He.ga K "Grammar") "beginnings" := He.noat_ok (T.c.fact 99 (f := .noat "Grammar" "beginnings") rfl)
theorem n_Grammar_state_list (T : Txt K mg) : NoAttr K (He.ga K "Grammar") "state_list" := He.noat_ok (T.c.fact 100 (f := .noat "Grammar" "state_list") rfl)
theorem f_wall (T : Txt K mg) : ∃ fd, FunD K "_wall" "_wall" (defArgs s_wall) (defBody s_wall) (defScope s_wall) [] [] (He.fAd K ("_wall", none)) fd := T.c.def_ 0 (d := d_wall) rfl
theorem f_is_integer (T : Txt K mg) : ∃ fd, FunD K "is_integer" "is_integer" (defArgs s_is_integer) (defBody s_is_integer) (defScope s_is_integer) [] [] (He.fAd K ("is_integer", none)) fd := T.c.def_ 1 (d := d_is_integer) rfl
theorem f_is_below (T : Txt K mg) : ∃ fd, FunD K "is_below" "is_below" (defArgs s_is_below) (defBody s_is_below) (defScope s_is_below) [] [] (He.fAd K ("is_below", none)) fd := T.c.def_ 2 (d := d_is_below) rfl
theorem f_is_sequence (T : Txt K mg) : ∃ fd, FunD K "is_sequence" "is_sequence" (defArgs s_is_sequence) (defBody s_is_sequence) (defScope s_is_sequence) [] [] (He.fAd K ("is_sequence", none)) fd := T.c.def_ 3 (d := d_is_sequence) rfl
theorem f_is_name (T : Txt K mg) : ∃ fd, FunD K "is_name" "is_name" (defArgs s_is_name) (defBody s_is_name) (defScope s_is_name) [] [] (He.fAd K ("is_name", none)) fd := T.c.def_ 4 (d := d_is_name) rfl
theorem f_are_names (T : Txt K mg) : ∃ fd, FunD K "are_names" "are_names" (defArgs s_are_names) (defBody s_are_names) (defScope s_are_names) [] [] (He.fAd K ("are_names", none)) fd := T.c.def_ 5 (d := d_are_names) rfl
theorem f_stretch_cost (T : Txt K mg) : ∃ fd, FunD K "stretch_cost" "stretch_cost" (defArgs s_stretch_cost) (defBody s_stretch_cost) (defScope s_stretch_cost) [] [] (He.fAd K ("stretch_cost", none)) fd := T.c.def_ 6 (d := d_stretch_cost) rfl
theorem f_Prices_init (T : Txt K mg) : ∃ fd, FunD K "__init__" "Prices.__init__" (defArgs s_Prices_init) (defBody s_Prices_init) (defScope s_Prices_init) [] [] (He.fAd K ("Prices", some "__init__")) fd := T.c.def_ 7 (d := d_Prices_init) rfl
theorem f_Prices_price (T : Txt K mg) : ∃ fd, FunD K "price" "Prices.price" (defArgs s_Prices_price) (defBody s_Prices_price) (defScope s_Prices_price) [] [] (He.fAd K ("Prices", some "price")) fd := T.c.def_ 8 (d := d_Prices_price) rfl
theorem f_added (T : Txt K mg) : ∃ fd, FunD K "added" "added" (defArgs s_added) (defBody s_added) (defScope s_added) [] [] (He.fAd K ("added", none)) fd := T.c.def_ 9 (d := d_added) rfl
theorem f_lowest (T : Txt K mg) : ∃ fd, FunD K "lowest" "lowest" (defArgs s_lowest) (defBody s_lowest) (defScope s_lowest) [] [] (He.fAd K ("lowest", none)) fd := T.c.def_ 10 (d := d_lowest) rfl
theorem f_Tabling_init (T : Txt K mg) : ∃ fd, FunD K "__init__" "Tabling.__init__" (defArgs s_Tabling_init) (defBody s_Tabling_init) (defScope s_Tabling_init) [] [] (He.fAd K ("Tabling", some "__init__")) fd := T.c.def_ 11 (d := d_Tabling_init) rfl
theorem f_Tabling_lay (T : Txt K mg) : ∃ fd, FunD K "lay" "Tabling.lay" (defArgs s_Tabling_lay) (defBody s_Tabling_lay) (defScope s_Tabling_lay) [] [] (He.fAd K ("Tabling", some "lay")) fd := T.c.def_ 12 (d := d_Tabling_lay) rfl
theorem f_Tabling_inner_sums (T : Txt K mg) : ∃ fd, FunD K "inner_sums" "Tabling.inner_sums" (defArgs s_Tabling_inner_sums) (defBody s_Tabling_inner_sums) (defScope s_Tabling_inner_sums) [] [] (He.fAd K ("Tabling", some "inner_sums")) fd := T.c.def_ 13 (d := d_Tabling_inner_sums) rfl
theorem f_Tabling_sum_by (T : Txt K mg) : ∃ fd, FunD K "sum_by" "Tabling.sum_by" (defArgs s_Tabling_sum_by) (defBody s_Tabling_sum_by) (defScope s_Tabling_sum_by) [] [] (He.fAd K ("Tabling", some "sum_by")) fd := T.c.def_ 14 (d := d_Tabling_sum_by) rfl
theorem f_Tabling_add_up (T : Txt K mg) : ∃ fd, FunD K "add_up" "Tabling.add_up" (defArgs s_Tabling_add_up) (defBody s_Tabling_add_up) (defScope s_Tabling_add_up) [] [] (He.fAd K ("Tabling", some "add_up")) fd := T.c.def_ 15 (d := d_Tabling_add_up) rfl
theorem f_Tabling_by_rule (T : Txt K mg) : ∃ fd, FunD K "by_rule" "Tabling.by_rule" (defArgs s_Tabling_by_rule) (defBody s_Tabling_by_rule) (defScope s_Tabling_by_rule) [] [] (He.fAd K ("Tabling", some "by_rule")) fd := T.c.def_ 16 (d := d_Tabling_by_rule) rfl
theorem f_Tabling_lowers (T : Txt K mg) : ∃ fd, FunD K "lowers" "Tabling.lowers" (defArgs s_Tabling_lowers) (defBody s_Tabling_lowers) (defScope s_Tabling_lowers) [] [] (He.fAd K ("Tabling", some "lowers")) fd := T.c.def_ 17 (d := d_Tabling_lowers) rfl
theorem f_Tabling_entries (T : Txt K mg) : ∃ fd, FunD K "entries" "Tabling.entries" (defArgs s_Tabling_entries) (defBody s_Tabling_entries) (defScope s_Tabling_entries) [] [] (He.fAd K ("Tabling", some "entries")) fd := T.c.def_ 18 (d := d_Tabling_entries) rfl
theorem f_is_row (T : Txt K mg) : ∃ fd, FunD K "is_row" "is_row" (defArgs s_is_row) (defBody s_is_row) (defScope s_is_row) [] [] (He.fAd K ("is_row", none)) fd := T.c.def_ 19 (d := d_is_row) rfl
theorem f_row_asked (T : Txt K mg) : ∃ fd, FunD K "row_asked" "row_asked" (defArgs s_row_asked) (defBody s_row_asked) (defScope s_row_asked) [] [] (He.fAd K ("row_asked", none)) fd := T.c.def_ 20 (d := d_row_asked) rfl
theorem f_least_changes (T : Txt K mg) : ∃ fd, FunD K "least_changes" "least_changes" (defArgs s_least_changes) (defBody s_least_changes) (defScope s_least_changes) [] [] (He.fAd K ("least_changes", none)) fd := T.c.def_ 21 (d := d_least_changes) rfl
theorem f_token_changes (T : Txt K mg) : ∃ fd, FunD K "token_changes" "token_changes" (defArgs s_token_changes) (defBody s_token_changes) (defScope s_token_changes) [] [] (He.fAd K ("token_changes", none)) fd := T.c.def_ 22 (d := d_token_changes) rfl
theorem f_Beginnings_init (T : Txt K mg) : ∃ fd, FunD K "__init__" "Beginnings.__init__" (defArgs s_Beginnings_init) (defBody s_Beginnings_init) (defScope s_Beginnings_init) [] [] (He.fAd K ("Beginnings", some "__init__")) fd := T.c.def_ 23 (d := d_Beginnings_init) rfl
theorem f_empty_groups (T : Txt K mg) : ∃ fd, FunD K "empty_groups" "empty_groups" (defArgs s_empty_groups) (defBody s_empty_groups) (defScope s_empty_groups) [] [] (He.fAd K ("empty_groups", none)) fd := T.c.def_ 24 (d := d_empty_groups) rfl
theorem f_first_table (T : Txt K mg) : ∃ fd, FunD K "first_table" "first_table" (defArgs s_first_table) (defBody s_first_table) (defScope s_first_table) [] [] (He.fAd K ("first_table", none)) fd := T.c.def_ 25 (d := d_first_table) rfl
theorem f_first_of (T : Txt K mg) : ∃ fd, FunD K "first_of" "first_of" (defArgs s_first_of) (defBody s_first_of) (defScope s_first_of) [] [] (He.fAd K ("first_of", none)) fd := T.c.def_ 26 (d := d_first_of) rfl
theorem f_marked_ones (T : Txt K mg) : ∃ fd, FunD K "marked_ones" "marked_ones" (defArgs s_marked_ones) (defBody s_marked_ones) (defScope s_marked_ones) [] [] (He.fAd K ("marked_ones", none)) fd := T.c.def_ 27 (d := d_marked_ones) rfl
theorem f_behind_dots (T : Txt K mg) : ∃ fd, FunD K "behind_dots" "behind_dots" (defArgs s_behind_dots) (defBody s_behind_dots) (defScope s_behind_dots) [] [] (He.fAd K ("behind_dots", none)) fd := T.c.def_ 28 (d := d_behind_dots) rfl
theorem f_joined_ones (T : Txt K mg) : ∃ fd, FunD K "joined_ones" "joined_ones" (defArgs s_joined_ones) (defBody s_joined_ones) (defScope s_joined_ones) [] [] (He.fAd K ("joined_ones", none)) fd := T.c.def_ 29 (d := d_joined_ones) rfl
theorem f_with_trees (T : Txt K mg) : ∃ fd, FunD K "with_trees" "with_trees" (defArgs s_with_trees) (defBody s_with_trees) (defScope s_with_trees) [] [] (He.fAd K ("with_trees", none)) fd := T.c.def_ 30 (d := d_with_trees) rfl
theorem f_can_stand (T : Txt K mg) : ∃ fd, FunD K "can_stand" "can_stand" (defArgs s_can_stand) (defBody s_can_stand) (defScope s_can_stand) [] [] (He.fAd K ("can_stand", none)) fd := T.c.def_ 31 (d := d_can_stand) rfl
theorem f_reached (T : Txt K mg) : ∃ fd, FunD K "reached" "reached" (defArgs s_reached) (defBody s_reached) (defScope s_reached) [] [] (He.fAd K ("reached", none)) fd := T.c.def_ 32 (d := d_reached) rfl
theorem f_useless_rules (T : Txt K mg) : ∃ fd, FunD K "useless_rules" "useless_rules" (defArgs s_useless_rules) (defBody s_useless_rules) (defScope s_useless_rules) [] [] (He.fAd K ("useless_rules", none)) fd := T.c.def_ 33 (d := d_useless_rules) rfl
theorem f_Grammar_init (T : Txt K mg) : ∃ fd, FunD K "__init__" "Grammar.__init__" (defArgs s_Grammar_init) (defBody s_Grammar_init) (defScope s_Grammar_init) [] [] (He.fAd K ("Grammar", some "__init__")) fd := T.c.def_ 34 (d := d_Grammar_init) rfl
theorem f_Grammar_eq (T : Txt K mg) : ∃ fd, FunD K "__eq__" "Grammar.__eq__" (defArgs s_Grammar_eq) (defBody s_Grammar_eq) (defScope s_Grammar_eq) [] [] (He.fAd K ("Grammar", some "__eq__")) fd := T.c.def_ 35 (d := d_Grammar_eq) rfl
theorem f_are_rules (T : Txt K mg) : ∃ fd, FunD K "are_rules" "are_rules" (defArgs s_are_rules) (defBody s_are_rules) (defScope s_are_rules) [] [] (He.fAd K ("are_rules", none)) fd := T.c.def_ 36 (d := d_are_rules) rfl
theorem f_is_rule_pair (T : Txt K mg) : ∃ fd, FunD K "is_rule_pair" "is_rule_pair" (defArgs s_is_rule_pair) (defBody s_is_rule_pair) (defScope s_is_rule_pair) [] [] (He.fAd K ("is_rule_pair", none)) fd := T.c.def_ 37 (d := d_is_rule_pair) rfl
theorem f_groups_in (T : Txt K mg) : ∃ fd, FunD K "groups_in" "groups_in" (defArgs s_groups_in) (defBody s_groups_in) (defScope s_groups_in) [] [] (He.fAd K ("groups_in", none)) fd := T.c.def_ 38 (d := d_groups_in) rfl
theorem f_rules_with (T : Txt K mg) : ∃ fd, FunD K "rules_with" "rules_with" (defArgs s_rules_with) (defBody s_rules_with) (defScope s_rules_with) [] [] (He.fAd K ("rules_with", none)) fd := T.c.def_ 39 (d := d_rules_with) rfl
theorem f_law_box (T : Txt K mg) : ∃ fd, FunD K "_law_box" "_law_box" (defArgs s_law_box) (defBody s_law_box) (defScope s_law_box) [] [] (He.fAd K ("_law_box", none)) fd := T.c.def_ 40 (d := d_law_box) rfl
theorem f_law_draw (T : Txt K mg) : ∃ fd, FunD K "_law_draw" "_law_draw" (defArgs s_law_draw) (defBody s_law_draw) (defScope s_law_draw) [] [] (He.fAd K ("_law_draw", none)) fd := T.c.def_ 41 (d := d_law_draw) rfl
theorem f_law_shuffled (T : Txt K mg) : ∃ fd, FunD K "_law_shuffled" "_law_shuffled" (defArgs s_law_shuffled) (defBody s_law_shuffled) (defScope s_law_shuffled) [] [] (He.fAd K ("_law_shuffled", none)) fd := T.c.def_ 42 (d := d_law_shuffled) rfl
theorem f_law_int (T : Txt K mg) : ∃ fd, FunD K "_law_int" "_law_int" (defArgs s_law_int) (defBody s_law_int) (defScope s_law_int) [] [] (He.fAd K ("_law_int", none)) fd := T.c.def_ 43 (d := d_law_int) rfl
theorem f_law_same (T : Txt K mg) : ∃ fd, FunD K "_law_same" "_law_same" (defArgs s_law_same) (defBody s_law_same) (defScope s_law_same) [] [] (He.fAd K ("_law_same", none)) fd := T.c.def_ 44 (d := d_law_same) rfl
theorem f_law_names (T : Txt K mg) : ∃ fd, FunD K "_law_names" "_law_names" (defArgs s_law_names) (defBody s_law_names) (defScope s_law_names) [] [] (He.fAd K ("_law_names", none)) fd := T.c.def_ 45 (d := d_law_names) rfl
theorem f_law_costs (T : Txt K mg) : ∃ fd, FunD K "_law_costs" "_law_costs" (defArgs s_law_costs) (defBody s_law_costs) (defScope s_law_costs) [] [] (He.fAd K ("_law_costs", none)) fd := T.c.def_ 46 (d := d_law_costs) rfl
theorem f_law_by_places (T : Txt K mg) : ∃ fd, FunD K "_law_by_places" "_law_by_places" (defArgs s_law_by_places) (defBody s_law_by_places) (defScope s_law_by_places) [] [] (He.fAd K ("_law_by_places", none)) fd := T.c.def_ 47 (d := d_law_by_places) rfl
theorem f_law (T : Txt K mg) : ∃ fd, FunD K "law" "law" (defArgs s_law) (defBody s_law) (defScope s_law) [] [] (He.fAd K ("law", none)) fd := T.c.def_ 48 (d := d_law) rfl
end
end M

/-! text: run -/
set_option Elab.async false
set_option linter.all false
set_option maxRecDepth 100000
set_option maxHeartbeats 0
namespace M
open PySem PySem.Spec PyProof.Rows L2
abbrev Rr : PySem.W.OpenRow := PySem.W.OpenLaw.row PySem.Challenge.rw_alwaystree_k63_token_changes
abbrev hk : PySem.W.Hook := He.hookD 4 faL fnL
def ob (s : PySem.W.SharedT) : He.AlD := He.obsDG 4 faL fnL (HandSHeadRun.getT s)
theorem ob_eq (s : PySem.W.SharedT) : ob s = hk.obs s.abs := He.obsDG_eq (HandSHeadRun.getT_eq s)
theorem run (w : World) : HandSHeadRun.RunEq Rr (PySem.W.view Rr.prog [55]) hk ob 6000 looseL w := by
  intro os
  kernel_rfl
end M

/-! text: P1 -/
set_option Elab.async false
set_option linter.all false
set_option maxRecDepth 100000
set_option maxHeartbeats 4000000
namespace M
open PySem PySem.Spec PyProof.Rows L2
/-! ### plainly: looks at plain values -/
def isInt : V → Bool
  | .int _ => true
  | _ => false
theorem isInt_all : (["NoneType", "bool", "int", "str", "list", "tuple", "dict"].all fun t => (isN t "int" && !isN t "bool") == (t == "int")) = true := by decide +kernel
theorem isInt_tn {H : Hp} {x : V} {t : String} (h : TN H x t) : (isN t "int" && !isN t "bool") = isInt x := by
  have h1 : (isN t "int" && !isN t "bool") = (t == "int") := by simpa using List.all_eq_true.mp isInt_all t h.mem
  rw [h1]
  cases h <;> simp [isInt]
theorem yes_go {te : TE} {σ2 : L2.St} {H2 : Hp} {Q : VK} {QF : Hp → Prop} (h : te σ2 H2 Q) : tYes σ2 H2 (fun b H3 => if b = true then te σ2 H3 Q else QF H3) := by
  show (if true = true then te σ2 H2 Q else QF H2)
  rw [if_pos rfl]
  exact h
/-- an end, its value told otherwise -/
theorem q_to {Q : VK} {v v' : V} {H : Hp} (q : Q v H) (e : v = v') : Q v' H := e ▸ q
def sp_is_integer (K : PySem.W.Frag) : Sp := fun vs H Q _ => ∃ x t, vs = [x] ∧ TN H x t ∧ ∀ H', Same H H' → Q (.bl (isInt x)) H'
theorem len_is_integer {K : PySem.W.Frag} (vs : List V) (H : Hp) (Q : VK) (E : XK) (h : sp_is_integer K vs H Q E) : vs.length = 1 := by
  obtain ⟨x, t, rfl, _⟩ := h
  rfl
abbrev N_is_integer : List Str := ["value"]
def t_is_integer (K : PySem.W.Frag) (P : Program) (w : World) : TS :=
  (tRet (tAndV (tCB rIs1 (tCons (tVar 0) (tCons (tC (.ty "int")) tNil))) (tNotV (tCB rIs1 (tCons (tVar 0) (tCons (tC (.ty "bool")) tNil))))))
theorem pure_is_integer {K : PySem.W.Frag} {P : Program} {w : World} (vs : List V) (H : Hp) (Q : VK) (E : XK) (h : sp_is_integer K vs H Q E) : t_is_integer K P w { nx := fun _ H' => Q .non H', rt := Q } (start N_is_integer vs) H := by
  obtain ⟨x, t, rfl, ht, q⟩ := h
  refine ⟨_, rfl, x, "int", t, rfl, ht, by decide +kernel, _, rfl, ?_⟩
  have e := isInt_tn ht
  cases h1 : isN t "int" with
  | true =>
    refine ⟨_, rfl, x, "bool", t, rfl, ht, by decide +kernel, _, rfl, ?_⟩
    rw [h1] at e
    have e2 : (!isN t "bool") = isInt x := e
    show Q (.bl (!isN t "bool")) H
    rw [e2]
    exact q H (Same.refl H)
  | false =>
    rw [h1] at e
    have e2 : false = isInt x := e
    show Q (.bl false) H
    rw [e2]
    exact q H (Same.refl H)
def belowV (b : Int) : V → Bool
  | .int i => decide (0 ≤ i) && decide (i < b)
  | _ => false
def sp_is_below (K : PySem.W.Frag) : Sp := fun vs H Q _ => ∃ x t b, vs = [x, .int b] ∧ TN H x t ∧ ∀ H', Same H H' → Q (.bl (belowV b x)) H'
theorem len_is_below {K : PySem.W.Frag} (vs : List V) (H : Hp) (Q : VK) (E : XK) (h : sp_is_below K vs H Q E) : vs.length = 2 := by
  obtain ⟨x, t, b, rfl, _⟩ := h
  rfl
abbrev N_is_below : List Str := ["value", "bound"]
def t_is_below (K : PySem.W.Frag) (P : Program) (w : World) : TS :=
  (tRet (tAndV (tCl (sp_is_integer K) (tCons (tVar 0) tNil)) (tChain rLeI rLtI (tC (.int 0)) (tVar 0) (tVar 1))))
theorem pure_is_below {K : PySem.W.Frag} {P : Program} {w : World} (vs : List V) (H : Hp) (Q : VK) (E : XK) (h : sp_is_below K vs H Q E) : t_is_below K P w { nx := fun _ H' => Q .non H', rt := Q } (start N_is_below vs) H := by
  obtain ⟨x, t, b, rfl, ht, q⟩ := h
  refine ⟨_, rfl, x, t, rfl, ht, fun H1 e1 => ⟨_, rfl, ?_⟩⟩
  cases ht with
  | int i =>
    refine ⟨_, rfl, _, _, rfl, rfl, _, rfl, ?_⟩
    by_cases h1 : 0 ≤ i
    · rw [decide_eq_true h1]
      refine ⟨_, rfl, _, _, rfl, rfl, ?_⟩
      refine q_to (q H1 e1) (congrArg V.bl ?_)
      show (decide (0 ≤ i) && decide (i < b)) = _
      rw [decide_eq_true h1, Bool.true_and]
    · rw [decide_eq_false h1]
      refine q_to (q H1 e1) (congrArg V.bl ?_)
      show (decide (0 ≤ i) && decide (i < b)) = _
      rw [decide_eq_false h1, Bool.false_and]
  | _ => exact q H1 e1
def sp_is_number (K : PySem.W.Frag) : Sp := fun vs H Q _ => ∃ x t, vs = [x] ∧ TN H x t ∧ ∀ H', Same H H' → Q (.bl (match x with | .int i => decide (0 ≤ i) | _ => false)) H'
def seqT (t : String) : Bool := t == "list" || t == "tuple"
theorem seqT_all : (["NoneType", "bool", "int", "str", "list", "tuple", "dict"].all fun t => (isN t "list" || isN t "tuple") == seqT t) = true := by decide +kernel
theorem seqT_tn {H : Hp} {x : V} {t : String} (h : TN H x t) : (isN t "list" || isN t "tuple") = seqT t := by
  simpa using List.all_eq_true.mp seqT_all t h.mem
def sp_is_sequence (K : PySem.W.Frag) : Sp := fun vs H Q _ => ∃ x t, vs = [x] ∧ TN H x t ∧ ∀ H', Same H H' → Q (.bl (seqT t)) H'
theorem len_is_sequence {K : PySem.W.Frag} (vs : List V) (H : Hp) (Q : VK) (E : XK) (h : sp_is_sequence K vs H Q E) : vs.length = 1 := by
  obtain ⟨x, t, rfl, _⟩ := h
  rfl
abbrev N_is_sequence : List Str := ["value"]
def t_is_sequence (K : PySem.W.Frag) (P : Program) (w : World) : TS :=
  (tRet (tCB rIs2 (tCons (tVar 0) (tCons (tTup (tCons (tC (.ty "list")) (tCons (tC (.ty "tuple")) tNil))) tNil))))
theorem pure_is_sequence {K : PySem.W.Frag} {P : Program} {w : World} (vs : List V) (H : Hp) (Q : VK) (E : XK) (h : sp_is_sequence K vs H Q E) : t_is_sequence K P w { nx := fun _ H' => Q .non H', rt := Q } (start N_is_sequence vs) H := by
  obtain ⟨x, t, rfl, ht, q⟩ := h
  refine ⟨_, rfl, by decide, fun p hp => ?_⟩
  have s1 : Same H (upd H p (.tup [.ty "list", .ty "tuple"])) := Same.new hp
  refine ⟨x, "list", "tuple", t, p, rfl, upd_same, s1.tn ht, by decide +kernel, ?_⟩
  show Q (.bl (isN t "list" || isN t "tuple")) _
  rw [seqT_tn ht]
  exact q _ s1
end M

/-! text: P2 -/
set_option Elab.async false
set_option linter.all false
set_option maxRecDepth 100000
set_option maxHeartbeats 4000000
namespace M
open PySem PySem.Spec PyProof.Rows L2
/-! ### names -/
def azB (c : Nat) : Bool := decide (c ∈ ("abcdefghijklmnopqrstuvwxyz" : Str).cps.toList)
def nameB (s : Str) : Bool := (decide (1 ≤ s.length) && decide (s.length ≤ 12)) && s.cps.toList.all azB
def nameV : V → Bool
  | .str s => nameB s
  | _ => false
def shortV : V → Prop
  | .str s => s.length ≤ 1000
  | _ => True
theorem all_map_id {α : Type} (l : List α) (p : α → Bool) : (l.map p).all id = l.all p := by
  rw [List.all_map]
  rfl
def sp_is_name (K : PySem.W.Frag) : Sp := fun vs H Q _ => ∃ x t, vs = [x] ∧ TN H x t ∧ shortV x ∧ ∀ H', Same H H' → Q (.bl (nameV x)) H'
theorem len_is_name {K : PySem.W.Frag} (vs : List V) (H : Hp) (Q : VK) (E : XK) (h : sp_is_name K vs H Q E) : vs.length = 1 := by
  obtain ⟨x, t, rfl, _⟩ := h
  rfl
abbrev N_is_name : List Str := ["value", "sign"]
def t_is_name (K : PySem.W.Frag) (P : Program) (w : World) : TS :=
  (tSeq (tIfS (tOr (tNot (tB (tCB rIs1 (tCons (tVar 0) (tCons (tC (.ty "str")) tNil))))) (tNot (tTest (tChain rLeI rLeI (tC (.int 1)) (tCB rLenStr (tCons (tVar 0) tNil)) (tC (.int 12)))))) (tRet (tC (.bl false))) tNext)
    (tRet (tCB (rAll K) (tCons (tLc (iStr (tVar 0)) (gName 1) tYes (tOp rInSign (tVar 1) (tC (.str "abcdefghijklmnopqrstuvwxyz"))) [1]) tNil))))
theorem isStr_all : (["NoneType", "bool", "int", "str", "list", "tuple", "dict"].all fun t => isN t "str" == (t == "str")) = true := by decide +kernel
theorem isStr_tn {H : Hp} {x : V} {t : String} (h : TN H x t) : isN t "str" = (t == "str") := by simpa using List.all_eq_true.mp isStr_all t h.mem
theorem pure_is_name {K : PySem.W.Frag} {P : Program} {w : World} (vs : List V) (H : Hp) (Q : VK) (E : XK) (h : sp_is_name K vs H Q E) : t_is_name K P w { nx := fun _ H' => Q .non H', rt := Q } (start N_is_name vs) H := by
  obtain ⟨x, t, rfl, ht, hz, q⟩ := h
  refine ⟨_, rfl, x, "str", t, rfl, ht, by decide +kernel, _, rfl, ?_⟩
  rw [isStr_tn ht]
  cases ht with
  | str s =>
    have hz : s.length ≤ 1000 := hz
    have hs : sizeLine = 16777216 := sizeLine_eq
    refine iteF ?_
    refine ⟨_, rfl, s, rfl, by omega, _, _, rfl, rfl, _, rfl, ?_⟩
    have fin : nameB s = false → Q (.bl false) H := fun e => q_to (q H (Same.refl H)) (congrArg V.bl e)
    by_cases h1 : (1 : Int) ≤ (s.length : Int)
    · rw [decide_eq_true h1]
      refine ⟨_, _, rfl, rfl, _, rfl, ?_⟩
      by_cases h2 : (s.length : Int) ≤ 12
      · rw [decide_eq_true h2]
        refine ⟨_, rfl, s, rfl, fun D hD => lc_pure walk_str (by show s.cps.size ≤ 1000000; have : s.cps.size = s.length := rfl; omega) (fun _ => true) (fun i => .bl (azB (s.cps.toList.getD i 0))) hD (fun _ _ => trivial) (fun i x Ha Hb hi e1 y => ?_) (fun H2 e2 h2 => ?_)⟩
        · obtain ⟨rfl, c, hc, rfl⟩ := y
          intro Q2 QF k1 k2
          refine ⟨rfl, yes_go ?_⟩
          refine ⟨_, rfl, c, _, rfl, rfl, ?_⟩
          refine q_to (k1 rfl Hb (Same.refl Hb)) (congrArg V.bl ?_)
          have e3 : s.cps.toList.getD i 0 = c := by
            rw [List.getD_eq_getElem?_getD, Array.getElem?_toList, hc]
            rfl
          rw [e3]
          rfl
        · rw [kept_all] at h2
          have e3 : (List.range s.cps.size).map (fun i => V.bl (azB (s.cps.toList.getD i 0))) = (s.cps.toList.map azB).map V.bl := by
            rw [List.map_map, ← Array.length_toList]
            refine range_map s.cps.toList _ _ fun i x hx => ?_
            rw [List.getD_eq_getElem?_getD, hx]
            rfl
          rw [e3] at h2
          refine ⟨D, s.cps.toList.map azB, rfl, .inl (.inl h2), ?_⟩
          refine q_to (q H2 e2) (congrArg V.bl ?_)
          show nameB s = _
          unfold nameB
          rw [all_map_id, decide_eq_true (show 1 ≤ s.length by omega), decide_eq_true (show s.length ≤ 12 by omega)]
          rfl
      · rw [decide_eq_false h2]
        refine fin ?_
        unfold nameB
        rw [decide_eq_false (show ¬ s.length ≤ 12 by omega), Bool.and_false, Bool.false_and]
    · rw [decide_eq_false h1]
      refine ⟨_, rfl, fin ?_⟩
      unfold nameB
      rw [decide_eq_false (show ¬ 1 ≤ s.length by omega), Bool.false_and, Bool.false_and]
  | _ => exact q H (Same.refl H)
end M

/-! text: P3 -/
set_option Elab.async false
set_option linter.all false
set_option maxRecDepth 100000
set_option maxHeartbeats 4000000
namespace M
open PySem PySem.Spec PyProof.Rows L2
theorem sq_or {K : PySem.W.Frag} {b : Bool} {H : Hp} {a : Addr} {xs : List V} (h : Sq K b H a xs) : SqL K H a xs ∨ SqT K H a xs := by
  cases b with
  | true => exact .inl h
  | false => exact .inr h
/-- a tracked list (b) or tuple -/
def seqO (b : Bool) (xs : List V) : HO := match b with
  | true => .lst xs
  | false => .tup xs
theorem seqO_sq {K : PySem.W.Frag} {b : Bool} {H : Hp} {a : Addr} {xs : List V} (h : H a = some (seqO b xs)) : Sq K b H a xs := by
  cases b with
  | true => exact .inl (.inl h)
  | false => exact .inl (.inl h)
theorem seqO_tn {b : Bool} {H : Hp} {a : Addr} {xs : List V} (h : H a = some (seqO b xs)) : ∃ t, TN H (.ref a) t ∧ seqT t = true := by
  cases b with
  | true => exact ⟨_, .lst h, by decide⟩
  | false => exact ⟨_, .tup h, by decide⟩
/-! ### are_names: of right names -/
def sp_are_names (K : PySem.W.Frag) : Sp := fun vs H Q _ => ∃ (a : Addr) (b : Bool) (ns : List Str), vs = [.ref a] ∧ H a = some (seqO b (ns.map V.str)) ∧ ns ≠ [] ∧ ns.Nodup ∧ (∀ n ∈ ns, nameB n = true) ∧ ns.length ≤ 1000 ∧ ∀ H', Same H H' → Q (.bl true) H'
theorem len_are_names {K : PySem.W.Frag} (vs : List V) (H : Hp) (Q : VK) (E : XK) (h : sp_are_names K vs H Q E) : vs.length = 1 := by
  obtain ⟨a, b, ns, rfl, _⟩ := h
  rfl
abbrev N_are_names : List Str := ["value", "name"]
def t_are_names (K : PySem.W.Frag) (P : Program) (w : World) : TS :=
  (tSeq (tIfS (tOr (tNot (tB (tCl (sp_is_sequence K) (tCons (tVar 0) tNil)))) (tTest (tOp rEq (tCB (rLenSeq K) (tCons (tVar 0) tNil)) (tC (.int 0))))) (tRet (tC (.bl false))) tNext)
    (tSeq (tIfS (tNot (tB (tCB (rAll K) (tCons (tLc (iSeq K (tVar 0)) (gName 1) tYes (tCl (sp_is_name K) (tCons (tVar 1) tNil)) [1]) tNil)))) (tRet (tC (.bl false))) tNext)
    (tRet (tOp rEq (tCB (rLenSet P w) (tCons (tCB (rSetOf K P w) (tCons (tVar 0) tNil)) tNil)) (tCB (rLenSeq K) (tCons (tVar 0) tNil))))))
theorem nodup_map {α β : Type} {f : α → β} (hf : ∀ a b, f a = f b → a = b) : ∀ {l : List α}, l.Nodup → (l.map f).Nodup
  | [], _ => List.nodup_nil
  | x :: r, h => by
    obtain ⟨h1, h2⟩ := List.nodup_cons.mp h
    refine List.nodup_cons.mpr ⟨fun m => ?_, nodup_map hf h2⟩
    obtain ⟨y, hy, e⟩ := List.mem_map.mp m
    exact h1 (hf _ _ e ▸ hy)
theorem nameB_short {s : Str} (h : nameB s = true) : s.length ≤ 12 := by
  unfold nameB at h
  simp only [Bool.and_eq_true, decide_eq_true_eq] at h
  exact h.1.2
theorem pure_are_names {K : PySem.W.Frag} {P : Program} {w : World} (vs : List V) (H : Hp) (Q : VK) (E : XK) (h : sp_are_names K vs H Q E) : t_are_names K P w { nx := fun _ H' => Q .non H', rt := Q } (start N_are_names vs) H := by
  obtain ⟨a, b, ns, rfl, ha, hne, nd, hok, hz, q⟩ := h
  obtain ⟨t, ht, hst⟩ := seqO_tn ha
  refine ⟨_, rfl, _, t, rfl, ht, fun H1 e1 => ⟨_, rfl, ?_⟩⟩
  rw [hst]
  have hq1 : Sq K b H1 a (ns.map V.str) := e1.sq (seqO_sq ha)
  have hlen : (ns.map V.str).length = ns.length := List.length_map ..
  have hpos : 0 < ns.length := List.length_pos_iff.mpr hne
  refine ⟨_, rfl, a, _, rfl, sq_or hq1, rfl, _, rfl, ?_⟩
  have e0 : decide (V.int ((ns.map V.str).length : Nat) = V.int 0) = false := decide_eq_false fun z => by
    have z2 := V.int.inj z
    omega
  rw [e0]
  -- all of them are names
  refine ⟨_, rfl, a, b, _, rfl, hq1, fun D hD => lc_pure walk_sq (by omega) (fun _ => true) (fun _ => .bl true) hD (fun H' e' => e'.sq hq1) (fun i x Ha Hb hi e2 y => ?_) (fun H2 e2 h2 => ?_)⟩
  · obtain ⟨rfl, hx⟩ := y
    intro Q2 QF k1 k2
    rw [List.getElem?_map] at hx
    obtain ⟨n, hn, rfl⟩ := Option.map_eq_some_iff.mp hx
    have hnn := hok n (List.mem_of_getElem? hn)
    have hsh := nameB_short hnn
    refine ⟨rfl, yes_go ?_⟩
    refine ⟨_, rfl, .str n, "str", rfl, .str n, by show n.length ≤ 1000; omega, fun H3 e3 => ?_⟩
    refine q_to (k1 rfl H3 e3) (congrArg V.bl ?_)
    exact hnn.symm
  · rw [kept_all] at h2
    have e3 : (List.range (ns.map V.str).length).map (fun _ => V.bl true) = ((List.range (ns.map V.str).length).map fun _ => true).map V.bl := by
      rw [List.map_map]
      rfl
    rw [e3] at h2
    refine ⟨D, _, rfl, .inl (.inl h2), true, ?_, ?_⟩
    · refine congrArg V.bl ?_
      rw [all_map_id]
      simp
    · have hq2 : Sq K b H2 a (ns.map V.str) := e2.sq hq1
      -- len(set(value)) == len(value)
      refine ⟨_, rfl, a, b, ns.map Sum.inr, rfl, ?_, nodup_map (fun _ _ => Sum.inr.inj) nd, by rw [List.length_map]; exact hz, fun p hp => ?_⟩
      · rw [List.map_map]
        exact hq2
      · have s3 : Same H2 (upd H2 p (SetK P w p (memB (ns.map Sum.inr)) (ns.map (Sum.inr : Str → Key)).length)) := Same.new hp
        refine ⟨p, _, _, rfl, upd_same, by rw [List.length_map]; exact hz, _, rfl, a, _, rfl, sq_or (s3.sq hq2), rfl, ?_⟩
        refine q_to (q _ ((e1.trans e2).trans s3)) (congrArg V.bl ?_)
        rw [List.length_map, List.length_map, decide_eq_true rfl]
end M

/-! text: P4 -/
set_option Elab.async false
set_option linter.all false
set_option maxRecDepth 100000
set_option maxHeartbeats 4000000
namespace M
open PySem PySem.Spec PyProof.Rows L2
/-! ### grammars as things; rows, costs -/
abbrev nv (n : Nat) : V := .int (n : Int)
/-- what the tabling asks of a grammar -/
structure Gm where
  cnt : Nat
  grp : Nat
  heads : List Nat
  parts : List (List Nat)
  rules : Nat
/-- a tuple or list at a of tuples of codes -/
def RowsAt (K : PySem.W.Frag) (H : Hp) (a : Addr) (ps : List (List Nat)) : Prop := ∃ as : List Addr, SqT K H a (as.map V.ref) ∧ as.length = ps.length ∧ ∀ (i : Nat) (b : Addr) (p : List Nat), as[i]? = some b → ps[i]? = some p → SqT K H b (p.map nv)
structure GrmO (K : PySem.W.Frag) (H : Hp) (a : Addr) (G : Gm) : Prop where
  ob : ∃ dx fs, H a = some (.ins (He.ga K "Grammar") dx fs) ∧
    (∃ t xs, fs.lookup ("tokens" : Str) = some (.ref t) ∧ SqT K H t xs ∧ xs.length = G.cnt) ∧ (∃ t xs, fs.lookup ("rules" : Str) = some (.ref t) ∧ SqT K H t xs ∧ xs.length = G.rules) ∧
    (∃ t xs, fs.lookup ("groups" : Str) = some (.ref t) ∧ SqT K H t xs ∧ xs.length = G.grp) ∧ (∃ t, fs.lookup ("heads" : Str) = some (.ref t) ∧ SqT K H t (G.heads.map nv)) ∧ (∃ t, fs.lookup ("parts" : Str) = some (.ref t) ∧ RowsAt K H t G.parts)
theorem RowsAt.same {K : PySem.W.Frag} {H H' : Hp} {a : Addr} {ps : List (List Nat)} (h : RowsAt K H a ps) (e : Same H H') : RowsAt K H' a ps := by
  obtain ⟨as, h1, h2, h3⟩ := h
  exact ⟨as, e.sqt h1, h2, fun i b p q1 q2 => e.sqt (h3 i b p q1 q2)⟩
theorem GrmO.same {K : PySem.W.Frag} {H H' : Hp} {a : Addr} {G : Gm} (h : GrmO K H a G) (e : Same H H') : GrmO K H' a G := by
  obtain ⟨dx, fs, h0, ⟨t1, x1, l1, q1, z1⟩, ⟨t2, x2, l2, q2, z2⟩, ⟨t3, x3, l3, q3, z3⟩, ⟨t4, l4, q4⟩, ⟨t5, l5, q5⟩⟩ := h.ob
  exact ⟨dx, fs, e _ _ h0, ⟨t1, x1, l1, e.sqt q1, z1⟩, ⟨t2, x2, l2, e.sqt q2, z2⟩, ⟨t3, x3, l3, e.sqt q3, z3⟩, ⟨t4, l4, e.sqt q4⟩, ⟨t5, l5, q5.same e⟩⟩
/-- a value that is_row may look at -/
def sp_is_row (K : PySem.W.Frag) : Sp := fun vs H Q _ => ∃ g x G, vs = [.ref g, x] ∧ GrmO K H g G ∧
  ((∃ t, TN H x t ∧ seqT t = false ∧ ∀ H', Same H H' → Q (.bl false) H') ∨
   ∃ a b xs, x = .ref a ∧ H a = some (seqO b xs) ∧ xs.length ≤ 1000 ∧ (∀ y ∈ xs, ∃ t, TN H y t) ∧ ∀ H', Same H H' → Q (.bl (xs.all (belowV G.cnt))) H')
theorem len_is_row {K : PySem.W.Frag} (vs : List V) (H : Hp) (Q : VK) (E : XK) (h : sp_is_row K vs H Q E) : vs.length = 2 := by
  obtain ⟨g, x, G, rfl, _⟩ := h
  rfl
abbrev N_is_row : List Str := ["grammar", "value", "count", "token"]
def t_is_row (K : PySem.W.Frag) (P : Program) (w : World) : TS :=
  (tSeq (tIfS (tNot (tB (tCl (sp_is_sequence K) (tCons (tVar 1) tNil)))) (tRet (tC (.bl false))) tNext)
    (tSeq (tAsg (tCB (rLenSeq K) (tCons (tF (He.ga K "Grammar") (tVar 0) "tokens") tNil)) (gName 2))
    (tRet (tCB (rAll K) (tCons (tLc (iSeq K (tVar 1)) (gName 3) tYes (tCl (sp_is_below K) (tCons (tVar 3) (tCons (tVar 2) tNil))) [3]) tNil)))))
theorem pure_is_row {K : PySem.W.Frag} {P : Program} {w : World} (vs : List V) (H : Hp) (Q : VK) (E : XK) (h : sp_is_row K vs H Q E) : t_is_row K P w { nx := fun _ H' => Q .non H', rt := Q } (start N_is_row vs) H := by
  obtain ⟨g, x, G, rfl, hg, h⟩ := h
  rcases h with ⟨t, ht, hs, q⟩ | ⟨a, b, xs, rfl, ha, hz, hy, q⟩
  · refine ⟨_, rfl, _, t, rfl, ht, fun H1 e1 => ⟨_, rfl, ?_⟩⟩
    rw [hs]
    exact q H1 e1
  · obtain ⟨t, ht, hst⟩ := seqO_tn ha
    refine ⟨_, rfl, _, t, rfl, ht, fun H1 e1 => ⟨_, rfl, ?_⟩⟩
    rw [hst]
    obtain ⟨dx, fs, h0, ⟨t1, x1, l1, q1, z1⟩, _⟩ := (hg.same e1).ob
    refine ⟨_, rfl, g, dx, fs, _, rfl, h0, l1, t1, x1, rfl, .inr q1, ?_⟩
    have hq1 : Sq K b H1 a xs := e1.sq (seqO_sq ha)
    refine ⟨_, rfl, a, b, _, rfl, hq1, fun D hD => lc_pure walk_sq (by omega) (fun _ => true) (fun i => .bl (belowV x1.length (xs.getD i .non))) hD (fun H' e' => e'.sq hq1) (fun i x Ha Hb hi e2 y => ?_) (fun H2 e2 h2 => ?_)⟩
    · obtain ⟨rfl, hx⟩ := y
      intro Q2 QF k1 k2
      obtain ⟨t2, ht2⟩ := hy x (List.mem_of_getElem? hx)
      refine ⟨rfl, yes_go ?_⟩
      refine ⟨_, rfl, _, rfl, x, t2, (x1.length : Int), rfl, (e1.trans e2).tn ht2, fun H3 e3 => ?_⟩
      refine q_to (k1 rfl H3 e3) (congrArg V.bl ?_)
      rw [List.getD_eq_getElem?_getD, hx]
      rfl
    · rw [kept_all] at h2
      have e3 : (List.range xs.length).map (fun i => V.bl (belowV x1.length (xs.getD i .non))) = (xs.map (belowV x1.length)).map V.bl := by
        rw [List.map_map]
        refine range_map xs _ _ fun i x hx => ?_
        rw [List.getD_eq_getElem?_getD, hx]
        rfl
      rw [e3] at h2
      refine ⟨D, _, rfl, .inl (.inl h2), ?_⟩
      refine q_to (q H2 (e1.trans e2)) (congrArg V.bl ?_)
      rw [all_map_id, z1]
/-- row_asked of a right row -/
def sp_row_asked (K : PySem.W.Frag) : Sp := fun vs H Q _ => ∃ g a b xs G, vs = [.ref g, .ref a] ∧ GrmO K H g G ∧ H a = some (seqO b xs) ∧ xs.length ≤ 1000 ∧ (∀ y ∈ xs, ∃ i : Nat, y = nv i ∧ i < G.cnt) ∧
  ∀ p H', Same H H' → SqT K H' p xs → Q (.ref p) H'
theorem len_row_asked {K : PySem.W.Frag} (vs : List V) (H : Hp) (Q : VK) (E : XK) (h : sp_row_asked K vs H Q E) : vs.length = 2 := by
  obtain ⟨g, a, b, xs, G, rfl, _⟩ := h
  rfl
abbrev N_row_asked : List Str := ["grammar", "row"]
def t_row_asked (K : PySem.W.Frag) (P : Program) (w : World) : TS :=
  (tSeq (tIfS (tNot (tB (tCl (sp_is_row K) (tCons (tVar 0) (tCons (tVar 1) tNil))))) tNever tNext)
    (tRet (tCB (rTupleOf K) (tCons (tVar 1) tNil))))
theorem pure_row_asked {K : PySem.W.Frag} {P : Program} {w : World} (vs : List V) (H : Hp) (Q : VK) (E : XK) (h : sp_row_asked K vs H Q E) : t_row_asked K P w { nx := fun _ H' => Q .non H', rt := Q } (start N_row_asked vs) H := by
  obtain ⟨g, a, b, xs, G, rfl, hg, ha, hz, hy, q⟩ := h
  refine ⟨_, rfl, _, rfl, g, .ref a, G, rfl, hg, .inr ⟨a, b, xs, rfl, ha, hz, fun y hm => ?_, fun H1 e1 => ⟨_, rfl, ?_⟩⟩⟩
  · obtain ⟨i, rfl, _⟩ := hy y hm
    exact ⟨_, .int _⟩
  · have e : xs.all (belowV G.cnt) = true := List.all_eq_true.mpr fun y hm => by
      obtain ⟨i, rfl, hi⟩ := hy y hm
      show (decide ((0 : Int) ≤ i) && decide ((i : Int) < G.cnt)) = true
      rw [decide_eq_true (by omega), decide_eq_true (by omega)]
      rfl
    rw [e]
    cases b with
    | true => exact ⟨_, rfl, a, xs, rfl, .inl ⟨.inl (.inl (e1 _ _ ha)), fun l hl => q l _ (e1.trans (Same.new hl)) (.inl (.inl upd_same))⟩⟩
    | false => exact ⟨_, rfl, a, xs, rfl, .inr ⟨.inl (.inl (e1 _ _ ha)), q a H1 e1 (.inl (.inl (e1 _ _ ha)))⟩⟩
/-! ### the cost of a stretch for a token -/
def costI (ns : List Nat) (a b : Nat) (t : Nat) : Int := if a = b then 1 else ((b : Int) - a - 1) + (if t ∈ (ns.drop a).take (b - a) then 0 else 1)
theorem inV_nat (t : Nat) (l : List Nat) : inV (nv t) (l.map nv) = decide (t ∈ l) := by
  unfold inV
  rw [List.any_map, Bool.eq_iff_iff, List.any_eq_true, decide_eq_true_eq]
  constructor
  · rintro ⟨x, hx, e⟩
    have e : ((x : Int) == (t : Int)) = true := e
    rw [beq_iff_eq] at e
    have : x = t := by omega
    exact this ▸ hx
  · intro h
    exact ⟨t, h, beq_self_eq_true (t : Int)⟩
theorem flat_nats (l : List Nat) : (l.map nv).all flatV = true := by
  rw [List.all_map]
  exact List.all_eq_true.mpr fun _ _ => rfl
theorem cut_nats (ns : List Nat) (a b : Nat) (h : a ≤ b) (hb : b ≤ ns.length) : cutV (ns.map nv) (some (a : Int)) (some (b : Int)) = ((ns.drop a).take (b - a)).map nv := by
  unfold cutV
  rw [List.length_map, HT.sIx_nat, HT.sIx_nat, List.map_take, List.map_drop, Nat.min_eq_left (show a ≤ ns.length by omega), Nat.min_eq_left hb]
def sp_stretch_cost (K : PySem.W.Frag) : Sp := fun vs H Q _ => ∃ r b ns, ∃ x y t : Nat, vs = [.ref r, nv x, nv y, nv t] ∧ Sq K b H r (ns.map nv) ∧ x ≤ y ∧ y ≤ ns.length ∧ ∀ H', Same H H' → Q (.int (costI ns x y t)) H'
theorem len_stretch_cost {K : PySem.W.Frag} (vs : List V) (H : Hp) (Q : VK) (E : XK) (h : sp_stretch_cost K vs H Q E) : vs.length = 4 := by
  obtain ⟨r, b, ns, x, y, t, rfl, _⟩ := h
  rfl
abbrev N_stretch_cost : List Str := ["row", "start", "end", "token", "others"]
def t_stretch_cost (K : PySem.W.Frag) (P : Program) (w : World) : TS :=
  (tSeq (tIfS (tTest (tOp rEq (tVar 1) (tVar 2))) (tRet (tC (.int 1))) tNext)
    (tSeq (tAsg (tOp rSubI (tOp rSubI (tVar 2) (tVar 1)) (tC (.int 1))) (gName 4))
    (tRet (tIf (tTest (tOp (rIn K false) (tVar 3) (tSl (rSlB K) (tVar 0) (tPart (tVar 1)) (tPart (tVar 2))))) (tVar 4) (tOp rAddI (tVar 4) (tC (.int 1)))))))
theorem pure_stretch_cost {K : PySem.W.Frag} {P : Program} {w : World} (vs : List V) (H : Hp) (Q : VK) (E : XK) (h : sp_stretch_cost K vs H Q E) : t_stretch_cost K P w { nx := fun _ H' => Q .non H', rt := Q } (start N_stretch_cost vs) H := by
  obtain ⟨r, b, ns, x, y, t, rfl, hr, hxy, hy, q⟩ := h
  refine ⟨_, rfl, _, rfl, rfl, _, rfl, ?_⟩
  by_cases e : x = y
  · subst e
    rw [decide_eq_true rfl]
    have := q H (Same.refl H)
    unfold costI at this
    rw [if_pos rfl] at this
    exact this
  · rw [decide_eq_false (fun z => e (by have z2 := V.int.inj z; omega))]
    refine ⟨_, rfl, _, rfl, _, _, rfl, rfl, _, _, rfl, rfl, ?_⟩
    refine ⟨_, rfl, _, rfl, _, rfl, _, rfl, _, rfl, _, rfl, ?_⟩
    refine ⟨r, b, _, rfl, hr, fun p b' H1 e1 hp => ?_⟩
    rw [cut_nats ns x y hxy hy] at hp
    refine ⟨p, _, rfl, sq_or hp, rfl, flat_nats _, _, rfl, ?_⟩
    have hc := q H1 e1
    unfold costI at hc
    rw [if_neg e] at hc
    simp only [Bool.false_eq_true, if_false, inV_nat]
    by_cases m : t ∈ (ns.drop x).take (y - x)
    · rw [if_pos m] at hc
      rw [decide_eq_true m]
      exact ⟨_, rfl, q_to hc (congrArg V.int (by omega))⟩
    · rw [if_neg m] at hc
      rw [decide_eq_false m]
      exact ⟨_, rfl, _, _, rfl, rfl, hc⟩
def sp_token_changes (K : PySem.W.Frag) : Sp := fun vs H Q _ => ∃ r b ns, ∃ t : Nat, vs = [.ref r, nv t] ∧ Sq K b H r (ns.map nv) ∧ ∀ H', Same H H' → Q (.int (costI ns 0 ns.length t)) H'
theorem len_token_changes {K : PySem.W.Frag} (vs : List V) (H : Hp) (Q : VK) (E : XK) (h : sp_token_changes K vs H Q E) : vs.length = 2 := by
  obtain ⟨r, b, ns, t, rfl, _⟩ := h
  rfl
abbrev N_token_changes : List Str := ["row", "token"]
def t_token_changes (K : PySem.W.Frag) (P : Program) (w : World) : TS :=
  (tRet (tCl (sp_stretch_cost K) (tCons (tVar 0) (tCons (tC (.int 0)) (tCons (tCB (rLenSeq K) (tCons (tVar 0) tNil)) (tCons (tVar 1) tNil))))))
theorem pure_token_changes {K : PySem.W.Frag} {P : Program} {w : World} (vs : List V) (H : Hp) (Q : VK) (E : XK) (h : sp_token_changes K vs H Q E) : t_token_changes K P w { nx := fun _ H' => Q .non H', rt := Q } (start N_token_changes vs) H := by
  obtain ⟨r, b, ns, t, rfl, hr, q⟩ := h
  refine ⟨_, rfl, _, rfl, r, _, rfl, sq_or hr, _, rfl, r, b, ns, 0, ns.length, t, ?_, hr, Nat.zero_le _, Nat.le_refl _, q⟩
  rw [List.length_map]
  rfl
end M

/-! text: P5 -/
set_option Elab.async false
set_option linter.all false
set_option maxRecDepth 100000
set_option maxHeartbeats 4000000
namespace M
open PySem PySem.Spec PyProof.Rows L2
/-! ### numbers that may be None -/
def optV : Option Int → V
  | none => .non
  | some i => .int i
def oadd : Option Int → Option Int → Option Int
  | some a, some b => some (a + b)
  | _, _ => none
def ominI : List Int → Option Int
  | [] => none
  | n :: r => some (r.foldl min n)
def omin (os : List (Option Int)) : Option Int := ominI (os.filterMap id)
theorem lowV_omin (ns : List Int) : lowV ns = optV (ominI ns) := by cases ns <;> rfl
def sp_added (K : PySem.W.Frag) : Sp := fun vs H Q _ => ∃ a b, vs = [optV a, optV b] ∧ Q (optV (oadd a b)) H
theorem len_added {K : PySem.W.Frag} (vs : List V) (H : Hp) (Q : VK) (E : XK) (h : sp_added K vs H Q E) : vs.length = 2 := by
  obtain ⟨a, b, rfl, _⟩ := h
  rfl
abbrev N_added : List Str := ["one", "other"]
def t_added (K : PySem.W.Frag) (P : Program) (w : World) : TS :=
  (tRet (tIf (tOr (tTest (tOp rIsNon (tVar 0) (tC .non))) (tTest (tOp rIsNon (tVar 1) (tC .non)))) (tC .non) (tOp rAddI (tVar 0) (tVar 1))))
theorem pure_added {K : PySem.W.Frag} {P : Program} {w : World} (vs : List V) (H : Hp) (Q : VK) (E : XK) (h : sp_added K vs H Q E) : t_added K P w { nx := fun _ H' => Q .non H', rt := Q } (start N_added vs) H := by
  obtain ⟨a, b, rfl, q⟩ := h
  cases a with
  | none => exact ⟨_, rfl, rfl, _, rfl, q⟩
  | some i =>
    cases b with
    | none => exact ⟨_, rfl, rfl, _, rfl, _, rfl, rfl, _, rfl, q⟩
    | some j => exact ⟨_, rfl, rfl, _, rfl, _, rfl, rfl, _, rfl, _, rfl, _, rfl, _, _, rfl, rfl, q⟩
theorem kept_opts (os : List (Option Int)) : kept os.length (fun i => (os.getD i none).isSome) (fun i => optV (os.getD i none)) = (os.filterMap id).map V.int := by
  have key : ∀ n, n ≤ os.length → kept n (fun i => (os.getD i none).isSome) (fun i => optV (os.getD i none)) = ((os.take n).filterMap id).map V.int := by
    intro n
    induction n with
    | zero => intro _; rfl
    | succ n ih =>
      intro hn
      have hx : os[n]? = some os[n] := List.getElem?_eq_getElem hn
      have hd : os.getD n none = os[n] := by rw [List.getD_eq_getElem?_getD, hx]; rfl
      rw [List.take_succ, hx, List.filterMap_append, List.map_append]
      cases e : os[n] with
      | none =>
        rw [kept_no (by rw [hd, e]; rfl), ih (by omega)]
        simp
      | some i =>
        rw [kept_yes (by rw [hd, e]; rfl), ih (by omega), hd, e]
        rfl
  have := key os.length (Nat.le_refl _)
  rwa [List.take_length] at this
def sp_lowest (K : PySem.W.Frag) : Sp := fun vs H Q _ => ∃ l os, vs = [.ref l] ∧ Sq K true H l (os.map optV) ∧ os.length ≤ 1000 ∧ ∀ H', Same H H' → Q (optV (omin os)) H'
theorem len_lowest {K : PySem.W.Frag} (vs : List V) (H : Hp) (Q : VK) (E : XK) (h : sp_lowest K vs H Q E) : vs.length = 1 := by
  obtain ⟨l, os, rfl, _⟩ := h
  rfl
abbrev N_lowest : List Str := ["numbers", "number"]
def t_lowest (K : PySem.W.Frag) (P : Program) (w : World) : TS :=
  (tRet (tCKw (rMinD K) (tCons (tLc (iSeq K (tVar 0)) (gName 1) (tTest (tOp rNotNon (tVar 1) (tC .non))) (tVar 1) [1]) tNil) (tCons (tC .non) tNil)))
theorem pure_lowest {K : PySem.W.Frag} {P : Program} {w : World} (vs : List V) (H : Hp) (Q : VK) (E : XK) (h : sp_lowest K vs H Q E) : t_lowest K P w { nx := fun _ H' => Q .non H', rt := Q } (start N_lowest vs) H := by
  obtain ⟨l, os, rfl, hl, hz, q⟩ := h
  refine ⟨_, rfl, l, true, _, rfl, hl, fun D hD => lc_pure walk_sq (by rw [List.length_map]; omega) (fun i => (os.getD i none).isSome) (fun i => optV (os.getD i none)) hD (fun H' e' => e'.sq hl) (fun i x Ha Hb hi e2 y => ?_) (fun H2 e2 h2 => ?_)⟩
  · obtain ⟨rfl, hx⟩ := y
    intro Q2 QF k1 k2
    rw [List.getElem?_map] at hx
    obtain ⟨o, ho, rfl⟩ := Option.map_eq_some_iff.mp hx
    have hd : os.getD i none = o := by rw [List.getD_eq_getElem?_getD, ho]; rfl
    refine ⟨rfl, ?_⟩
    cases o with
    | none => exact ⟨_, rfl, rfl, _, rfl, k2 (by simp only [hd]; rfl) Hb (Same.refl Hb)⟩
    | some j =>
      have := k1 (by simp only [hd]; rfl) Hb (Same.refl Hb)
      simp only [hd] at this
      exact ⟨_, rfl, rfl, _, rfl, _, rfl, this⟩
  · rw [List.length_map, kept_opts] at h2
    refine ⟨D, _, rfl, rfl, .inl (.inl h2), ?_⟩
    rw [lowV_omin]
    exact q H2 e2
end M

/-! text: P6 -/
set_option Elab.async false
set_option linter.all false
set_option maxRecDepth 100000
set_option maxHeartbeats 4000000
namespace M
open PySem PySem.Spec PyProof.Rows L2
/-! ### the tabling: plain notions -/
abbrev NF := Nat → Nat → Nat → Option Int
abbrev PF := Nat → Nat → Nat → Option Int
def priceF (c : Nat) (ns : List Nat) (N : NF) : PF := fun code a b => if code < c then some (costI ns a b code) else N (code - c) a b
/-- o is the least of P's numbers -/
def Low (o : Option Int) (P : Int → Prop) : Prop := match o with
  | none => ∀ v, ¬ P v
  | some m => P m ∧ ∀ v, P v → m ≤ v
theorem Low.uniq {o o' : Option Int} {P : Int → Prop} (h : Low o P) (h' : Low o' P) : o = o' := by
  cases o with
  | none =>
    cases o' with
    | none => rfl
    | some m => exact absurd h'.1 (h m)
  | some m =>
    cases o' with
    | none => exact absurd h.1 (h' m)
    | some m' =>
      have h1 := h.2 _ h'.1
      have h2 := h'.2 _ h.1
      exact congrArg some (by omega)
theorem Low.congr {o : Option Int} {P P' : Int → Prop} (h : Low o P) (e : ∀ v, P v ↔ P' v) : Low o P' := by
  have : P = P' := funext fun v => propext (e v)
  exact this ▸ h
theorem low_none {P : Int → Prop} (h : ∀ v, ¬ P v) : Low none P := h
/-- the sums of the first d parts over a to c -/
def SumP (pr : PF) (ps : List Nat) : Nat → Nat → Nat → Int → Prop
  | 0, a, c, v => a = c ∧ v = 0
  | d + 1, a, c, v => ∃ x u w, a ≤ x ∧ x ≤ c ∧ SumP pr ps d a x u ∧ (∃ code, ps[d]? = some code ∧ pr code x c = some w) ∧ v = u + w
def RuleP (pr : PF) (ps : List Nat) (a b : Nat) (v : Int) : Prop := if ps = [] then v = (b : Int) - a else SumP pr ps ps.length a b v
/-- the sums by one cut x -/
def CutP (pr : PF) (ps : List Nat) (d a b x : Nat) (v : Int) : Prop := ∃ u w, SumP pr ps d a x u ∧ (∃ code, ps[d]? = some code ∧ pr code x b = some w) ∧ v = u + w
theorem low_cut {pr : PF} {ps : List Nat} {d a b x : Nat} {o : Option Int} {code : Nat} (h : Low o (SumP pr ps d a x)) (hc : ps[d]? = some code) : Low (oadd o (pr code x b)) (CutP pr ps d a b x) := by
  cases o with
  | none =>
    rintro v ⟨u, w, h1, _⟩
    exact h u h1
  | some m =>
    cases e : pr code x b with
    | none =>
      rintro v ⟨u, w, h1, ⟨c2, h2, h3⟩, _⟩
      rw [hc] at h2
      cases h2
      rw [e] at h3
      cases h3
    | some z =>
      refine ⟨⟨m, z, h.1, ⟨code, hc, e⟩, rfl⟩, ?_⟩
      rintro v ⟨u, w, h1, ⟨c2, h2, h3⟩, rfl⟩
      rw [hc] at h2
      cases h2
      rw [e] at h3
      cases h3
      have := h.2 u h1
      omega
/-- the least of the lows is the low of all -/
theorem foldl_min (l : List Int) : ∀ (n : Int), (l.foldl min n = n ∨ l.foldl min n ∈ l) ∧ l.foldl min n ≤ n ∧ ∀ x ∈ l, l.foldl min n ≤ x := by
  induction l with
  | nil => intro n; exact ⟨.inl rfl, Int.le_refl _, fun x h => nomatch h⟩
  | cons y r ih =>
    intro n
    obtain ⟨h1, h2, h3⟩ := ih (min n y)
    show (r.foldl min (min n y) = n ∨ r.foldl min (min n y) ∈ y :: r) ∧ r.foldl min (min n y) ≤ n ∧ ∀ x ∈ y :: r, r.foldl min (min n y) ≤ x
    refine ⟨?_, ?_, fun x hx => ?_⟩
    · rcases h1 with h1 | h1
      · rcases Int.le_total n y with z | z
        · rw [Int.min_eq_left z] at h1 ⊢
          exact .inl h1
        · rw [Int.min_eq_right z] at h1 ⊢
          rw [h1]
          exact .inr List.mem_cons_self
      · exact .inr (List.mem_cons_of_mem _ h1)
    · omega
    · rcases List.mem_cons.mp hx with rfl | hx
      · omega
      · exact h3 x hx
theorem low_omin {os : List (Option Int)} {Ps : List (Int → Prop)} (hl : os.length = Ps.length) (h : ∀ (i : Nat) (o : Option Int) (p : Int → Prop), os[i]? = some o → Ps[i]? = some p → Low o p) : Low (omin os) (fun v => ∃ p ∈ Ps, p v) := by
  have mem : ∀ m, m ∈ os.filterMap id ↔ ∃ i, os[i]? = some (some m) := fun m => by
    rw [List.mem_filterMap]
    constructor
    · rintro ⟨o, ho, e⟩
      obtain ⟨i, hi⟩ := List.mem_iff_getElem?.mp ho
      exact ⟨i, by rw [hi]; exact congrArg some e⟩
    · rintro ⟨i, hi⟩
      exact ⟨some m, List.mem_of_getElem? hi, rfl⟩
  have le : ∀ v p, p ∈ Ps → p v → ∃ m, m ∈ os.filterMap id ∧ m ≤ v := fun v p hp hv => by
    obtain ⟨i, hi⟩ := List.mem_iff_getElem?.mp hp
    have hlt : i < os.length := by rw [hl]; exact (List.getElem?_eq_some_iff.mp hi).1
    have ho : os[i]? = some os[i] := List.getElem?_eq_getElem hlt
    have q := h i _ p ho hi
    cases e : os[i] with
    | none =>
      rw [e] at q
      exact absurd hv (q v)
    | some m =>
      rw [e] at q ho
      exact ⟨m, (mem m).mpr ⟨i, ho⟩, q.2 v hv⟩
  have wit : ∀ m, m ∈ os.filterMap id → ∃ p ∈ Ps, p m := fun m hm => by
    obtain ⟨i, hi⟩ := (mem m).mp hm
    have hlt : i < Ps.length := by rw [← hl]; exact (List.getElem?_eq_some_iff.mp hi).1
    have hp : Ps[i]? = some Ps[i] := List.getElem?_eq_getElem hlt
    exact ⟨Ps[i], List.getElem_mem hlt, (h i _ _ hi hp).1⟩
  unfold omin
  generalize os.filterMap id = l at le wit
  cases l with
  | nil =>
    rintro v ⟨p, hp, hv⟩
    obtain ⟨m, hm, _⟩ := le v p hp hv
    cases hm
  | cons n r =>
    obtain ⟨h1, h2, h3⟩ := foldl_min r n
    refine ⟨?_, fun v hv => ?_⟩
    · rcases h1 with h1 | h1
      · rw [h1]
        exact wit n List.mem_cons_self
      · exact wit _ (List.mem_cons_of_mem _ h1)
    · obtain ⟨p, hp, hv⟩ := hv
      obtain ⟨m, hm, hmv⟩ := le v p hp hv
      rcases List.mem_cons.mp hm with rfl | hm
      · omega
      · have := h3 m hm
        omega
/-! ### keys -/
def k3 (g a b : Nat) : List Key := [.inl (g : Int), .inl (a : Int), .inl (b : Int)]
def k4 (r d a c : Nat) : List Key := [.inl (r : Int), .inl (d : Int), .inl (a : Int), .inl (c : Int)]
theorem k3_inj {g a b g' a' b' : Nat} (h : k3 g a b = k3 g' a' b') : g = g' ∧ a = a' ∧ b = b' := by
  simp only [k3, List.cons.injEq, Sum.inl.injEq, and_true] at h
  omega
theorem k4_inj {g d a b g' d' a' b' : Nat} (h : k4 g d a b = k4 g' d' a' b') : g = g' ∧ d = d' ∧ a = a' ∧ b = b' := by
  simp only [k4, List.cons.injEq, Sum.inl.injEq, and_true] at h
  omega
theorem nodup_bound : ∀ (B : Nat) (l : List Nat), l.Nodup → (∀ x ∈ l, x < B) → l.length ≤ B
  | 0, l, _, h => by
    cases l with
    | nil => exact Nat.le_refl _
    | cons x r => exact absurd (h x List.mem_cons_self) (Nat.not_lt_zero _)
  | B + 1, l, nd, h => by
    have h1 := nodup_bound B (l.erase B) (nd.erase B) fun x hx => by
      have := (nd.mem_erase_iff).mp hx
      have h2 := h x this.2
      have h3 := this.1
      omega
    by_cases m : B ∈ l
    · have := List.length_erase_of_mem m
      omega
    · rw [List.erase_of_not_mem m] at h1
      omega
/-- the keys of a dict: each once, each such that I -/
structure Box (I : List Key → Prop) (kvs : List (List Key × V)) : Prop where
  nd : (kvs.map (·.1)).Nodup
  bd : ∀ k ∈ kvs.map (·.1), I k
def I3 (k : List Key) : Prop := ∃ g a b, k = k3 g a b ∧ g < 64 ∧ a < 32 ∧ b < 32
def I4 (k : List Key) : Prop := ∃ r d a c, k = k4 r d a c ∧ r < 64 ∧ d < 64 ∧ a < 32 ∧ c < 32
def natK : Key → Nat
  | .inl i => i.toNat
  | _ => 0
def e3 : List Key → Nat
  | [g, a, b] => (natK g * 32 + natK a) * 32 + natK b
  | _ => 0
def e4 : List Key → Nat
  | [r, d, a, c] => ((natK r * 64 + natK d) * 32 + natK a) * 32 + natK c
  | _ => 0
theorem e3_k (g a b : Nat) : e3 (k3 g a b) = (g * 32 + a) * 32 + b := rfl
theorem e4_k (r d a c : Nat) : e4 (k4 r d a c) = ((r * 64 + d) * 32 + a) * 32 + c := rfl
theorem nodup_map_on {α β : Type} {f : α → β} : ∀ {l : List α}, (∀ x ∈ l, ∀ y ∈ l, f x = f y → x = y) → l.Nodup → (l.map f).Nodup
  | [], _, _ => List.nodup_nil
  | x :: r, hf, h => by
    obtain ⟨h1, h2⟩ := List.nodup_cons.mp h
    refine List.nodup_cons.mpr ⟨fun m => ?_, nodup_map_on (fun a ha b hb => hf a (List.mem_cons_of_mem _ ha) b (List.mem_cons_of_mem _ hb)) h2⟩
    obtain ⟨y, hy, e⟩ := List.mem_map.mp m
    exact h1 (hf y (List.mem_cons_of_mem _ hy) x List.mem_cons_self e ▸ hy)
theorem Box.len3 {kvs : List (List Key × V)} (h : Box I3 kvs) : kvs.length ≤ 65536 := by
  have nd : ((kvs.map (·.1)).map e3).Nodup := nodup_map_on (fun x hx y hy e => by
    obtain ⟨g, a, b, rfl, h1, h2, h3⟩ := h.bd x hx
    obtain ⟨g', a', b', rfl, h1', h2', h3'⟩ := h.bd y hy
    rw [e3_k, e3_k] at e
    have e1 : b = b' := by omega
    have e2 : a = a' := by omega
    have e3 : g = g' := by omega
    rw [e1, e2, e3]) h.nd
  have := nodup_bound 65536 _ nd fun x hx => by
    obtain ⟨k, hk, rfl⟩ := List.mem_map.mp hx
    obtain ⟨g, a, b, rfl, h1, h2, h3⟩ := h.bd k hk
    rw [e3_k]
    omega
  rwa [List.length_map, List.length_map] at this
theorem Box.len4 {kvs : List (List Key × V)} (h : Box I4 kvs) : kvs.length ≤ 4194304 := by
  have nd : ((kvs.map (·.1)).map e4).Nodup := nodup_map_on (fun x hx y hy e => by
    obtain ⟨r, d, a, b, rfl, h0, h1, h2, h3⟩ := h.bd x hx
    obtain ⟨r', d', a', b', rfl, h0', h1', h2', h3'⟩ := h.bd y hy
    rw [e4_k, e4_k] at e
    have e1 : b = b' := by omega
    have e2 : a = a' := by omega
    have e3 : d = d' := by omega
    have e4 : r = r' := by omega
    rw [e1, e2, e3, e4]) h.nd
  have := nodup_bound 4194304 _ nd fun x hx => by
    obtain ⟨k, hk, rfl⟩ := List.mem_map.mp hx
    obtain ⟨r, d, a, b, rfl, h0, h1, h2, h3⟩ := h.bd k hk
    rw [e4_k]
    omega
  rwa [List.length_map, List.length_map] at this
theorem keys_put (kvs : List (List Key × V)) (k : List Key) (v : V) : (k ∈ kvs.map (·.1) → (putK kvs k v).map (·.1) = kvs.map (·.1)) ∧ (k ∉ kvs.map (·.1) → (putK kvs k v).map (·.1) = kvs.map (·.1) ++ [k]) := by
  unfold putK
  have e : (kvs.any fun kv => decide (kv.1 = k)) = true ↔ k ∈ kvs.map (·.1) := by
    rw [List.any_eq_true, List.mem_map]
    exact ⟨fun ⟨x, h1, h2⟩ => ⟨x, h1, of_decide_eq_true h2⟩, fun ⟨x, h1, h2⟩ => ⟨x, h1, decide_eq_true h2⟩⟩
  constructor
  · intro h
    rw [if_pos (e.mpr h), List.map_map]
    refine List.map_congr_left fun x _ => ?_
    show (if x.1 = k then (x.1, v) else x).1 = x.1
    split <;> rfl
  · intro h
    rw [if_neg (fun z => h (e.mp z)), List.map_append]
    rfl
theorem Box.put {I : List Key → Prop} {kvs : List (List Key × V)} (h : Box I kvs) {k : List Key} {v : V} (hk : I k) : Box I (putK kvs k v) := by
  have ⟨h1, h2⟩ := keys_put kvs k v
  by_cases m : k ∈ kvs.map (·.1)
  · exact ⟨(h1 m).symm ▸ h.nd, (h1 m).symm ▸ h.bd⟩
  · refine ⟨(h2 m).symm ▸ List.nodup_append.mpr ⟨h.nd, by simp, ?_⟩, (h2 m).symm ▸ fun k' hk' => ?_⟩
    · intro x hx y hy
      have hy : y = k := by simpa using hy
      exact fun z => m (hy ▸ z ▸ hx)
    · rcases List.mem_append.mp hk' with z | z
      · exact h.bd k' z
      · rw [List.mem_singleton.mp z]
        exact hk
theorem Box.nil {I : List Key → Prop} : Box I [] := ⟨List.nodup_nil, fun _ h => nomatch h⟩
end M

/-! text: P7 -/
set_option Elab.async false
set_option linter.all false
set_option maxRecDepth 100000
set_option maxHeartbeats 4000000
namespace M
open PySem PySem.Spec PyProof.Rows L2
/-! ### the tabling as a thing -/
structure TS0 where
  s : Addr
  dx : Addr
  g : Addr
  r : Addr
  pp : Addr
  dxp : Addr
  dn : Addr
  ds : Addr
  G : Gm
  ns : List Nat
  H0 : Hp
def tabF (T : TS0) (m : Int) : List (Str × V) := [("grammar", .ref T.g), ("row", .ref T.r), ("numbers", .ref T.dn), ("prices", .ref T.pp), ("sums", .ref T.ds), ("made", .int m)]
def priF (cnt : Nat) (r dn : Addr) : List (Str × V) := [("count", nv cnt), ("row", .ref r), ("numbers", .ref dn)]
abbrev NKvs := List (List Key × V)
structure Tb (K : PySem.W.Frag) (T : TS0) (H : Hp) (N S : NKvs) (m : Int) : Prop where
  base : Same T.H0 H
  f1 : T.H0 T.s = none
  f2 : T.H0 T.dn = none
  f3 : T.H0 T.ds = none
  grm : GrmO K T.H0 T.g T.G
  row : SqT K T.H0 T.r (T.ns.map nv)
  ob : H T.s = some (.ins (He.ga K "Tabling") T.dx (tabF T m))
  po : H T.pp = some (.ins (He.ga K "Prices") T.dxp (priF T.G.cnt T.r T.dn))
  hn : H T.dn = some (.dT N)
  hs : H T.ds = some (.dT S)
  ne : T.dn ≠ T.ds
  nb : Box I3 N
  sb : Box I4 S
  bg : T.G.heads.length ≤ 64 ∧ T.ns.length < 32 ∧ (∀ ps ∈ T.G.parts, ps.length < 64) ∧ T.G.grp ≤ 64 ∧ T.G.rules ≤ 64 ∧ (∀ h ∈ T.G.heads, h < T.G.grp) ∧ T.G.rules = T.G.heads.length ∧ T.G.rules ≤ T.G.parts.length
section
variable {K : PySem.W.Frag} {T : TS0} {H H' : Hp} {N S : NKvs} {m : Int}
theorem Tb.same (t : Tb K T H N S m) (e : Same H H') : Tb K T H' N S m :=
  { t with base := t.base.trans e, ob := e _ _ t.ob, po := e _ _ t.po, hn := e _ _ t.hn, hs := e _ _ t.hs }
theorem Tb.s_dn (t : Tb K T H N S m) : T.s ≠ T.dn := ne_of t.ob t.hn fun z => nomatch z
theorem Tb.s_ds (t : Tb K T H N S m) : T.s ≠ T.ds := ne_of t.ob t.hs fun z => nomatch z
theorem Tb.p_dn (t : Tb K T H N S m) : T.pp ≠ T.dn := ne_of t.po t.hn fun z => nomatch z
theorem Tb.p_ds (t : Tb K T H N S m) : T.pp ≠ T.ds := ne_of t.po t.hs fun z => nomatch z
theorem Tb.p_s (t : Tb K T H N S m) : T.pp ≠ T.s := ne_of t.po t.ob fun z => by
  injection z with z1 z2 z3
  exact absurd z3 (by
    intro q
    have := congrArg List.length q
    exact absurd (show (3 : Nat) = 6 from this) (by decide))
theorem Tb.putS (t : Tb K T H N S m) {k : List Key} {v : V} (hk : I4 k) : Tb K T (upd H T.ds (.dT (putK S k v))) N (putK S k v) m :=
  { t with
    base := Same.mut t.base t.f3
    ob := by rw [upd_ne t.s_ds]; exact t.ob
    po := by rw [upd_ne t.p_ds]; exact t.po
    hn := by rw [upd_ne t.ne]; exact t.hn
    hs := upd_same
    sb := t.sb.put hk }
theorem Tb.putN (t : Tb K T H N S m) {k : List Key} {v : V} (hk : I3 k) : Tb K T (upd H T.dn (.dT (putK N k v))) (putK N k v) S m :=
  { t with
    base := Same.mut t.base t.f2
    ob := by rw [upd_ne t.s_dn]; exact t.ob
    po := by rw [upd_ne t.p_dn]; exact t.po
    hn := upd_same
    hs := by rw [upd_ne (Ne.symm t.ne)]; exact t.hs
    nb := t.nb.put hk }
theorem Tb.setM (t : Tb K T H N S m) {m' : Int} : Tb K T (upd H T.s (.ins (He.ga K "Tabling") T.dx (tabF T m'))) N S m' :=
  { t with
    base := Same.mut t.base t.f1
    ob := upd_same
    po := by rw [upd_ne t.p_s]; exact t.po
    hn := by rw [upd_ne (Ne.symm t.s_dn)]; exact t.hn
    hs := by rw [upd_ne (Ne.symm t.s_ds)]; exact t.hs }
end
/-- all but the tabling's three things stays -/
abbrev Stay (T : TS0) (H H' : Hp) : Prop := But [T.s, T.dn, T.ds] H H'
theorem Stay.of {T : TS0} {H H' : Hp} (e : Same H H') : Stay T H H' := But.of e
/-! ### prices -/
def sp_Prices_init (K : PySem.W.Frag) : Sp := fun vs H Q _ => ∃ p dx g r dn G, vs = [.ref p, .ref g, .ref r, .ref dn] ∧ GrmO K H g G ∧ g ≠ p ∧ H p = some (.ins (He.ga K "Prices") dx []) ∧ Q .non (upd H p (.ins (He.ga K "Prices") dx (priF G.cnt r dn)))
theorem len_Prices_init {K : PySem.W.Frag} (vs : List V) (H : Hp) (Q : VK) (E : XK) (h : sp_Prices_init K vs H Q E) : vs.length = 4 := by
  obtain ⟨p, dx, g, r, dn, G, rfl, _⟩ := h
  rfl
abbrev N_Prices_init : List Str := ["self", "grammar", "row", "numbers"]
def t_Prices_init (K : PySem.W.Frag) (P : Program) (w : World) : TS :=
  (tSeq (sF (He.ga K "Prices") (tVar 0) (tCB (rLenSeq K) (tCons (tF (He.ga K "Grammar") (tVar 1) "tokens") tNil)) "count")
    (tSeq (sF (He.ga K "Prices") (tVar 0) (tVar 2) "row")
    (sF (He.ga K "Prices") (tVar 0) (tVar 3) "numbers")))
theorem pure_Prices_init {K : PySem.W.Frag} {P : Program} {w : World} (vs : List V) (H : Hp) (Q : VK) (E : XK) (h : sp_Prices_init K vs H Q E) : t_Prices_init K P w { nx := fun _ H' => Q .non H', rt := Q } (start N_Prices_init vs) H := by
  obtain ⟨p, dx, g, r, dn, G, rfl, hg, ne, hp, q⟩ := h
  obtain ⟨dx2, fs, h0, ⟨t1, x1, l1, q1, z1⟩, _⟩ := hg.ob
  refine ⟨_, rfl, g, dx2, fs, _, rfl, h0, l1, t1, x1, rfl, .inr q1, ?_⟩
  refine ⟨_, rfl, p, dx, _, rfl, hp, by decide, ?_⟩
  refine ⟨_, rfl, _, rfl, p, dx, _, rfl, upd_same, (show 1 < 1000 by decide), ?_⟩
  refine ⟨_, rfl, _, rfl, p, dx, _, rfl, upd_same, (show 2 < 1000 by decide), ?_⟩
  rw [upd_upd, upd_upd, z1]
  exact q
def sp_Prices_price (K : PySem.W.Frag) : Sp := fun vs H Q _ => ∃ (p dxp r dn : Addr) (cnt : Nat) (ns : List Nat) (code a b : Nat) (o : Option Int), vs = [.ref p, nv code, nv a, nv b] ∧ H p = some (.ins (He.ga K "Prices") dxp (priF cnt r dn)) ∧
  SqT K H r (ns.map nv) ∧ a ≤ b ∧ b ≤ ns.length ∧ (code < cnt → o = some (costI ns a b code)) ∧ (cnt ≤ code → ∃ N, H dn = some (.dT N) ∧ (valV N (k3 (code - cnt) a b)).getD .non = optV o) ∧ ∀ H', Same H H' → Q (optV o) H'
theorem len_Prices_price {K : PySem.W.Frag} (vs : List V) (H : Hp) (Q : VK) (E : XK) (h : sp_Prices_price K vs H Q E) : vs.length = 4 := by
  obtain ⟨p, dxp, r, dn, cnt, ns, code, a, b, o, rfl, _⟩ := h
  rfl
abbrev N_Prices_price : List Str := ["self", "code", "start", "end"]
def t_Prices_price (K : PySem.W.Frag) (P : Program) (w : World) : TS :=
  (tSeq (tIfS (tTest (tOp rLtI (tVar 1) (tF (He.ga K "Prices") (tVar 0) "count"))) (tRet (tCl (sp_stretch_cost K) (tCons (tF (He.ga K "Prices") (tVar 0) "row") (tCons (tVar 2) (tCons (tVar 3) (tCons (tVar 1) tNil)))))) tNext)
    (tRet (tDGet1 (tF (He.ga K "Prices") (tVar 0) "numbers") (tTup (tCons (tOp rSubI (tVar 1) (tF (He.ga K "Prices") (tVar 0) "count")) (tCons (tVar 2) (tCons (tVar 3) tNil)))))))
theorem pure_Prices_price {K : PySem.W.Frag} {P : Program} {w : World} (vs : List V) (H : Hp) (Q : VK) (E : XK) (h : sp_Prices_price K vs H Q E) : t_Prices_price K P w { nx := fun _ H' => Q .non H', rt := Q } (start N_Prices_price vs) H := by
  obtain ⟨p, dxp, r, dn, cnt, ns, code, a, b, o, rfl, hp, hr, hab, hb, h1, h2, q⟩ := h
  refine ⟨_, rfl, _, rfl, p, dxp, _, nv cnt, rfl, hp, rfl, _, _, rfl, rfl, _, rfl, ?_⟩
  by_cases c : code < cnt
  · rw [decide_eq_true (show (code : Int) < cnt by omega)]
    refine ⟨_, rfl, p, dxp, _, .ref r, rfl, hp, rfl, _, rfl, _, rfl, _, rfl, r, false, ns, a, b, code, rfl, hr, hab, hb, fun H' e' => ?_⟩
    rw [h1 c] at q
    exact q H' e'
  · rw [decide_eq_false (show ¬ (code : Int) < cnt by omega)]
    obtain ⟨N, hn, hv⟩ := h2 (by omega)
    refine ⟨_, rfl, p, dxp, _, .ref dn, rfl, hp, rfl, dn, rfl, .inr ⟨N, .inl hn⟩, ?_⟩
    refine ⟨_, rfl, _, rfl, p, dxp, _, nv cnt, rfl, hp, rfl, _, _, rfl, rfl, _, rfl, _, rfl, (show 3 ≤ sizeLine by decide), fun t ht => ?_⟩
    have e1 : Same H (upd H t (.tup [.int ((code : Int) - cnt), nv a, nv b])) := Same.new ht
    refine ⟨_, DGet.t (k := k3 (code - cnt) a b) (e1 _ _ hn) ?_, ?_⟩
    · rw [upd_same]
      show some (HO.tup [V.int ((code : Int) - cnt), nv a, nv b]) = some (HO.tup [V.int ((code - cnt : Nat) : Int), nv a, nv b])
      rw [show (code : Int) - cnt = ((code - cnt : Nat) : Int) by omega]
    · rw [hv]
      exact q _ e1
end M

/-! text: P8 -/
set_option Elab.async false
set_option linter.all false
set_option maxRecDepth 100000
set_option maxHeartbeats 4000000
namespace M
open PySem PySem.Spec PyProof.Rows L2
/-- the dict N holds the numbers of nN -/
def Nv (N : NKvs) (nN : NF) : Prop := ∀ g a b, valV N (k3 g a b) = (nN g a b).map V.int
theorem optV_map (o : Option Int) : (o.map V.int).getD .non = optV o := by cases o <;> rfl
def sp_Tabling_sum_by (K : PySem.W.Frag) : Sp := fun vs H Q _ => ∃ (T : TS0) (N S : NKvs) (m : Int) (nN : NF) (r d code a x b : Nat) (o : Option Int), vs = [.ref T.s, nv r, nv d, nv code, nv a, nv x, nv b] ∧ Tb K T H N S m ∧ Nv N nN ∧
  valV S (k4 r d a x) = some (optV o) ∧ x ≤ b ∧ b ≤ T.ns.length ∧ ∀ H', Same H H' → Q (optV (oadd o (priceF T.G.cnt T.ns nN code x b))) H'
theorem len_Tabling_sum_by {K : PySem.W.Frag} (vs : List V) (H : Hp) (Q : VK) (E : XK) (h : sp_Tabling_sum_by K vs H Q E) : vs.length = 7 := by
  obtain ⟨T, N, S, m, nN, r, d, code, a, x, b, o, rfl, _⟩ := h
  rfl
abbrev N_Tabling_sum_by : List Str := ["self", "rule", "dot", "code", "start", "cut", "end", "ahead"]
def t_Tabling_sum_by (K : PySem.W.Frag) (P : Program) (w : World) : TS :=
  (tSeq (tAsg (tDGet (tF (He.ga K "Tabling") (tVar 0) "sums") (tTup (tCons (tVar 1) (tCons (tVar 2) (tCons (tVar 4) (tCons (tVar 5) tNil)))))) (gName 7))
    (tRet (tIf (tTest (tOp rIsNon (tVar 7) (tC .non))) (tC .non) (tCl (sp_added K) (tCons (tVar 7) (tCons (tMt (He.ga K "Prices") "price" (sp_Prices_price K) (tF (He.ga K "Tabling") (tVar 0) "prices") (tCons (tVar 3) (tCons (tVar 5) (tCons (tVar 6) tNil)))) tNil))))))
theorem pure_Tabling_sum_by {K : PySem.W.Frag} {P : Program} {w : World} (vs : List V) (H : Hp) (Q : VK) (E : XK) (h : sp_Tabling_sum_by K vs H Q E) : t_Tabling_sum_by K P w { nx := fun _ H' => Q .non H', rt := Q } (start N_Tabling_sum_by vs) H := by
  obtain ⟨T, N, S, m, nN, r, d, code, a, x, b, o, rfl, t, hN, hS, hxb, hb, q⟩ := h
  refine ⟨_, rfl, T.s, _, _, .ref T.ds, rfl, t.ob, rfl, _, rfl, _, rfl, _, rfl, _, rfl, (show 4 ≤ sizeLine by decide), fun k hk => ?_⟩
  have e1 : Same H (upd H k (.tup [nv r, nv d, nv a, nv x])) := Same.new hk
  have t1 := t.same e1
  refine ⟨T.ds, optV o, rfl, ?_, ?_⟩
  · have := DGet.t (b := k) (k := k4 r d a x) t1.hs upd_same
    rwa [hS] at this
  · cases o with
    | none => exact ⟨_, rfl, rfl, _, rfl, q _ e1⟩
    | some i =>
      refine ⟨_, rfl, rfl, _, rfl, _, rfl, _, rfl, T.s, _, _, .ref T.pp, rfl, t1.ob, rfl, T.pp, T.dxp, _, rfl, t1.po, rfl, _, rfl, _, rfl, _, rfl, ?_⟩
      refine ⟨T.pp, T.dxp, T.r, T.dn, T.G.cnt, T.ns, code, x, b, priceF T.G.cnt T.ns nN code x b, rfl, t1.po, t1.base.sqt t1.row, hxb, hb, fun c => ?_, fun c => ⟨N, t1.hn, ?_⟩, fun H' e' => ?_⟩
      · unfold priceF
        rw [if_pos c]
      · rw [hN, optV_map]
        unfold priceF
        rw [if_neg (by omega)]
      · exact ⟨some i, priceF T.G.cnt T.ns nN code x b, rfl, q H' (e1.trans e')⟩
/-! ### inner sums -/
def ofV : Option V → Option Int
  | some (.int z) => some z
  | _ => none
theorem ofV_opt (o : Option Int) : ofV (some (optV o)) = o := by cases o <;> rfl
def sp_Tabling_inner_sums (K : PySem.W.Frag) : Sp := fun vs H Q _ => ∃ (T : TS0) (N S : NKvs) (m : Int) (nN : NF) (r a b : Nat) (ps : List Nat), vs = [.ref T.s, nv r, nv a, nv b] ∧ Tb K T H N S m ∧ Nv N nN ∧ T.G.parts[r]? = some ps ∧ a ≤ b ∧ b ≤ T.ns.length ∧
  (∀ d x, d < ps.length → a < x → x < b → ∃ o, valV S (k4 r d a x) = some (optV o) ∧ Low o (SumP (priceF T.G.cnt T.ns nN) ps d a x)) ∧
  ∀ (p : Addr) (os : List (Option Int)) H', Same H H' → H p = none → H' p = some (.lst (os.map optV)) → os.length = ps.length → (∀ (d : Nat) (o : Option Int), os[d]? = some o → Low o (fun v => ∃ x, a < x ∧ x < b ∧ CutP (priceF T.G.cnt T.ns nN) ps d a b x v)) → Q (.ref p) H'
theorem len_Tabling_inner_sums {K : PySem.W.Frag} (vs : List V) (H : Hp) (Q : VK) (E : XK) (h : sp_Tabling_inner_sums K vs H Q E) : vs.length = 4 := by
  obtain ⟨T, N, S, m, nN, r, a, b, ps, rfl, _⟩ := h
  rfl
abbrev N_Tabling_inner_sums : List Str := ["self", "rule", "start", "end", "told", "dot", "code", "cut"]
def t_Tabling_inner_sums (K : PySem.W.Frag) (P : Program) (w : World) : TS :=
  (tSeq (tAsg (tLst tNil) (gName 4))
    (tSeq (tFor (iEnumT K (tCons (tOp (rIxT K) (tF (He.ga K "Grammar") (tF (He.ga K "Tabling") (tVar 0) "grammar") "parts") (tVar 1)) tNil)) (gTup K 2 (gCons (gName 5) (gCons (gName 6) gNil))) (tDrop (tBM K "list" rAppend (tVar 4) (tCons (tCl (sp_lowest K) (tCons (tLc (iRng2 (tCons (tOp rAddI (tVar 2) (tC (.int 1))) (tCons (tVar 3) tNil))) (gName 7) tYes (tMt (He.ga K "Tabling") "sum_by" (sp_Tabling_sum_by K) (tVar 0) (tCons (tVar 1) (tCons (tVar 5) (tCons (tVar 6) (tCons (tVar 2) (tCons (tVar 7) (tCons (tVar 3) tNil))))))) [7]) tNil)) tNil))))
    (tRet (tVar 4))))
theorem cuts_low {pr : PF} {ps : List Nat} {d a b : Nat} {os : List (Option Int)} (hl : os.length = b - (a + 1)) (h : ∀ (i : Nat) (o : Option Int), os[i]? = some o → Low o (CutP pr ps d a b (a + 1 + i))) : Low (omin os) (fun v => ∃ x, a < x ∧ x < b ∧ CutP pr ps d a b x v) := by
  have := low_omin (os := os) (Ps := (List.range (b - (a + 1))).map fun i => CutP pr ps d a b (a + 1 + i)) (by rw [List.length_map, List.length_range, hl]) fun i o p h1 h2 => by
    rw [List.getElem?_map] at h2
    obtain ⟨j, hj, rfl⟩ := Option.map_eq_some_iff.mp h2
    obtain ⟨hlt, e⟩ := List.getElem?_eq_some_iff.mp hj
    rw [List.getElem_range] at e
    subst e
    exact h i o h1
  refine this.congr fun v => ⟨?_, ?_⟩
  · rintro ⟨p, hp, hv⟩
    obtain ⟨i, hi, rfl⟩ := List.mem_map.mp hp
    have := List.mem_range.mp hi
    exact ⟨a + 1 + i, by omega, by omega, hv⟩
  · rintro ⟨x, h1, h2, hv⟩
    refine ⟨_, List.mem_map.mpr ⟨x - (a + 1), List.mem_range.mpr (by omega), rfl⟩, ?_⟩
    show CutP pr ps d a b (a + 1 + (x - (a + 1))) v
    rw [show a + 1 + (x - (a + 1)) = x by omega]
    exact hv
theorem pure_Tabling_inner_sums {K : PySem.W.Frag} {P : Program} {w : World} (vs : List V) (H : Hp) (Q : VK) (E : XK) (h : sp_Tabling_inner_sums K vs H Q E) : t_Tabling_inner_sums K P w { nx := fun _ H' => Q .non H', rt := Q } (start N_Tabling_inner_sums vs) H := by
  obtain ⟨T, N, S, m, nN, r, a, b, ps, rfl, t, hN, hp, hab, hb, hin, q⟩ := h
  refine ⟨by decide, fun D hD => ?_⟩
  have e1 : Same H (upd H D (.lst [])) := Same.new hD
  have t1 := t.same e1
  have hbn := t.bg.2.1
  obtain ⟨dx2, fs, h0, _, _, _, _, ⟨pa, lp, as, hpa, hal, hrow⟩⟩ := t.grm.ob
  have hr : r < T.G.parts.length := (List.getElem?_eq_some_iff.mp hp).1
  have hpl := t.bg.2.2.1 ps (List.mem_of_getElem? hp)
  have har : as[r]? = some as[r] := List.getElem?_eq_getElem (by omega)
  generalize as[r]'(by omega) = ar at har
  have hps := hrow r ar ps har hp
  have hat : atI (as.map V.ref) (r : Int) = some (.ref ar) := atI_nat (by rw [List.getElem?_map, har]; rfl)
  refine ⟨_, rfl, T.s, _, _, .ref T.g, rfl, t1.ob, rfl, T.g, dx2, fs, .ref pa, rfl, t1.base _ _ h0, lp, _, rfl, pa, _, _, .ref ar, rfl, rfl, t1.base.sqt hpa, hat, ?_⟩
  refine ⟨ar, _, rfl, t1.base.sqt hps, ?_⟩
  have hlen : (ps.map nv).length = ps.length := List.length_map ..
  refine for_it (walk_enumT (xs := ps.map nv)) (fun i σ H1 => (∃ v5 v6 v7, σ = [some (.ref T.s), some (nv r), some (nv a), some (nv b), some (.ref D), v5, v6, v7]) ∧ Same H H1 ∧ ∃ os : List (Option Int), H1 D = some (.lst (os.map optV)) ∧ os.length = i ∧
      ∀ (d : Nat) (o : Option Int), os[d]? = some o → Low o (fun v => ∃ x, a < x ∧ x < b ∧ CutP (priceF T.G.cnt T.ns nN) ps d a b x v)) ⟨⟨none, none, none, rfl⟩, e1, [], upd_same, rfl, fun d o z => nomatch z⟩ (fun i σ H1 hi pv => ?_) (fun i x σ H1 H2 hi pv y => ?_) (fun σ H1 pv => ?_)
  · exact (t.base.trans pv.2.1).sqt hps
  · obtain ⟨⟨v5, v6, v7, rfl⟩, e2, os, ho, hl, hlow⟩ := pv
    obtain ⟨U, x1, x2, rfl, hU, rfl, hx1, hx2⟩ := y
    cases hx1
    replace hx2 : (ps.map nv)[i]? = some x2 := hx2
    rw [List.getElem?_map] at hx2
    obtain ⟨code, hcode, rfl⟩ := Option.map_eq_some_iff.mp hx2
    refine ⟨U, _, rfl, .inl (.inl upd_same), rfl, _, _, rfl, _, _, rfl, rfl, ?_⟩
    generalize hH2 : upd H1 U (.tup [.int (i : Nat), nv code]) = H2
    have e3 : Same H1 H2 := hH2 ▸ Same.new hU
    have eH : Same H H2 := e2.trans e3
    refine ⟨_, rfl, .inl ⟨rfl, _, .inl (.inl (e3 _ _ ho))⟩, ?_⟩
    -- the cuts
    refine ⟨_, rfl, _, _, rfl, rfl, _, rfl, _, _, rfl, ⟨by omega, by omega, by omega, by omega⟩, fun L hL => ?_⟩
    have hrn : ((b : Int) - ((a : Int) + 1)).toNat = b - (a + 1) := by omega
    rw [hrn]
    have key : ∀ j, j < b - (a + 1) → ∃ o, valV S (k4 r i a (a + 1 + j)) = some (optV o) ∧ Low o (SumP (priceF T.G.cnt T.ns nN) ps i a (a + 1 + j)) := fun j hj => hin i (a + 1 + j) (by omega) (by omega) (by omega)
    refine lc_pure walk_range (by omega) (fun _ => true) (fun j => optV (oadd (ofV (valV S (k4 r i a (a + 1 + j)))) (priceF T.G.cnt T.ns nN code (a + 1 + j) b))) hL (fun _ _ => trivial) (fun j x Ha Hb hj e4 y => ?_) (fun H5 e5 h5 => ?_)
    · obtain ⟨rfl, rfl⟩ := y
      intro Q2 QF k1 k2
      obtain ⟨o, ho1, ho2⟩ := key j hj
      refine ⟨rfl, yes_go ?_⟩
      refine ⟨_, rfl, T.s, _, _, rfl, (t.same (eH.trans e4)).ob, rfl, _, rfl, _, rfl, _, rfl, _, rfl, _, rfl, _, rfl, ?_⟩
      refine ⟨T, N, S, m, nN, r, i, code, a, a + 1 + j, b, o, ?_, t.same (eH.trans e4), hN, ho1, by omega, hb, fun H6 e6 => ?_⟩
      · show [V.ref T.s, nv r, nv i, nv code, nv a, V.int ((a : Int) + 1 + (j : Nat)), nv b] = _
        rw [show (a : Int) + 1 + (j : Nat) = ((a + 1 + j : Nat) : Int) by omega]
      · have := k1 rfl H6 e6
        rwa [ho1, ofV_opt] at this
    · rw [kept_all] at h5
      obtain ⟨cl, hcl⟩ : ∃ cl, cl = ((List.range (b - (a + 1))).map fun j => oadd (ofV (valV S (k4 r i a (a + 1 + j)))) (priceF T.G.cnt T.ns nN code (a + 1 + j) b)) := ⟨_, rfl⟩
      have h5' : H5 L = some (.lst (cl.map optV)) := by
        rw [h5, hcl, List.map_map]
        rfl
      refine ⟨L, _, rfl, .inl (.inl h5'), by rw [hcl, List.length_map, List.length_range]; omega, fun H6 e6 => ?_⟩
      have e7 : Same H1 H6 := (e3.trans e5).trans e6
      refine ⟨D, _, _, rfl, rfl, e7 _ _ ho, by rw [List.length_map, hl, sizeLine_eq]; omega, ?_⟩
      refine ⟨⟨_, _, _, rfl⟩, Same.mut (e2.trans e7) hD, os ++ [omin cl], ?_, by rw [List.length_append, hl]; rfl, fun d o hd => ?_⟩
      · rw [upd_same, List.map_append]
        rfl
      · rcases Nat.lt_or_ge d os.length with z | z
        · rw [List.getElem?_append_left z] at hd
          exact hlow d o hd
        · rw [List.getElem?_append_right z] at hd
          have hd0 : d = i := by
            have := (List.getElem?_eq_some_iff.mp hd).1
            simp only [List.length_cons, List.length_nil] at this
            omega
          subst hd0
          rw [hl, Nat.sub_self] at hd
          cases hd
          refine cuts_low (by rw [hcl, List.length_map, List.length_range]) fun j o hj => ?_
          rw [hcl, List.getElem?_map] at hj
          obtain ⟨j2, hj2, rfl⟩ := Option.map_eq_some_iff.mp hj
          obtain ⟨hlt, ej⟩ := List.getElem?_eq_some_iff.mp hj2
          rw [List.getElem_range] at ej
          subst ej
          rw [List.length_range] at hlt
          obtain ⟨o2, q1, q2⟩ := key j hlt
          rw [q1, ofV_opt]
          exact low_cut q2 hcode
  · obtain ⟨⟨v5, v6, v7, rfl⟩, e2, os, ho, hl, hlow⟩ := pv
    exact ⟨_, rfl, q D os H1 e2 hD ho (by rw [hl, hlen]) hlow⟩
end M

/-! text: P9 -/
set_option Elab.async false
set_option linter.all false
set_option maxRecDepth 100000
set_option maxHeartbeats 4000000
namespace M
open PySem PySem.Spec PyProof.Rows L2
theorem Tb.prow {K : PySem.W.Frag} {T : TS0} {H : Hp} {N S : NKvs} {m : Int} (t : Tb K T H N S m) {r : Nat} {ps : List Nat} (hp : T.G.parts[r]? = some ps) : ∃ (dx : Addr) (fs : List (Str × V)) (pa : Addr) (as : List Addr) (ar : Addr), H T.g = some (.ins (He.ga K "Grammar") dx fs) ∧ fs.lookup ("parts" : Str) = some (V.ref pa) ∧
    SqT K H pa (as.map V.ref) ∧ atI (as.map V.ref) (r : Int) = some (V.ref ar) ∧ SqT K H ar (ps.map nv) ∧ SqT K T.H0 ar (ps.map nv) := by
  obtain ⟨dx2, fs, h0, _, _, _, _, ⟨pa, lp, as, hpa, hal, hrow⟩⟩ := t.grm.ob
  have hr : r < T.G.parts.length := (List.getElem?_eq_some_iff.mp hp).1
  have har : as[r]? = some as[r] := List.getElem?_eq_getElem (by omega)
  exact ⟨dx2, fs, pa, as, as[r], t.base _ _ h0, lp, t.base.sqt hpa, atI_nat (by rw [List.getElem?_map, har]; rfl), t.base.sqt (hrow r _ ps har hp), hrow r _ ps har hp⟩
theorem sum_step {pr : PF} {ps : List Nat} {d a b : Nat} (hab : a ≤ b) (v : Int) : (∃ p ∈ [(fun v => ∃ x, a < x ∧ x < b ∧ CutP pr ps d a b x v), CutP pr ps d a b a, CutP pr ps d a b b], p v) ↔ SumP pr ps (d + 1) a b v := by
  constructor
  · rintro ⟨p, hp, hv⟩
    simp only [List.mem_cons, List.not_mem_nil, or_false] at hp
    rcases hp with rfl | rfl | rfl
    · obtain ⟨x, h1, h2, u, w, h3, h4, h5⟩ := hv
      exact ⟨x, u, w, by omega, by omega, h3, h4, h5⟩
    · obtain ⟨u, w, h3, h4, h5⟩ := hv
      exact ⟨a, u, w, Nat.le_refl _, hab, h3, h4, h5⟩
    · obtain ⟨u, w, h3, h4, h5⟩ := hv
      exact ⟨b, u, w, hab, Nat.le_refl _, h3, h4, h5⟩
  · rintro ⟨x, u, w, h1, h2, h3, h4, h5⟩
    by_cases e1 : x = a
    · subst e1
      exact ⟨_, List.mem_cons_of_mem _ List.mem_cons_self, u, w, h3, h4, h5⟩
    · by_cases e2 : x = b
      · subst e2
        exact ⟨_, List.mem_cons_of_mem _ (List.mem_cons_of_mem _ List.mem_cons_self), u, w, h3, h4, h5⟩
      · exact ⟨_, List.mem_cons_self, x, by omega, by omega, u, w, h3, h4, h5⟩
def sp_Tabling_add_up (K : PySem.W.Frag) : Sp := fun vs H Q _ => ∃ (T : TS0) (N S : NKvs) (m : Int) (nN : NF) (r a b : Nat) (ps : List Nat) (inn : Addr) (os : List (Option Int)), vs = [.ref T.s, nv r, nv a, nv b, .ref inn] ∧ Tb K T H N S m ∧ Nv N nN ∧ T.G.parts[r]? = some ps ∧ r < 64 ∧ a ≤ b ∧
  b ≤ T.ns.length ∧ H inn = some (.lst (os.map optV)) ∧ os.length = ps.length ∧ (∀ (d : Nat) (o : Option Int), os[d]? = some o → Low o (fun v => ∃ x, a < x ∧ x < b ∧ CutP (priceF T.G.cnt T.ns nN) ps d a b x v)) ∧
  (a < b → ∀ d, d < ps.length → ∃ o, valV S (k4 r d a a) = some (optV o) ∧ Low o (SumP (priceF T.G.cnt T.ns nN) ps d a a)) ∧
  ∀ S' H', Tb K T H' N S' m → Stay T H H' → (∀ k, (∀ d, k ≠ k4 r d a b) → valV S' k = valV S k) → (∀ d, d ≤ ps.length → ∃ o, valV S' (k4 r d a b) = some (optV o) ∧ Low o (SumP (priceF T.G.cnt T.ns nN) ps d a b)) → Q .non H'
theorem len_Tabling_add_up {K : PySem.W.Frag} (vs : List V) (H : Hp) (Q : VK) (E : XK) (h : sp_Tabling_add_up K vs H Q E) : vs.length = 5 := by
  obtain ⟨T, N, S, m, nN, r, a, b, ps, inn, os, rfl, _⟩ := h
  rfl
abbrev N_Tabling_add_up : List Str := ["self", "rule", "start", "end", "inner", "dot", "code", "first", "last"]
def t_Tabling_add_up (K : PySem.W.Frag) (P : Program) (w : World) : TS :=
  (tSeq (sDPut (tF (He.ga K "Tabling") (tVar 0) "sums") (tTup (tCons (tVar 1) (tCons (tC (.int 0)) (tCons (tVar 2) (tCons (tVar 3) tNil))))) (tIf (tTest (tOp rEq (tVar 2) (tVar 3))) (tC (.int 0)) (tC .non)))
    (tFor (iEnumT K (tCons (tOp (rIxT K) (tF (He.ga K "Grammar") (tF (He.ga K "Tabling") (tVar 0) "grammar") "parts") (tVar 1)) tNil)) (gTup K 2 (gCons (gName 5) (gCons (gName 6) gNil))) (tSeq (tAsg (tMt (He.ga K "Tabling") "sum_by" (sp_Tabling_sum_by K) (tVar 0) (tCons (tVar 1) (tCons (tVar 5) (tCons (tVar 6) (tCons (tVar 2) (tCons (tVar 2) (tCons (tVar 3) tNil))))))) (gName 7))
    (tSeq (tAsg (tMt (He.ga K "Tabling") "sum_by" (sp_Tabling_sum_by K) (tVar 0) (tCons (tVar 1) (tCons (tVar 5) (tCons (tVar 6) (tCons (tVar 2) (tCons (tVar 3) (tCons (tVar 3) tNil))))))) (gName 8))
    (sDPut (tF (He.ga K "Tabling") (tVar 0) "sums") (tTup (tCons (tVar 1) (tCons (tOp rAddI (tVar 5) (tC (.int 1))) (tCons (tVar 2) (tCons (tVar 3) tNil))))) (tCl (sp_lowest K) (tCons (tLst (tCons (tOp (rIxL K) (tVar 4) (tVar 5)) (tCons (tVar 7) (tCons (tVar 8) tNil)))) tNil)))))))
theorem pure_Tabling_add_up {K : PySem.W.Frag} {P : Program} {w : World} (vs : List V) (H : Hp) (Q : VK) (E : XK) (h : sp_Tabling_add_up K vs H Q E) : t_Tabling_add_up K P w { nx := fun _ H' => Q .non H', rt := Q } (start N_Tabling_add_up vs) H := by
  obtain ⟨T, N, S, m, nN, r, a, b, ps, inn, os, rfl, t, hN, hp, hr, hab, hb, hinn, hol, hlow, haa, q⟩ := h
  have hbn := t.bg.2.1
  have hpl := t.bg.2.2.1 ps (List.mem_of_getElem? hp)
  have hIS : T.ds ≠ inn := ne_of t.hs hinn fun z => nomatch z
  have hIn : inn ∉ [T.s, T.dn, T.ds] := by
    simp only [List.mem_cons, List.not_mem_nil, or_false]
    rintro (z | z | z)
    · rw [z, t.ob] at hinn
      cases hinn
    · rw [z, t.hn] at hinn
      cases hinn
    · exact hIS z.symm
  have dsm : T.ds ∈ [T.s, T.dn, T.ds] := by simp
  -- the first sum
  have first : ∀ v : V, v = optV (if a = b then some 0 else none) → ∀ U, H U = none → ∃ a1 H4, (V.ref T.ds) = .ref a1 ∧ DPut (upd H U (.tup [nv r, nv 0, nv a, nv b])) a1 (.ref U) v H4 ∧ (∃ S1, Tb K T H4 N S1 m ∧ Stay T H H4 ∧ (∀ k, (∀ d, k ≠ k4 r d a b) → valV S1 k = valV S k) ∧
      ∀ d, d ≤ 0 → ∃ o, valV S1 (k4 r d a b) = some (optV o) ∧ Low o (SumP (priceF T.G.cnt T.ns nN) ps d a b)) := by
    rintro v rfl U hU
    have e1 : Same H (upd H U (.tup [nv r, nv 0, nv a, nv b])) := Same.new hU
    have t1 := t.same e1
    refine ⟨T.ds, _, rfl, DPut.t (k := k4 r 0 a b) t1.hs upd_same (by have := t1.sb.len4; rw [sizeLine_eq]; omega), _, t1.putS ⟨r, 0, a, b, rfl, hr, by omega, by omega, by omega⟩, (Stay.of e1).put dsm, fun k hk => ?_, fun d hd => ?_⟩
    · rw [valV_put, if_neg (hk 0)]
    · have : d = 0 := by omega
      subst this
      refine ⟨_, by rw [valV_put, if_pos rfl], ?_⟩
      by_cases e : a = b
      · rw [if_pos e]
        exact ⟨⟨e, rfl⟩, fun v hv => by rw [hv.2]; exact Int.le_refl _⟩
      · rw [if_neg e]
        exact fun v hv => e hv.1
  -- the loop
  have loop : ∀ H4, (∃ S1, Tb K T H4 N S1 m ∧ Stay T H H4 ∧ (∀ k, (∀ d, k ≠ k4 r d a b) → valV S1 k = valV S k) ∧ ∀ d, d ≤ 0 → ∃ o, valV S1 (k4 r d a b) = some (optV o) ∧ Low o (SumP (priceF T.G.cnt T.ns nN) ps d a b)) →
      (tFor (iEnumT K (tCons (tOp (rIxT K) (tF (He.ga K "Grammar") (tF (He.ga K "Tabling") (tVar 0) "grammar") "parts") (tVar 1)) tNil)) (gTup K 2 (gCons (gName 5) (gCons (gName 6) gNil))) (tSeq (tAsg (tMt (He.ga K "Tabling") "sum_by" (sp_Tabling_sum_by K) (tVar 0) (tCons (tVar 1) (tCons (tVar 5) (tCons (tVar 6) (tCons (tVar 2) (tCons (tVar 2) (tCons (tVar 3) tNil))))))) (gName 7))
    (tSeq (tAsg (tMt (He.ga K "Tabling") "sum_by" (sp_Tabling_sum_by K) (tVar 0) (tCons (tVar 1) (tCons (tVar 5) (tCons (tVar 6) (tCons (tVar 2) (tCons (tVar 3) (tCons (tVar 3) tNil))))))) (gName 8))
    (sDPut (tF (He.ga K "Tabling") (tVar 0) "sums") (tTup (tCons (tVar 1) (tCons (tOp rAddI (tVar 5) (tC (.int 1))) (tCons (tVar 2) (tCons (tVar 3) tNil))))) (tCl (sp_lowest K) (tCons (tLst (tCons (tOp (rIxL K) (tVar 4) (tVar 5)) (tCons (tVar 7) (tCons (tVar 8) tNil)))) tNil))))))
      { nx := fun _ H' => Q .non H', rt := Q } (start N_Tabling_add_up [.ref T.s, nv r, nv a, nv b, .ref inn]) H4 := by
    rintro H4 ⟨S1, t4, st4, hk4, hd4⟩
    obtain ⟨dx2, fs, pa, as, ar, h0, lp, hpa, hat, hps, hps0⟩ := t4.prow hp
    refine ⟨_, rfl, T.s, _, _, .ref T.g, rfl, t4.ob, rfl, T.g, dx2, fs, .ref pa, rfl, h0, lp, _, rfl, pa, _, _, .ref ar, rfl, rfl, hpa, hat, ar, _, rfl, hps, ?_⟩
    have hlen : (ps.map nv).length = ps.length := List.length_map ..
    refine for_it (walk_enumT (xs := ps.map nv)) (fun i σ H1 => (∃ v5 v6 v7 v8, σ = [some (.ref T.s), some (nv r), some (nv a), some (nv b), some (.ref inn), v5, v6, v7, v8]) ∧ ∃ S1, Tb K T H1 N S1 m ∧ Stay T H H1 ∧ (∀ k, (∀ d, k ≠ k4 r d a b) → valV S1 k = valV S k) ∧
      ∀ d, d ≤ i → ∃ o, valV S1 (k4 r d a b) = some (optV o) ∧ Low o (SumP (priceF T.G.cnt T.ns nN) ps d a b)) ⟨⟨none, none, none, none, rfl⟩, S1, t4, st4, hk4, hd4⟩ (fun i σ H1 hi pv => ?_) (fun i x σ H1 H2 hi pv y => ?_) (fun σ H1 pv => ?_)
    · obtain ⟨_, S1, t1, _⟩ := pv
      exact t1.base.sqt hps0
    · obtain ⟨⟨v5, v6, v7, v8, rfl⟩, S1, t1, st1, hk1, hd1⟩ := pv
      obtain ⟨U, x1, x2, rfl, hU, rfl, hx1, hx2⟩ := y
      cases hx1
      replace hx2 : (ps.map nv)[i]? = some x2 := hx2
      rw [List.getElem?_map] at hx2
      obtain ⟨code, hcode, rfl⟩ := Option.map_eq_some_iff.mp hx2
      refine ⟨U, _, rfl, .inl (.inl upd_same), rfl, _, _, rfl, _, _, rfl, rfl, ?_⟩
      generalize hH2 : upd H1 U (.tup [.int (i : Nat), nv code]) = H2
      have e3 : Same H1 H2 := hH2 ▸ Same.new hU
      have t2 := t1.same e3
      have hi' : i < ps.length := by omega
      -- the sums at i
      obtain ⟨o1, s1, l1⟩ : ∃ o, valV S1 (k4 r i a a) = some (optV o) ∧ Low o (SumP (priceF T.G.cnt T.ns nN) ps i a a) := by
        by_cases e : a = b
        · subst e
          exact hd1 i (Nat.le_refl _)
        · obtain ⟨o, h1, h2⟩ := haa (by omega) i hi'
          exact ⟨o, by rw [hk1 _ (fun d z => e (k4_inj z).2.2.2)]; exact h1, h2⟩
      obtain ⟨o2, s2, l2⟩ := hd1 i (Nat.le_refl _)
      refine ⟨_, rfl, T.s, _, _, rfl, t2.ob, rfl, _, rfl, _, rfl, _, rfl, _, rfl, _, rfl, _, rfl, T, N, S1, m, nN, r, i, code, a, a, b, o1, rfl, t2, hN, s1, hab, hb, fun H5 e5 => ?_⟩
      have t5 := t2.same e5
      refine ⟨_, rfl, T.s, _, _, rfl, t5.ob, rfl, _, rfl, _, rfl, _, rfl, _, rfl, _, rfl, _, rfl, T, N, S1, m, nN, r, i, code, a, b, b, o2, rfl, t5, hN, s2, Nat.le_refl _, hb, fun H6 e6 => ?_⟩
      have t6 := t5.same e6
      have st6 : Stay T H H6 := st1.trans (But.of ((e3.trans e5).trans e6))
      obtain ⟨oi, hoi⟩ : ∃ oi, os[i]? = some oi := ⟨os[i], List.getElem?_eq_getElem (by omega)⟩
      have hin6 := st6 _ _ hinn hIn
      refine ⟨_, rfl, _, rfl, inn, _, _, optV oi, rfl, rfl, .inl (.inl hin6), atI_nat (by rw [List.getElem?_map, hoi]; rfl), _, rfl, _, rfl, (show 3 ≤ sizeLine by decide), fun L hL => ?_⟩
      have e7 := Same.new (o := .lst [optV oi, optV (oadd o1 (priceF T.G.cnt T.ns nN code a b)), optV (oadd o2 (priceF T.G.cnt T.ns nN code b b))]) hL
      obtain ⟨cl, hcl⟩ : ∃ cl, cl = [oi, oadd o1 (priceF T.G.cnt T.ns nN code a b), oadd o2 (priceF T.G.cnt T.ns nN code b b)] := ⟨_, rfl⟩
      refine ⟨L, cl, rfl, .inl (.inl ?_), by rw [hcl]; show (3 : Nat) ≤ 1000; decide, fun H8 e8 => ?_⟩
      · rw [hcl, upd_same]
        rfl
      · have t8 := t6.same (e7.trans e8)
        refine ⟨_, rfl, T.s, _, _, .ref T.ds, rfl, t8.ob, rfl, _, rfl, _, rfl, _, _, rfl, rfl, _, rfl, _, rfl, (show 4 ≤ sizeLine by decide), fun W hW => ?_⟩
        have e9 := Same.new (o := .tup [nv r, .int ((i : Nat) + 1), nv a, nv b]) hW
        have t9 := t8.same e9
        refine ⟨T.ds, _, rfl, DPut.t (k := k4 r (i + 1) a b) t9.hs upd_same (by have := t9.sb.len4; rw [sizeLine_eq]; omega), ⟨_, _, _, _, rfl⟩, _, t9.putS ⟨r, i + 1, a, b, rfl, hr, by omega, by omega, by omega⟩, (st6.trans (But.of ((e7.trans e8).trans e9))).put dsm, fun k hk => ?_, fun d hd => ?_⟩
        · rw [valV_put, if_neg (hk (i + 1))]
          exact hk1 k hk
        · rw [valV_put]
          by_cases e : d = i + 1
          · subst e
            refine ⟨omin cl, by rw [if_pos rfl], ?_⟩
            have := low_omin (os := cl) (Ps := [(fun v => ∃ x, a < x ∧ x < b ∧ CutP (priceF T.G.cnt T.ns nN) ps i a b x v), CutP (priceF T.G.cnt T.ns nN) ps i a b a, CutP (priceF T.G.cnt T.ns nN) ps i a b b]) (by rw [hcl]; rfl) fun j o p h1 h2 => by
              rw [hcl] at h1
              match j, h1, h2 with
              | 0, h1, h2 =>
                cases h1
                cases h2
                exact hlow i _ hoi
              | 1, h1, h2 =>
                cases h1
                cases h2
                exact low_cut l1 hcode
              | 2, h1, h2 =>
                cases h1
                cases h2
                exact low_cut l2 hcode
              | j + 3, h1, h2 => cases h1
            exact this.congr fun v => sum_step hab v
          · rw [if_neg (fun z => e (k4_inj z).2.1)]
            exact hd1 d (by omega)
    · obtain ⟨⟨v5, v6, v7, v8, rfl⟩, S1, t1, st1, hk1, hd1⟩ := pv
      exact q S1 H1 t1 st1 hk1 (by rw [hlen] at hd1; exact hd1)
  refine ⟨_, rfl, _, rfl, rfl, _, rfl, ?_⟩
  by_cases e : a = b
  · rw [decide_eq_true (by rw [e])]
    refine ⟨_, rfl, T.s, _, _, .ref T.ds, rfl, t.ob, rfl, _, rfl, _, rfl, _, rfl, (show 4 ≤ sizeLine by decide), fun U hU => ?_⟩
    obtain ⟨a1, H4, h1, h2, h3⟩ := first (.int 0) (by rw [if_pos e]; rfl) U hU
    exact ⟨a1, H4, h1, h2, loop H4 h3⟩
  · rw [decide_eq_false (fun z => e (by have := V.int.inj z; omega))]
    refine ⟨_, rfl, T.s, _, _, .ref T.ds, rfl, t.ob, rfl, _, rfl, _, rfl, _, rfl, (show 4 ≤ sizeLine by decide), fun U hU => ?_⟩
    obtain ⟨a1, H4, h1, h2, h3⟩ := first .non (by rw [if_neg e]; rfl) U hU
    exact ⟨a1, H4, h1, h2, loop H4 h3⟩
end M

/-! text: P10 -/
set_option Elab.async false
set_option linter.all false
set_option maxRecDepth 100000
set_option maxHeartbeats 4000000
namespace M
open PySem PySem.Spec PyProof.Rows L2
def sp_Tabling_by_rule (K : PySem.W.Frag) : Sp := fun vs H Q _ => ∃ (T : TS0) (N S : NKvs) (m : Int) (r a b : Nat) (ps : List Nat) (o : Option Int), vs = [.ref T.s, nv r, nv a, nv b] ∧ Tb K T H N S m ∧ T.G.parts[r]? = some ps ∧
  (ps ≠ [] → valV S (k4 r ps.length a b) = some (optV o)) ∧ (ps = [] → o = some ((b : Int) - a)) ∧ ∀ H', Same H H' → Q (optV o) H'
theorem len_Tabling_by_rule {K : PySem.W.Frag} (vs : List V) (H : Hp) (Q : VK) (E : XK) (h : sp_Tabling_by_rule K vs H Q E) : vs.length = 4 := by
  obtain ⟨T, N, S, m, r, a, b, ps, o, rfl, _⟩ := h
  rfl
abbrev N_Tabling_by_rule : List Str := ["self", "rule", "start", "end", "count"]
def t_Tabling_by_rule (K : PySem.W.Frag) (P : Program) (w : World) : TS :=
  (tSeq (tAsg (tCB (rLenSeq K) (tCons (tOp (rIxT K) (tF (He.ga K "Grammar") (tF (He.ga K "Tabling") (tVar 0) "grammar") "parts") (tVar 1)) tNil)) (gName 4))
    (tRet (tIf (tTest (tOp rGtI (tVar 4) (tC (.int 0)))) (tDGet (tF (He.ga K "Tabling") (tVar 0) "sums") (tTup (tCons (tVar 1) (tCons (tVar 4) (tCons (tVar 2) (tCons (tVar 3) tNil)))))) (tOp rSubI (tVar 3) (tVar 2)))))
theorem pure_Tabling_by_rule {K : PySem.W.Frag} {P : Program} {w : World} (vs : List V) (H : Hp) (Q : VK) (E : XK) (h : sp_Tabling_by_rule K vs H Q E) : t_Tabling_by_rule K P w { nx := fun _ H' => Q .non H', rt := Q } (start N_Tabling_by_rule vs) H := by
  obtain ⟨T, N, S, m, r, a, b, ps, o, rfl, t, hp, h1, h2, q⟩ := h
  obtain ⟨dx2, fs, pa, as, ar, h0, lp, hpa, hat, hps, hps0⟩ := t.prow hp
  refine ⟨_, rfl, T.s, _, _, .ref T.g, rfl, t.ob, rfl, T.g, dx2, fs, .ref pa, rfl, h0, lp, _, rfl, pa, _, _, .ref ar, rfl, rfl, hpa, hat, ar, _, rfl, .inr hps, ?_⟩
  refine ⟨_, rfl, _, _, rfl, rfl, _, rfl, ?_⟩
  rw [List.length_map]
  by_cases e : ps = []
  · subst e
    rw [decide_eq_false (show ¬ (0 : Int) < (([] : List Nat).length : Nat) by decide)]
    refine ⟨_, rfl, _, rfl, _, _, rfl, rfl, ?_⟩
    have := q H (Same.refl H)
    rw [h2 rfl] at this
    exact this
  · have hpos : 0 < ps.length := List.length_pos_iff.mpr e
    rw [decide_eq_true (show (0 : Int) < (ps.length : Nat) by omega)]
    refine ⟨_, rfl, T.s, _, _, .ref T.ds, rfl, t.ob, rfl, _, rfl, _, rfl, _, rfl, _, rfl, (show 4 ≤ sizeLine by decide), fun U hU => ?_⟩
    have e1 := Same.new (o := .tup [nv r, nv ps.length, nv a, nv b]) hU
    have hU2 : (upd H U (.tup [nv r, nv ps.length, nv a, nv b])) U = some (.tup ((k4 r ps.length a b).map kV)) := by
      rw [upd_same]
      rfl
    have g := DGet.t (k := k4 r ps.length a b) (t.same e1).hs hU2
    rw [h1 e] at g
    exact ⟨T.ds, optV o, rfl, g, q _ e1⟩
def sp_Tabling_lowers (K : PySem.W.Frag) : Sp := fun vs H Q _ => ∃ (T : TS0) (N S : NKvs) (m : Int) (nN : NF) (r g a b : Nat) (ps : List Nat) (o : Option Int), vs = [.ref T.s, nv r, nv a, nv b] ∧ Tb K T H N S m ∧ Nv N nN ∧ T.G.parts[r]? = some ps ∧ T.G.heads[r]? = some g ∧ a ≤ b ∧ b ≤ T.ns.length ∧
  (ps ≠ [] → valV S (k4 r ps.length a b) = some (optV o)) ∧ (ps = [] → o = some ((b : Int) - a)) ∧
  ((o = none ∨ ∃ i j, o = some i ∧ nN g a b = some j ∧ j ≤ i) → ∀ H', Same H H' → Q (.bl false) H') ∧
  (∀ i, o = some i → (∀ j, nN g a b = some j → i < j) → ∀ H', Tb K T H' (putK N (k3 g a b) (.int i)) S m → Stay T H H' → Q (.bl true) H')
theorem len_Tabling_lowers {K : PySem.W.Frag} (vs : List V) (H : Hp) (Q : VK) (E : XK) (h : sp_Tabling_lowers K vs H Q E) : vs.length = 4 := by
  obtain ⟨T, N, S, m, nN, r, g, a, b, ps, o, rfl, _⟩ := h
  rfl
abbrev N_Tabling_lowers : List Str := ["self", "rule", "start", "end", "number", "key"]
def t_Tabling_lowers (K : PySem.W.Frag) (P : Program) (w : World) : TS :=
  (tSeq (tAsg (tMt (He.ga K "Tabling") "by_rule" (sp_Tabling_by_rule K) (tVar 0) (tCons (tVar 1) (tCons (tVar 2) (tCons (tVar 3) tNil)))) (gName 4))
    (tSeq (tAsg (tTup (tCons (tOp (rIxT K) (tF (He.ga K "Grammar") (tF (He.ga K "Tabling") (tVar 0) "grammar") "heads") (tVar 1)) (tCons (tVar 2) (tCons (tVar 3) tNil)))) (gName 5))
    (tSeq (tIfS (tOr (tTest (tOp rIsNon (tVar 4) (tC .non))) (tAnd (tB (tDIn (tVar 5) (tF (He.ga K "Tabling") (tVar 0) "numbers"))) (tTest (tOp rLeI (tDGet (tF (He.ga K "Tabling") (tVar 0) "numbers") (tVar 5)) (tVar 4))))) (tRet (tC (.bl false))) tNext)
    (tSeq (sDPut (tF (He.ga K "Tabling") (tVar 0) "numbers") (tVar 5) (tVar 4))
    (tRet (tC (.bl true)))))))
theorem pure_Tabling_lowers {K : PySem.W.Frag} {P : Program} {w : World} (vs : List V) (H : Hp) (Q : VK) (E : XK) (h : sp_Tabling_lowers K vs H Q E) : t_Tabling_lowers K P w { nx := fun _ H' => Q .non H', rt := Q } (start N_Tabling_lowers vs) H := by
  obtain ⟨T, N, S, m, nN, r, g, a, b, ps, o, rfl, t, hN, hp, hg, hab, hb, h1, h2, q1, q2⟩ := h
  have hbn := t.bg.2.1
  have hgl : g < T.G.grp := t.bg.2.2.2.2.2.1 g (List.mem_of_getElem? hg)
  have hgg := t.bg.2.2.2.1
  refine ⟨_, rfl, T.s, _, _, rfl, t.ob, rfl, _, rfl, _, rfl, _, rfl, T, N, S, m, r, a, b, ps, o, rfl, t, hp, h1, h2, fun H1 e1 => ?_⟩
  have t1 := t.same e1
  obtain ⟨dx2, fs, h0, _, _, _, ⟨ha, lh, hha⟩, _⟩ := (t1.grm.same t1.base).ob
  refine ⟨_, rfl, T.s, _, _, .ref T.g, rfl, t1.ob, rfl, T.g, dx2, fs, .ref ha, rfl, h0, lh, _, rfl, ha, _, _, nv g, rfl, rfl, hha, atI_nat (by rw [List.getElem?_map, hg]; rfl), _, rfl, _, rfl, (show 3 ≤ sizeLine by decide), fun U hU => ?_⟩
  have e2 := Same.new (o := .tup [nv g, nv a, nv b]) hU
  have t2 := t1.same e2
  have hU2 : (upd H1 U (.tup [nv g, nv a, nv b])) U = some (.tup ((k3 g a b).map kV)) := upd_same
  generalize hH2 : upd H1 U (.tup [nv g, nv a, nv b]) = H2 at e2 t2 hU2
  have e12 : Same H H2 := e1.trans e2
  have g3 : DGet H2 T.dn (.ref U) ((nN g a b).map V.int) := by
    have := DGet.t (k := k3 g a b) t2.hn hU2
    rwa [hN] at this
  -- the number laid down
  have put : ∀ i, o = some i → (∀ j, nN g a b = some j → i < j) → ∃ a1 H4, V.ref T.dn = .ref a1 ∧ DPut H2 a1 (.ref U) (optV o) H4 ∧ Q (.bl true) H4 := by
    rintro i rfl hlt
    exact ⟨T.dn, _, rfl, DPut.t (k := k3 g a b) t2.hn hU2 (by have := t2.nb.len3; rw [sizeLine_eq]; omega), q2 i rfl hlt _ (t2.putN ⟨g, a, b, rfl, by omega, by omega, by omega⟩) ((Stay.of e12).put (by simp))⟩
  cases o with
  | none => exact ⟨_, rfl, rfl, _, rfl, q1 (.inl rfl) _ e12⟩
  | some i =>
    refine ⟨_, rfl, rfl, _, rfl, _, rfl, _, rfl, T.s, _, _, .ref T.dn, rfl, t2.ob, rfl, T.dn, _, rfl, g3, ?_⟩
    cases hn : nN g a b with
    | none =>
      obtain ⟨a1, H4, z1, z2, z3⟩ := put i rfl (fun j z => by rw [hn] at z; cases z)
      exact ⟨_, rfl, _, rfl, _, rfl, T.s, _, _, .ref T.dn, rfl, t2.ob, rfl, _, rfl, a1, H4, z1, z2, z3⟩
    | some j =>
      rw [hn] at g3
      refine ⟨_, rfl, _, rfl, T.s, _, _, .ref T.dn, rfl, t2.ob, rfl, _, rfl, T.dn, .int j, rfl, g3, _, rfl, _, _, rfl, rfl, _, rfl, ?_⟩
      by_cases hji : j ≤ i
      · rw [decide_eq_true hji]
        exact q1 (.inr ⟨i, j, rfl, hn, hji⟩) _ e12
      · rw [decide_eq_false hji]
        obtain ⟨a1, H4, z1, z2, z3⟩ := put i rfl (fun j' z => by rw [hn] at z; cases z; omega)
        exact ⟨_, rfl, _, rfl, T.s, _, _, .ref T.dn, rfl, t2.ob, rfl, _, rfl, a1, H4, z1, z2, z3⟩
end M

/-! text: P11 -/
set_option Elab.async false
set_option linter.all false
set_option maxRecDepth 100000
set_option maxHeartbeats 4000000
namespace M
open PySem PySem.Spec PyProof.Rows L2
/-! ### what the numbers are: the least costs -/
abbrev XF := Nat → Nat → Nat → Int → Prop
def PrX (c : Nat) (ns : List Nat) (X : XF) (code a b : Nat) (w : Int) : Prop := if code < c then w = costI ns a b code else X (code - c) a b w
def SumX (c : Nat) (ns : List Nat) (X : XF) (ps : List Nat) : Nat → Nat → Nat → Int → Prop
  | 0, a, b, v => a = b ∧ v = 0
  | d + 1, a, b, v => ∃ x u w, a ≤ x ∧ x ≤ b ∧ SumX c ns X ps d a x u ∧ (∃ code, ps[d]? = some code ∧ PrX c ns X code x b w) ∧ v = u + w
def RuleX (c : Nat) (ns : List Nat) (X : XF) (ps : List Nat) (a b : Nat) (v : Int) : Prop := if ps = [] then v = (b : Int) - a else SumX c ns X ps ps.length a b v
/-- X holds what the first R rules make of it -/
def ClX (G : Gm) (ns : List Nat) (X : XF) : Prop := ∀ r g ps a b v, r < G.rules → G.heads[r]? = some g → G.parts[r]? = some ps → a ≤ b → b ≤ ns.length → RuleX G.cnt ns X ps a b v → X g a b v
/-- the costs of a group over a stretch -/
def Der (G : Gm) (ns : List Nat) : XF := fun g a b v => ∀ X : XF, ClX G ns X → X g a b v
theorem SumX.mono {c : Nat} {ns : List Nat} {X Y : XF} {ps : List Nat} (h : ∀ g a b v, X g a b v → Y g a b v) : ∀ {d a b : Nat} {v : Int}, SumX c ns X ps d a b v → SumX c ns Y ps d a b v
  | 0, _, _, _, q => q
  | d + 1, _, _, _, ⟨x, u, w, h1, h2, h3, ⟨code, h4, h5⟩, h6⟩ => by
    refine ⟨x, u, w, h1, h2, SumX.mono h h3, ⟨code, h4, ?_⟩, h6⟩
    unfold PrX at h5 ⊢
    split
    · rename_i z
      rwa [if_pos z] at h5
    · rename_i z
      rw [if_neg z] at h5
      exact h _ _ _ _ h5
theorem der_cl (G : Gm) (ns : List Nat) : ClX G ns (Der G ns) := fun r g ps a b v h0 h1 h2 h3 h3' h4 X hX => hX r g ps a b v h0 h1 h2 h3 h3' (by
  unfold RuleX at h4 ⊢
  split
  · rename_i z
    rwa [if_pos z] at h4
  · rename_i z
    rw [if_neg z] at h4
    exact SumX.mono (fun g a b v q => q X hX) h4)
theorem costI_nonneg {ns : List Nat} {a b t : Nat} (h : a ≤ b) : 0 ≤ costI ns a b t := by
  unfold costI
  split
  · omega
  · split <;> omega
theorem sumX_nonneg {c : Nat} {ns : List Nat} {ps : List Nat} {X : XF} (hX : ∀ g a b v, X g a b v → 0 ≤ v) : ∀ {d a b : Nat} {v : Int}, SumX c ns X ps d a b v → 0 ≤ v
  | 0, _, _, _, q => by rw [q.2]; exact Int.le_refl _
  | d + 1, _, _, _, ⟨x, u, w, h1, h2, h3, ⟨code, h4, h5⟩, h6⟩ => by
    have h7 := sumX_nonneg hX h3
    have h8 : 0 ≤ w := by
      unfold PrX at h5
      split at h5
      · rw [h5]; exact costI_nonneg h2
      · exact hX _ _ _ _ h5
    omega
theorem der_nonneg {G : Gm} {ns : List Nat} {g a b : Nat} {v : Int} (h : Der G ns g a b v) : 0 ≤ v := h (fun _ _ _ v => 0 ≤ v) (fun r g ps a b v _ _ _ h3 _ h4 => by
  unfold RuleX at h4
  split at h4
  · omega
  · exact sumX_nonneg (fun _ _ _ _ q => q) h4)
/-- sound numbers -/
def Snd (G : Gm) (ns : List Nat) (N : NF) : Prop := ∀ g a b u, N g a b = some u → Der G ns g a b u
theorem sumP_X {c : Nat} {ns : List Nat} {N : NF} {X : XF} {ps : List Nat} (h : ∀ g a b u, N g a b = some u → X g a b u) : ∀ {d a b : Nat} {v : Int}, SumP (priceF c ns N) ps d a b v → SumX c ns X ps d a b v
  | 0, _, _, _, q => q
  | d + 1, _, _, _, ⟨x, u, w, h1, h2, h3, ⟨code, h4, h5⟩, h6⟩ => by
    refine ⟨x, u, w, h1, h2, sumP_X h h3, ⟨code, h4, ?_⟩, h6⟩
    unfold priceF at h5
    unfold PrX
    split
    · rename_i z
      rw [if_pos z] at h5
      exact (Option.some.inj h5).symm
    · rename_i z
      rw [if_neg z] at h5
      exact h _ _ _ _ h5
theorem ruleP_X {c : Nat} {ns : List Nat} {N : NF} {X : XF} {ps : List Nat} {a b : Nat} {v : Int} (h : ∀ g a b u, N g a b = some u → X g a b u) (q : RuleP (priceF c ns N) ps a b v) : RuleX c ns X ps a b v := by
  unfold RuleP at q
  unfold RuleX
  split
  · rename_i z
    rwa [if_pos z] at q
  · rename_i z
    rw [if_neg z] at q
    exact sumP_X h q
theorem sumX_P {c : Nat} {ns : List Nat} {N : NF} {X : XF} {ps : List Nat} : ∀ {d a b : Nat} {v : Int}, (∀ g x y w, a ≤ x → x ≤ y → y ≤ b → X g x y w → ∃ u, u ≤ w ∧ N g x y = some u) → SumX c ns X ps d a b v → ∃ v', v' ≤ v ∧ SumP (priceF c ns N) ps d a b v'
  | 0, _, _, v, _, q => ⟨v, Int.le_refl _, q⟩
  | d + 1, a, b, _, h, ⟨x, u, w, h1, h2, h3, ⟨code, h4, h5⟩, h6⟩ => by
    obtain ⟨u', hu, k1⟩ := sumX_P (fun g x' y w' q1 q2 q3 q4 => h g x' y w' q1 q2 (Nat.le_trans q3 h2) q4) h3
    have : ∃ w', w' ≤ w ∧ priceF c ns N code x b = some w' := by
      unfold PrX at h5
      unfold priceF
      split
      · rename_i z
        rw [if_pos z] at h5
        exact ⟨w, Int.le_refl _, by rw [h5]⟩
      · rename_i z
        rw [if_neg z] at h5
        exact h _ _ _ _ h1 h2 (Nat.le_refl _) h5
    obtain ⟨w', hw, k2⟩ := this
    exact ⟨u' + w', by omega, x, u', w', h1, h2, k1, ⟨code, h4, k2⟩, rfl⟩
theorem SumP.congr {pr pr' : PF} {ps : List Nat} : ∀ {d a c : Nat} {v : Int}, (∀ code x y, a ≤ x → x ≤ y → y ≤ c → pr code x y = pr' code x y) → SumP pr ps d a c v → SumP pr' ps d a c v
  | 0, _, _, _, _, q => q
  | d + 1, a, c, _, h, ⟨x, u, w, h1, h2, h3, ⟨code, h4, h5⟩, h6⟩ =>
    ⟨x, u, w, h1, h2, SumP.congr (fun code x' y q1 q2 q3 => h code x' y q1 q2 (Nat.le_trans q3 h2)) h3, ⟨code, h4, by rw [← h code x c h1 h2 (Nat.le_refl _)]; exact h5⟩, h6⟩
/-- N and N' are one but at a, b -/
def Agr (a b : Nat) (N N' : NF) : Prop := ∀ g x y, ¬ (x = a ∧ y = b) → N g x y = N' g x y
theorem Agr.pr {a b : Nat} {N N' : NF} (h : Agr a b N N') (c : Nat) (ns : List Nat) (code x y : Nat) (ne : ¬ (x = a ∧ y = b)) : priceF c ns N code x y = priceF c ns N' code x y := by
  unfold priceF
  split
  · rfl
  · exact h _ _ _ ne
theorem Agr.symm {a b : Nat} {N N' : NF} (h : Agr a b N N') : Agr a b N' N := fun g x y n => (h g x y n).symm
theorem Agr.trans {a b : Nat} {N N' N'' : NF} (h : Agr a b N N') (h' : Agr a b N' N'') : Agr a b N N'' := fun g x y n => (h g x y n).trans (h' g x y n)
/-- sums over a stretch that a, b isn't within -/
theorem Agr.sum {a b : Nat} {N N' : NF} (h : Agr a b N N') {c : Nat} {ns : List Nat} {ps : List Nat} {d x y : Nat} (ne : x ≤ a → b ≤ y → False) (v : Int) : SumP (priceF c ns N) ps d x y v ↔ SumP (priceF c ns N') ps d x y v :=
  ⟨SumP.congr fun code u w h1 h2 h3 => h.pr c ns code u w fun z => ne (by omega) (by omega), SumP.congr fun code u w h1 h2 h3 => h.symm.pr c ns code u w fun z => ne (by omega) (by omega)⟩
theorem Agr.cut {a b : Nat} {N N' : NF} (h : Agr a b N N') {c : Nat} {ns : List Nat} {ps : List Nat} {d x : Nat} (h1 : a < x) (h2 : x < b) (v : Int) : CutP (priceF c ns N) ps d a b x v ↔ CutP (priceF c ns N') ps d a b x v := by
  constructor
  · rintro ⟨u, w, q1, ⟨code, q2, q3⟩, q4⟩
    exact ⟨u, w, (h.sum (by omega) u).mp q1, ⟨code, q2, by rw [← h.pr c ns code x b (by omega)]; exact q3⟩, q4⟩
  · rintro ⟨u, w, q1, ⟨code, q2, q3⟩, q4⟩
    exact ⟨u, w, (h.sum (by omega) u).mpr q1, ⟨code, q2, by rw [h.pr c ns code x b (by omega)]; exact q3⟩, q4⟩
/-- the sums over x, y stand right -/
def SOk (G : Gm) (S : NKvs) (pr : PF) (x y : Nat) : Prop := ∀ r ps, r < G.rules → G.parts[r]? = some ps → ∀ d, d ≤ ps.length → ∃ o, valV S (k4 r d x y) = some (optV o) ∧ Low o (SumP pr ps d x y)
/-- no rule gives less over a, b than the numbers tell -/
def ClAt (G : Gm) (ns : List Nat) (N : NF) (a b : Nat) : Prop := ∀ r g ps v, r < G.rules → G.heads[r]? = some g → G.parts[r]? = some ps → RuleP (priceF G.cnt ns N) ps a b v → ∃ u, u ≤ v ∧ N g a b = some u
def setN (N : NF) (g a b : Nat) (i : Int) : NF := fun g' a' b' => if g' = g ∧ a' = a ∧ b' = b then some i else N g' a' b'
theorem Nv.put {N : NKvs} {nN : NF} (h : Nv N nN) (g a b : Nat) (i : Int) : Nv (putK N (k3 g a b) (.int i)) (setN nN g a b i) := fun g' a' b' => by
  rw [valV_put]
  unfold setN
  by_cases e : g' = g ∧ a' = a ∧ b' = b
  · obtain ⟨rfl, rfl, rfl⟩ := e
    rw [if_pos rfl, if_pos ⟨rfl, rfl, rfl⟩]
    rfl
  · rw [if_neg (fun z => e (k3_inj z)), if_neg e]
    exact h g' a' b'
theorem setN_agr (N : NF) (g a b : Nat) (i : Int) : Agr a b N (setN N g a b i) := fun g' x y n => by
  unfold setN
  rw [if_neg (fun z => n z.2)]
/-! ### a pass over the rules -/
open Classical in
noncomputable def lowOf (P : Int → Prop) : Option Int := if h : ∃ o, Low o P then Classical.choose h else none
theorem lowOf_eq {o : Option Int} {P : Int → Prop} (h : Low o P) : lowOf P = o := by
  have e : ∃ o, Low o P := ⟨o, h⟩
  unfold lowOf
  rw [dif_pos e]
  exact (Classical.choose_spec e).uniq h
open Classical in
noncomputable def updR (G : Gm) (ns : List Nat) (a b : Nat) (N : NF) (r : Nat) : NF := match G.heads[r]?, G.parts[r]? with
  | some g, some ps => match lowOf (RuleP (priceF G.cnt ns N) ps a b) with
    | some i => if ∀ j, N g a b = some j → i < j then setN N g a b i else N
    | none => N
  | _, _ => N
noncomputable def passN (G : Gm) (ns : List Nat) (a b : Nat) (N : NF) (i : Nat) : NF := (List.range i).foldl (updR G ns a b) N
theorem passN_succ (G : Gm) (ns : List Nat) (a b : Nat) (N : NF) (i : Nat) : passN G ns a b N (i + 1) = updR G ns a b (passN G ns a b N i) i := by
  unfold passN
  rw [List.range_succ, List.foldl_append]
  rfl
/-- nowhere more -/
def LeN (N' N : NF) (a b : Nat) : Prop := ∀ g j, N g a b = some j → ∃ i, i ≤ j ∧ N' g a b = some i
theorem updR_cases (G : Gm) (ns : List Nat) (a b : Nat) (N : NF) (r : Nat) : updR G ns a b N r = N ∨ ∃ g i, G.heads[r]? = some g ∧ (∀ j, N g a b = some j → i < j) ∧ updR G ns a b N r = setN N g a b i ∧ ∃ ps, G.parts[r]? = some ps ∧ lowOf (RuleP (priceF G.cnt ns N) ps a b) = some i := by
  unfold updR
  cases hg : G.heads[r]? with
  | none => exact .inl rfl
  | some g =>
    cases hp : G.parts[r]? with
    | none => exact .inl rfl
    | some ps =>
      dsimp only
      cases hl : lowOf (RuleP (priceF G.cnt ns N) ps a b) with
      | none => exact .inl rfl
      | some i =>
        dsimp only
        by_cases c : ∀ j, N g a b = some j → i < j
        · rw [if_pos c]
          exact .inr ⟨g, i, rfl, c, rfl, ps, rfl, hl⟩
        · rw [if_neg c]
          exact .inl rfl
theorem lowOf_some {P : Int → Prop} {i : Int} (h : lowOf P = some i) : P i := by
  unfold lowOf at h
  split at h
  · rename_i z
    have := Classical.choose_spec z
    rw [h] at this
    exact this.1
  · cases h
theorem setN_at (N : NF) (g a b : Nat) (i : Int) : setN N g a b i g a b = some i := by
  unfold setN
  rw [if_pos ⟨rfl, rfl, rfl⟩]
theorem setN_le (N : NF) (g a b : Nat) (i : Int) (h : ∀ j, N g a b = some j → i < j) : ∀ g' j, N g' a b = some j → ∃ u, u ≤ j ∧ setN N g a b i g' a b = some u := fun g' j hj => by
  unfold setN
  by_cases e : g' = g ∧ a = a ∧ b = b
  · rw [if_pos e]
    rw [e.1] at hj
    exact ⟨i, Int.le_of_lt (h j hj), rfl⟩
  · rw [if_neg e]
    exact ⟨j, Int.le_refl _, hj⟩
theorem updR_le (G : Gm) (ns : List Nat) (a b : Nat) (N : NF) (r : Nat) : LeN (updR G ns a b N r) N a b ∧ Agr a b N (updR G ns a b N r) := by
  rcases updR_cases G ns a b N r with e | ⟨g, i, hg, hlt, e, _⟩
  · rw [e]
    exact ⟨fun g j h => ⟨j, Int.le_refl _, h⟩, fun _ _ _ _ => rfl⟩
  · rw [e]
    exact ⟨setN_le N g a b i hlt, setN_agr N g a b i⟩
/-- something is less -/
def LtN (N' N : NF) (a b : Nat) (n : Nat) : Prop := ∃ g i, g < n ∧ N' g a b = some i ∧ ∀ j, N g a b = some j → i < j
theorem LtN.le {N'' N' N : NF} {a b n : Nat} (h : LtN N' N a b n) (l : LeN N'' N' a b) : LtN N'' N a b n := by
  obtain ⟨g, i, hg, h1, h2⟩ := h
  obtain ⟨i', hi, e⟩ := l g i h1
  exact ⟨g, i', hg, e, fun j hj => by have := h2 j hj; omega⟩
theorem LeN.trans {N'' N' N : NF} {a b : Nat} (h : LeN N'' N' a b) (l : LeN N' N a b) : LeN N'' N a b := fun g j hj => by
  obtain ⟨i, hi, e⟩ := l g j hj
  obtain ⟨i', hi', e'⟩ := h g i e
  exact ⟨i', by omega, e'⟩
/-- the passes that are left -/
inductive Fin (G : Gm) (ns : List Nat) (a b : Nat) : Nat → NF → Prop
  | stop {N : NF} (h : ¬ LtN (passN G ns a b N G.rules) N a b G.grp) : Fin G ns a b 0 N
  | go {N : NF} {k : Nat} (h : LtN (passN G ns a b N G.rules) N a b G.grp) (r : Fin G ns a b k (passN G ns a b N G.rules)) : Fin G ns a b (k + 1) N
def nonesOf (f : Nat → Option Nat) : List Nat → Nat
  | [] => 0
  | g :: L => (match f g with | none => 1 | some _ => 0) + nonesOf f L
def sumOf (f : Nat → Option Nat) : List Nat → Nat
  | [] => 0
  | g :: L => (match f g with | none => 0 | some j => j) + sumOf f L
theorem lower_vec (f f' : Nat → Option Nat) (le : ∀ g j, f g = some j → ∃ i, i ≤ j ∧ f' g = some i) : ∀ L : List Nat, nonesOf f' L ≤ nonesOf f L ∧ (nonesOf f' L = nonesOf f L → sumOf f' L ≤ sumOf f L) ∧
    ((∃ g ∈ L, ∃ i, f' g = some i ∧ ∀ j, f g = some j → i < j) → nonesOf f' L < nonesOf f L ∨ sumOf f' L < sumOf f L)
  | [] => ⟨Nat.le_refl _, fun _ => Nat.le_refl _, fun ⟨g, h, _⟩ => nomatch h⟩
  | g :: L => by
    obtain ⟨h1, h2, h3⟩ := lower_vec f f' le L
    have split3 : (∃ g' ∈ g :: L, ∃ i, f' g' = some i ∧ ∀ j, f g' = some j → i < j) → (∃ i, f' g = some i ∧ ∀ j, f g = some j → i < j) ∨ (∃ g' ∈ L, ∃ i, f' g' = some i ∧ ∀ j, f g' = some j → i < j) := by
      rintro ⟨g', hg', q⟩
      rcases List.mem_cons.mp hg' with rfl | hg'
      · exact .inl q
      · exact .inr ⟨g', hg', q⟩
    unfold nonesOf sumOf
    cases e : f g with
    | none =>
      cases e' : f' g with
      | none =>
        dsimp only
        refine ⟨by omega, fun z => by have := h2 (by omega); omega, fun z => ?_⟩
        rcases split3 z with ⟨i, q, _⟩ | q
        · rw [e'] at q
          cases q
        · have := h3 q
          omega
      | some i =>
        dsimp only
        exact ⟨by omega, fun z => by omega, fun _ => by omega⟩
    | some j =>
      obtain ⟨i, hi, e'⟩ := le g j e
      rw [e']
      dsimp only
      refine ⟨by omega, fun z => by have := h2 (by omega); omega, fun z => ?_⟩
      rcases split3 z with ⟨i2, q, q2⟩ | q
      · rw [e'] at q
        cases q
        have := q2 j e
        by_cases e2 : nonesOf f' L = nonesOf f L
        · have := h2 e2
          omega
        · omega
      · by_cases e2 : nonesOf f' L = nonesOf f L
        · have := h3 q
          omega
        · omega
def vecN (N : NF) (a b : Nat) (g : Nat) : Option Nat := (N g a b).map Int.toNat
theorem passN_le (G : Gm) (ns : List Nat) (a b : Nat) (N : NF) : ∀ i, LeN (passN G ns a b N i) N a b ∧ Agr a b N (passN G ns a b N i)
  | 0 => ⟨fun g j h => ⟨j, Int.le_refl _, h⟩, fun _ _ _ _ => rfl⟩
  | i + 1 => by
    obtain ⟨h1, h2⟩ := passN_le G ns a b N i
    obtain ⟨u1, u2⟩ := updR_le G ns a b (passN G ns a b N i) i
    rw [passN_succ]
    exact ⟨u1.trans h1, h2.trans u2⟩
/-- Q is kept by a step of a rule and tells that the numbers aren't below 0 -/
theorem fin_ex (G : Gm) (ns : List Nat) (a b : Nat) (Q : NF → Prop) (hQ : ∀ N, Q N → ∀ g u, N g a b = some u → 0 ≤ u) (hp : ∀ N, Q N → Q (passN G ns a b N G.rules)) : ∀ (n s : Nat) (N : NF), Q N → nonesOf (vecN N a b) (List.range G.grp) = n → sumOf (vecN N a b) (List.range G.grp) = s → ∃ k, Fin G ns a b k N := by
  intro n
  induction n using Nat.strongRecOn with
  | _ n ihn =>
    intro s
    induction s using Nat.strongRecOn with
    | _ s ihs =>
      intro N q e1 e2
      by_cases h : LtN (passN G ns a b N G.rules) N a b G.grp
      · have q' := hp N q
        have low := lower_vec (vecN N a b) (vecN (passN G ns a b N G.rules) a b) (fun g j hj => by
          unfold vecN at hj ⊢
          obtain ⟨u, hu, rfl⟩ := Option.map_eq_some_iff.mp hj
          obtain ⟨i, hi, e⟩ := (passN_le G ns a b N G.rules).1 g u hu
          exact ⟨i.toNat, by omega, by rw [e]; rfl⟩) (List.range G.grp)
        have st := low.2.2 (by
          obtain ⟨g, i, hg, h1, h2⟩ := h
          refine ⟨g, List.mem_range.mpr hg, i.toNat, by unfold vecN; rw [h1]; rfl, fun j hj => ?_⟩
          unfold vecN at hj
          obtain ⟨u, hu, rfl⟩ := Option.map_eq_some_iff.mp hj
          have := h2 u hu
          have := hQ _ q' g i h1
          omega)
        obtain ⟨k, f⟩ : ∃ k, Fin G ns a b k (passN G ns a b N G.rules) := by
          by_cases z : nonesOf (vecN (passN G ns a b N G.rules) a b) (List.range G.grp) < n
          · exact ihn _ z _ _ q' rfl rfl
          · have z1 : nonesOf (vecN (passN G ns a b N G.rules) a b) (List.range G.grp) = n := by have := low.1; omega
            exact ihs _ (by omega) _ q' z1 rfl
        exact ⟨k + 1, .go h f⟩
      · exact ⟨0, .stop h⟩
theorem snd_upd {G : Gm} {ns : List Nat} {a b r : Nat} {N : NF} (hab : a ≤ b) (hb : b ≤ ns.length) (hr : r < G.rules) (h : Snd G ns N) : Snd G ns (updR G ns a b N r) := by
  rcases updR_cases G ns a b N r with e | ⟨g, i, hg, hlt, e, ps, hp, hl⟩
  · rw [e]
    exact h
  · rw [e]
    intro g' x y u hu
    unfold setN at hu
    by_cases c : g' = g ∧ x = a ∧ y = b
    · rw [if_pos c] at hu
      obtain ⟨rfl, rfl, rfl⟩ := c
      cases hu
      exact der_cl G ns r _ ps _ _ _ hr hg hp hab hb (ruleP_X h (lowOf_some hl))
    · rw [if_neg c] at hu
      exact h g' x y u hu
theorem snd_pass {G : Gm} {ns : List Nat} {a b : Nat} {N : NF} (hab : a ≤ b) (hb : b ≤ ns.length) (h : Snd G ns N) : ∀ i, i ≤ G.rules → Snd G ns (passN G ns a b N i)
  | 0, _ => h
  | i + 1, hi => by
    rw [passN_succ]
    exact snd_upd hab hb (by omega) (snd_pass hab hb h i (by omega))
theorem fin_snd {G : Gm} {ns : List Nat} {a b : Nat} (hab : a ≤ b) (hb : b ≤ ns.length) {N : NF} (h : Snd G ns N) : ∃ k, Fin G ns a b k N :=
  fin_ex G ns a b (Snd G ns) (fun N q g u hu => der_nonneg (q g a b u hu)) (fun N q => snd_pass hab hb q _ (Nat.le_refl _)) _ _ N h rfl rfl
end M

/-! text: P12 -/
set_option Elab.async false
set_option linter.all false
set_option maxRecDepth 100000
set_option maxHeartbeats 4000000
namespace M
open PySem PySem.Spec PyProof.Rows L2
/-- the inner sums of rule r, as a list at p -/
def InnAt (T : TS0) (nN : NF) (a b r : Nat) (H : Hp) (p : Addr) : Prop := ∃ (os : List (Option Int)) (ps : List Nat), T.G.parts[r]? = some ps ∧ H p = some (.lst (os.map optV)) ∧ os.length = ps.length ∧
  ∀ (d : Nat) (o : Option Int), os[d]? = some o → Low o (fun v => ∃ x, a < x ∧ x < b ∧ CutP (priceF T.G.cnt T.ns nN) ps d a b x v)
theorem Tb.out {K : PySem.W.Frag} {T : TS0} {H : Hp} {N S : NKvs} {m : Int} (t : Tb K T H N S m) {p : Addr} {xs : List V} (h : H p = some (.lst xs)) : p ∉ [T.s, T.dn, T.ds] := by
  simp only [List.mem_cons, List.not_mem_nil, or_false]
  rintro (z | z | z)
  · rw [z, t.ob] at h
    cases h
  · rw [z, t.hn] at h
    cases h
  · rw [z, t.hs] at h
    cases h
theorem Tb.outr {K : PySem.W.Frag} {T : TS0} {H : Hp} {N S : NKvs} {m : Int} (t : Tb K T H N S m) {p : Addr} {x y : Int} (h : H p = some (.rng x y)) : p ∉ [T.s, T.dn, T.ds] := by
  simp only [List.mem_cons, List.not_mem_nil, or_false]
  rintro (z | z | z)
  · rw [z, t.ob] at h
    cases h
  · rw [z, t.hn] at h
    cases h
  · rw [z, t.hs] at h
    cases h
theorem InnAt.stay {K : PySem.W.Frag} {T : TS0} {nN : NF} {a b r : Nat} {H H' : Hp} {p : Addr} {N S : NKvs} {m : Int} (t : Tb K T H N S m) (h : InnAt T nN a b r H p) (st : Stay T H H') : InnAt T nN a b r H' p := by
  obtain ⟨os, ps, h1, h2, h3, h4⟩ := h
  exact ⟨os, ps, h1, st _ _ h2 (t.out h2), h3, h4⟩
/-- the sums but those over a, b are as they were -/
def Off (a b : Nat) (S S' : NKvs) : Prop := ∀ k, (∀ r d, k ≠ k4 r d a b) → valV S' k = valV S k
theorem add_call {K : PySem.W.Frag} {T : TS0} {H1 : Hp} {S N1 S1 : NKvs} {m1 : Int} {nN nN1 : NF} {a b r : Nat} {p : Addr} (hab : a ≤ b) (hb : b ≤ T.ns.length) (hr : r < T.G.rules) (t1 : Tb K T H1 N1 S1 m1) (ag : Agr a b nN nN1) (off : Off a b S S1)
    (sok : ∀ x y, a ≤ x → x ≤ y → y ≤ b → ¬ (x = a ∧ y = b) → SOk T.G S (priceF T.G.cnt T.ns nN) x y) (inn : InnAt T nN a b r H1 p)
    : ∃ (os : List (Option Int)) (ps : List Nat), T.G.parts[r]? = some ps ∧ H1 p = some (.lst (os.map optV)) ∧ os.length = ps.length ∧ (∀ (d : Nat) (o : Option Int), os[d]? = some o → Low o (fun v => ∃ x, a < x ∧ x < b ∧ CutP (priceF T.G.cnt T.ns nN1) ps d a b x v)) ∧
      (a < b → ∀ d, d < ps.length → ∃ o, valV S1 (k4 r d a a) = some (optV o) ∧ Low o (SumP (priceF T.G.cnt T.ns nN1) ps d a a)) := by
  obtain ⟨os, ps, h1, h2, h3, h4⟩ := inn
  have hR := t1.bg.2.2.2.2.1
  refine ⟨os, ps, h1, h2, h3, fun d o hd => ?_, fun hlt d hd => ?_⟩
  · refine (h4 d o hd).congr fun v => ⟨?_, ?_⟩
    · rintro ⟨x, q1, q2, q3⟩
      exact ⟨x, q1, q2, (ag.cut q1 q2 v).mp q3⟩
    · rintro ⟨x, q1, q2, q3⟩
      exact ⟨x, q1, q2, (ag.cut q1 q2 v).mpr q3⟩
  · obtain ⟨o, q1, q2⟩ := sok a a (Nat.le_refl _) (Nat.le_refl _) hab (by omega) r ps hr h1 d (by omega)
    refine ⟨o, ?_, q2.congr fun v => ag.sum (by omega) v⟩
    rw [off _ fun r' d' z => by have := (k4_inj z).2.2.2; omega]
    exact q1
theorem updR_eq {G : Gm} {ns : List Nat} {a b r g : Nat} {ps : List Nat} {N : NF} {o : Option Int} (hg : G.heads[r]? = some g) (hp : G.parts[r]? = some ps) (hl : Low o (RuleP (priceF G.cnt ns N) ps a b)) :
    ((o = none ∨ ∃ i j, o = some i ∧ N g a b = some j ∧ j ≤ i) → updR G ns a b N r = N) ∧ (∀ i, o = some i → (∀ j, N g a b = some j → i < j) → updR G ns a b N r = setN N g a b i) := by
  have e := lowOf_eq hl
  constructor
  · intro h
    unfold updR
    rw [hg, hp]
    dsimp only
    rw [e]
    rcases h with rfl | ⟨i, j, rfl, hj, hji⟩
    · rfl
    · dsimp only
      rw [if_neg (fun z => by have := z j hj; omega)]
  · intro i hi hlt
    subst hi
    unfold updR
    rw [hg, hp]
    dsimp only
    rw [e]
    dsimp only
    rw [if_pos hlt]
def LayW (K : PySem.W.Frag) (T : TS0) (H3 : Hp) (S : NKvs) (m : Int) (nN : NF) (a b : Nat) (rg D : Addr) : Nat → L2.St → Hp → Prop := fun mm σ H5 => ∃ (v6 : Option V) (f : Bool) (N5 S5 : NKvs) (nN5 : NF), σ = [some (.ref T.s), some (nv a), some (nv b), some (.ref rg), some (.ref D), some (.bl f), v6] ∧
  Tb K T H5 N5 S5 m ∧ Stay T H3 H5 ∧ Nv N5 nN5 ∧ Agr a b nN nN5 ∧ Snd T.G T.ns nN5 ∧ Off a b S S5 ∧ ((f = true ∧ ∃ k, mm = k + 1 ∧ Fin T.G T.ns a b k nN5) ∨ (f = false ∧ SOk T.G S5 (priceF T.G.cnt T.ns nN5) a b ∧ ClAt T.G T.ns nN5 a b))
def sp_Tabling_lay (K : PySem.W.Frag) : Sp := fun vs H Q _ => ∃ (T : TS0) (N S : NKvs) (m : Int) (nN : NF) (a b : Nat), vs = [.ref T.s, nv a, nv b] ∧ Tb K T H N S m ∧ Nv N nN ∧ a ≤ b ∧ b ≤ T.ns.length ∧
  (∀ x y, a ≤ x → x ≤ y → y ≤ b → ¬ (x = a ∧ y = b) → SOk T.G S (priceF T.G.cnt T.ns nN) x y) ∧ Snd T.G T.ns nN ∧
  ((∃ u, nN 0 a b = some u) → ∀ H' S', Tb K T H' N S' m → Stay T H H' → Off a b S S' → SOk T.G S' (priceF T.G.cnt T.ns nN) a b → Q .non H') ∧
  (nN 0 a b = none → ∀ H' N' S' nN', Tb K T H' N' S' (m + T.G.grp) → Stay T H H' → Nv N' nN' → Agr a b nN nN' → Snd T.G T.ns nN' → Off a b S S' → SOk T.G S' (priceF T.G.cnt T.ns nN') a b → ClAt T.G T.ns nN' a b → Q .non H')
theorem len_Tabling_lay {K : PySem.W.Frag} (vs : List V) (H : Hp) (Q : VK) (E : XK) (h : sp_Tabling_lay K vs H Q E) : vs.length = 3 := by
  obtain ⟨T, N, S, m, nN, a, b, rfl, _⟩ := h
  rfl
abbrev N_Tabling_lay : List Str := ["self", "start", "end", "rules", "inner", "again", "rule"]
def t_Tabling_lay (K : PySem.W.Frag) (P : Program) (w : World) : TS :=
  (tSeq (tAsg (tCB rRange1 (tCons (tCB (rLenSeq K) (tCons (tF (He.ga K "Grammar") (tF (He.ga K "Tabling") (tVar 0) "grammar") "rules") tNil)) tNil)) (gName 3))
    (tSeq (tAsg (tLc (iRngV (tVar 3)) (gName 6) tYes (tMt (He.ga K "Tabling") "inner_sums" (sp_Tabling_inner_sums K) (tVar 0) (tCons (tVar 6) (tCons (tVar 1) (tCons (tVar 2) tNil)))) [6]) (gName 4))
    (tSeq (tIfS (tB (tDIn (tTup (tCons (tC (.int 0)) (tCons (tVar 1) (tCons (tVar 2) tNil)))) (tF (He.ga K "Tabling") (tVar 0) "numbers"))) (tSeq (tFor (iRngV (tVar 3)) (gName 6) (tDrop (tMt (He.ga K "Tabling") "add_up" (sp_Tabling_add_up K) (tVar 0) (tCons (tVar 6) (tCons (tVar 1) (tCons (tVar 2) (tCons (tOp (rIxL K) (tVar 4) (tVar 6)) tNil)))))))
    tRetN) tNext)
    (tSeq (sFAug (He.ga K "Tabling") (tVar 0) (tCB (rLenSeq K) (tCons (tF (He.ga K "Grammar") (tF (He.ga K "Tabling") (tVar 0) "grammar") "groups") tNil)) rAdd "made")
    (tSeq (tAsg (tC (.bl true)) (gName 5))
    (tWhile (tB (tVar 5)) (tSeq (tAsg (tC (.bl false)) (gName 5))
    (tFor (iRngV (tVar 3)) (gName 6) (tSeq (tDrop (tMt (He.ga K "Tabling") "add_up" (sp_Tabling_add_up K) (tVar 0) (tCons (tVar 6) (tCons (tVar 1) (tCons (tVar 2) (tCons (tOp (rIxL K) (tVar 4) (tVar 6)) tNil))))))
    (tIfS (tB (tMt (He.ga K "Tabling") "lowers" (sp_Tabling_lowers K) (tVar 0) (tCons (tVar 6) (tCons (tVar 1) (tCons (tVar 2) tNil))))) (tAsg (tC (.bl true)) (gName 5)) tNext))))))))))
theorem pure_Tabling_lay {K : PySem.W.Frag} {P : Program} {w : World} (vs : List V) (H : Hp) (Q : VK) (E : XK) (h : sp_Tabling_lay K vs H Q E) : t_Tabling_lay K P w { nx := fun _ H' => Q .non H', rt := Q } (start N_Tabling_lay vs) H := by
  obtain ⟨T, N, S, m, nN, a, b, rfl, t, hN, hab, hb, sok, snd, q1, q2⟩ := h
  have hbn := t.bg.2.1
  have hR := t.bg.2.2.2.2.1
  have hRp := t.bg.2.2.2.2.2.2.2
  obtain ⟨dx2, fs, h0, _, ⟨tr, xr, lr, hxr, zr⟩, ⟨tg, xg, lg, hxg, zg⟩, _, _⟩ := t.grm.ob
  refine ⟨_, rfl, T.s, _, _, .ref T.g, rfl, t.ob, rfl, T.g, dx2, fs, .ref tr, rfl, t.base _ _ h0, lr, tr, xr, rfl, .inr (t.base.sqt hxr), _, rfl, fun rg hrg => ?_⟩
  rw [zr]
  have e1 := Same.new (o := .rng 0 (T.G.rules : Nat)) hrg
  have t1 := t.same e1
  have hrng : (upd H rg (.rng 0 (T.G.rules : Nat))) rg = some (.rng 0 (T.G.rules : Nat)) := upd_same
  generalize upd H rg (.rng 0 (T.G.rules : Nat)) = H1 at e1 t1 hrng
  -- the inner sums
  have hrn : ((T.G.rules : Int) - 0).toNat = T.G.rules := by omega
  refine ⟨_, rfl, rg, 0, _, rfl, hrng, by omega, by omega, by omega, by omega, fun D hD => ?_⟩
  rw [hrn]
  refine lc_it walk_range (fun i H2 => Same H1 H2 ∧ ∃ ias : List Addr, H2 D = some (.lst (ias.map V.ref)) ∧ ias.length = i ∧ ∀ (j : Nat) (p : Addr), ias[j]? = some p → InnAt T nN a b j H2 p ∧ p ≠ D) ⟨Same.new hD, [], upd_same, rfl, fun j p z => nomatch z⟩ (fun _ _ _ _ => trivial) (fun i x Ha Hb hi pv y => ?_) (fun H2 pv => ?_)
  · obtain ⟨e2, ias, hD2, hl, hin⟩ := pv
    obtain ⟨rfl, rfl⟩ := y
    refine ⟨rfl, yes_go ?_⟩
    have t2 := t1.same e2
    obtain ⟨ps, hps⟩ : ∃ ps, T.G.parts[i]? = some ps := ⟨T.G.parts[i]'(by omega), List.getElem?_eq_getElem (by omega)⟩
    refine ⟨_, rfl, T.s, _, _, rfl, t2.ob, rfl, _, rfl, _, rfl, _, rfl, T, N, S, m, nN, i, a, b, ps, ?_, t2, hN, hps, hab, hb, fun d x hd h1 h2 => ?_, fun p os H3 e3 hp hp3 hol hlow => ?_⟩
    · show [V.ref T.s, V.int (0 + (i : Nat)), nv a, nv b] = _
      rw [Int.zero_add]
    · exact sok a x (Nat.le_refl _) (by omega) (by omega) (by omega) i ps hi hps d (by omega)
    · refine ⟨_, e3 _ _ hD2, by rw [List.length_map, hl, sizeLine_eq]; omega, Same.mut (e2.trans e3) hD, ias ++ [p], by rw [upd_same, List.map_append]; rfl, by rw [List.length_append, hl]; rfl, fun j p' hj => ?_⟩
      have keep : InnAt T nN a b j H3 p' ∧ p' ≠ D := by
        rcases Nat.lt_or_ge j ias.length with z | z
        · rw [List.getElem?_append_left z] at hj
          obtain ⟨⟨os2, ps2, g1, g2, g3⟩, g4⟩ := hin j p' hj
          exact ⟨⟨os2, ps2, g1, e3 _ _ g2, g3⟩, g4⟩
        · rw [List.getElem?_append_right z] at hj
          have hj0 : j = i := by
            have := (List.getElem?_eq_some_iff.mp hj).1
            simp only [List.length_cons, List.length_nil] at this
            omega
          subst hj0
          rw [hl, Nat.sub_self] at hj
          cases hj
          exact ⟨⟨os, ps, hps, hp3, hol, hlow⟩, fun z => by rw [z, hD2] at hp; cases hp⟩
      obtain ⟨⟨os2, ps2, g1, g2, g3⟩, ne⟩ := keep
      exact ⟨⟨os2, ps2, g1, by rw [upd_ne ne]; exact g2, g3⟩, ne⟩
  · obtain ⟨e2, ias, hD2, hl, hin⟩ := pv
    have e12 : Same H H2 := e1.trans e2
    have t2 := t.same e12
    have hrng2 := e2 _ _ hrng
    have oD := t2.out hD2
    have oR := t2.outr hrng2
    -- the key of the start
    refine ⟨_, rfl, _, rfl, (show 3 ≤ sizeLine by decide), fun U hU => ?_⟩
    have e3 := Same.new (o := .tup [.int 0, nv a, nv b]) hU
    have hU2 : (upd H2 U (.tup [.int 0, nv a, nv b])) U = some (.tup ((k3 0 a b).map kV)) := upd_same
    generalize upd H2 U (.tup [.int 0, nv a, nv b]) = H3 at e3 hU2
    have t3 := t2.same e3
    have g3 : DGet H3 T.dn (.ref U) ((nN 0 a b).map V.int) := by
      have := DGet.t (k := k3 0 a b) t3.hn hU2
      rwa [hN] at this
    refine ⟨_, rfl, T.s, _, _, .ref T.dn, rfl, t3.ob, rfl, T.dn, _, rfl, g3, _, rfl, ?_⟩
    have e13 : Same H H3 := e12.trans e3
    have hD3 := e3 _ _ hD2
    have hR3 := e3 _ _ hrng2
    have hin3 : ∀ (j : Nat) (p : Addr), ias[j]? = some p → InnAt T nN a b j H3 p := fun j p hj => by
      obtain ⟨os2, ps2, g1, g2, g3⟩ := (hin j p hj).1
      exact ⟨os2, ps2, g1, e3 _ _ g2, g3⟩
    have hget : ∀ i, i < T.G.rules → ∃ p, ias[i]? = some p ∧ atI (ias.map V.ref) (i : Int) = some (.ref p) := fun i hi => by
      have : ias[i]? = some (ias[i]'(by omega)) := List.getElem?_eq_getElem (by omega)
      exact ⟨_, this, atI_nat (by rw [List.getElem?_map, this]; rfl)⟩
    cases hn : nN 0 a b with
    | some u =>
      refine ⟨_, rfl, rg, 0, _, rfl, hR3, by omega, by omega, by omega, by omega, ?_⟩
      rw [hrn]
      refine for_it walk_range (fun i σ H4 => (∃ v6, σ = [some (.ref T.s), some (nv a), some (nv b), some (.ref rg), some (.ref D), none, v6]) ∧ ∃ S4, Tb K T H4 N S4 m ∧ Stay T H3 H4 ∧ Off a b S S4 ∧
        ∀ r, r < i → ∀ ps, T.G.parts[r]? = some ps → ∀ d, d ≤ ps.length → ∃ o, valV S4 (k4 r d a b) = some (optV o) ∧ Low o (SumP (priceF T.G.cnt T.ns nN) ps d a b)) ⟨⟨_, rfl⟩, S, t3, But.refl _ _, fun _ _ => rfl, fun r hr => absurd hr (Nat.not_lt_zero _)⟩ (fun _ _ _ _ _ => trivial) (fun i x σ H4 H5 hi pv y => ?_) (fun σ H4 pv => ?_)
      · obtain ⟨⟨v6, rfl⟩, S4, t4, st4, off4, ok4⟩ := pv
        obtain ⟨rfl, rfl⟩ := y
        obtain ⟨p, hp, hat⟩ := hget i hi
        refine ⟨_, rfl, T.s, _, _, rfl, t4.ob, rfl, _, rfl, _, rfl, _, rfl, _, rfl, _, rfl, D, _, _, .ref p, rfl, rfl, .inl (.inl (st4 _ _ hD3 oD)), ?_, ?_⟩
        · show atI (ias.map V.ref) (0 + (i : Nat)) = _
          rw [Int.zero_add]
          exact hat
        · obtain ⟨os, ps0, c1, c2, c3, c4, c5⟩ := add_call (nN := nN) (nN1 := nN) hab hb hi t4 (fun _ _ _ _ => rfl) off4 sok ((hin3 i p hp).stay t3 st4)
          refine ⟨T, N, S4, m, nN, i, a, b, ps0, p, os, ?_, t4, hN, c1, by omega, hab, hb, c2, c3, c4, c5, fun S5 H6 t5 st5 k5 ok5 => ⟨⟨_, rfl⟩, S5, t5, st4.trans st5, fun k hk => (k5 k fun d => hk i d).trans (off4 k hk), fun r hr ps hps d hd => ?_⟩⟩
          · show [V.ref T.s, V.int (0 + (i : Nat)), nv a, nv b, V.ref p] = _
            rw [Int.zero_add]
          by_cases z : r = i
          · subst z
            rw [c1] at hps
            cases hps
            exact ok5 d hd
          · obtain ⟨o, g1, g2⟩ := ok4 r (by omega) ps hps d hd
            exact ⟨o, by rw [k5 _ fun d' z2 => z (k4_inj z2).1]; exact g1, g2⟩
      · obtain ⟨⟨v6, rfl⟩, S4, t4, st4, off4, ok4⟩ := pv
        exact q1 ⟨u, hn⟩ H4 S4 t4 ((Stay.of e13).trans st4) off4 fun r ps hr hp d hd => ok4 r hr ps hp d hd
    | none =>
      refine ⟨_, rfl, T.s, _, _, .int m, rfl, t3.ob, rfl, _, rfl, T.s, _, _, .ref T.g, rfl, t3.ob, rfl, T.g, dx2, fs, .ref tg, rfl, t3.base _ _ h0, lg, tg, xg, rfl, .inr (t3.base.sqt hxg), m, _, rfl, rfl, T.dx, _, t3.ob, (show 6 < 1000 by decide), ?_⟩
      have t4 := t3.setM (m' := m + T.G.grp)
      have e4 : upd H3 T.s (.ins (He.ga K "Tabling") T.dx (putF "made" (.int (m + (xg.length : Nat))) (tabF T m))) = upd H3 T.s (.ins (He.ga K "Tabling") T.dx (tabF T (m + T.G.grp))) := by
        rw [zg]
        rfl
      have st4 : Stay T H3 (upd H3 T.s (.ins (He.ga K "Tabling") T.dx (tabF T (m + T.G.grp)))) := (But.refl _ H3).put (by simp)
      rw [e4]
      generalize upd H3 T.s (.ins (He.ga K "Tabling") T.dx (tabF T (m + T.G.grp))) = H4 at t4 st4
      obtain ⟨k0, hk0⟩ := fin_snd (G := T.G) (ns := T.ns) hab hb snd
      refine ⟨LayW K T H3 S (m + T.G.grp) nN a b rg D, ⟨k0 + 1, none, true, N, S, nN, rfl, t4, st4, hN, fun _ _ _ _ => rfl, snd, fun _ _ => rfl, .inl ⟨rfl, k0, rfl, hk0⟩⟩, fun mm σ H5 wv => ?_⟩
      obtain ⟨v6, f, N5, S5, nN5, rfl, t5, st5, hN5, ag5, snd5, off5, wv⟩ := wv
      refine ⟨_, rfl, f, rfl, ?_⟩
      rcases wv with ⟨rfl, k, rfl, hk⟩ | ⟨rfl, sok5, cl5⟩
      · rw [if_pos rfl]
        refine ⟨fun σ' H' => ∃ m', m' < k + 1 ∧ LayW K T H3 S (m + T.G.grp) nN a b rg D m' σ' H', fun _ _ h => h, ?_⟩
        refine ⟨_, rfl, rg, 0, _, rfl, st5 _ _ hR3 oR, by omega, by omega, by omega, by omega, ?_⟩
        rw [hrn]
        refine for_it walk_range (fun i σ H6 => ∃ (v6 : Option V) (f : Bool) (N6 S6 : NKvs), σ = [some (.ref T.s), some (nv a), some (nv b), some (.ref rg), some (.ref D), some (.bl f), v6] ∧ Tb K T H6 N6 S6 (m + T.G.grp) ∧ Stay T H3 H6 ∧ Nv N6 (passN T.G T.ns a b nN5 i) ∧ Off a b S S6 ∧
          ((f = true ∧ LtN (passN T.G T.ns a b nN5 i) nN5 a b T.G.grp) ∨ (f = false ∧ passN T.G T.ns a b nN5 i = nN5 ∧ ∀ r, r < i → ∀ ps, T.G.parts[r]? = some ps → (∀ d, d ≤ ps.length → ∃ o, valV S6 (k4 r d a b) = some (optV o) ∧ Low o (SumP (priceF T.G.cnt T.ns nN5) ps d a b)) ∧
            ∀ g v, T.G.heads[r]? = some g → RuleP (priceF T.G.cnt T.ns nN5) ps a b v → ∃ u, u ≤ v ∧ nN5 g a b = some u)))
          ⟨v6, false, N5, S5, rfl, t5, st5, hN5, off5, .inr ⟨rfl, rfl, fun r hr => absurd hr (Nat.not_lt_zero _)⟩⟩ (fun _ _ _ _ _ => trivial) (fun i x σ H6 H7 hi pv y => ?_) (fun σ H6 pv => ?_)
        · obtain ⟨v6', f, N6, S6, rfl, t6, st6, hN6, off6, alt⟩ := pv
          obtain ⟨rfl, rfl⟩ := y
          obtain ⟨p, hp, hat⟩ := hget i hi
          refine ⟨_, rfl, T.s, _, _, rfl, t6.ob, rfl, _, rfl, _, rfl, _, rfl, _, rfl, _, rfl, D, _, _, .ref p, rfl, rfl, .inl (.inl (st6 _ _ hD3 oD)), ?_, ?_⟩
          · show atI (ias.map V.ref) (0 + (i : Nat)) = _
            rw [Int.zero_add]
            exact hat
          · obtain ⟨os, ps, hps, c2, c3, c4, c5⟩ := add_call hab hb hi t6 (ag5.trans (passN_le T.G T.ns a b nN5 i).2) off6 sok ((hin3 i p hp).stay t3 st6)
            refine ⟨T, N6, S6, m + T.G.grp, _, i, a, b, ps, p, os, ?_, t6, hN6, hps, by omega, hab, hb, c2, c3, c4, c5, fun S7 H8 t7 st7 k7 ok7 => ?_⟩
            · show [V.ref T.s, V.int (0 + (i : Nat)), nv a, nv b, V.ref p] = _
              rw [Int.zero_add]
            have hRh := t7.bg.2.2.2.2.2.2.1
            obtain ⟨g, hg⟩ : ∃ g, T.G.heads[i]? = some g := ⟨T.G.heads[i]'(by omega), List.getElem?_eq_getElem (by omega)⟩
            have hgl : g < T.G.grp := t7.bg.2.2.2.2.2.1 g (List.mem_of_getElem? hg)
            obtain ⟨o, ho1, ho2, ho3⟩ : ∃ o : Option Int, (ps ≠ [] → valV S7 (k4 i ps.length a b) = some (optV o)) ∧ (ps = [] → o = some ((b : Int) - a)) ∧ Low o (RuleP (priceF T.G.cnt T.ns (passN T.G T.ns a b nN5 i)) ps a b) := by
              by_cases z : ps = []
              · refine ⟨some ((b : Int) - a), fun n => absurd z n, fun _ => rfl, ?_⟩
                refine ⟨by unfold RuleP; rw [if_pos z], fun v hv => ?_⟩
                unfold RuleP at hv
                rw [if_pos z] at hv
                omega
              · obtain ⟨o, g1, g2⟩ := ok7 ps.length (Nat.le_refl _)
                exact ⟨o, fun _ => g1, fun n => absurd n z, g2.congr fun v => by unfold RuleP; rw [if_neg z]⟩
            have ue := updR_eq hg hps ho3
            have off7 : Off a b S S7 := fun k hk => (k7 k fun d => hk i d).trans (off6 k hk)
            refine ⟨_, rfl, T.s, _, _, rfl, t7.ob, rfl, _, rfl, _, rfl, _, rfl, ?_⟩
            refine ⟨T, N6, S7, _, _, i, g, a, b, ps, o, (by show [V.ref T.s, V.int (0 + (i : Nat)), nv a, nv b] = _; rw [Int.zero_add]), t7, hN6, hps, hg, hab, hb, ho1, ho2, fun hc H9 e9 => ?_, fun u hu hlt H9 t9 st9 => ?_⟩
            · have eu := ue.1 hc
              refine ⟨false, rfl, _, f, N6, S7, rfl, t7.same e9, (st6.trans st7).trans (Stay.of e9), by rw [passN_succ, eu]; exact hN6, off7, ?_⟩
              rcases alt with ⟨rfl, lt⟩ | ⟨rfl, same, ok⟩
              · exact .inl ⟨rfl, by rw [passN_succ, eu]; exact lt⟩
              · refine .inr ⟨rfl, by rw [passN_succ, eu]; exact same, fun r hr ps' hps' => ?_⟩
                rw [same] at ok7 ho3 hc
                by_cases z : r = i
                · subst z
                  rw [hps] at hps'
                  cases hps'
                  refine ⟨ok7, fun g' v hg' hv => ?_⟩
                  rw [hg] at hg'
                  cases hg'
                  rcases hc with rfl | ⟨i1, j1, rfl, hj1, hle⟩
                  · exact absurd hv (ho3 v)
                  · exact ⟨j1, by have := ho3.2 v hv; omega, hj1⟩
                · obtain ⟨g1, g2⟩ := ok r (by omega) ps' hps'
                  refine ⟨fun d hd => ?_, g2⟩
                  obtain ⟨o', g3, g4⟩ := g1 d hd
                  exact ⟨o', by rw [k7 _ fun d' z2 => z (k4_inj z2).1]; exact g3, g4⟩
            · have eu := ue.2 u hu hlt
              refine ⟨true, rfl, _, true, _, S7, rfl, t9, (st6.trans st7).trans st9, by rw [passN_succ, eu]; exact hN6.put g a b u, off7, .inl ⟨rfl, ?_⟩⟩
              rcases alt with ⟨_, lt⟩ | ⟨_, same, ok⟩
              · rw [passN_succ]
                exact lt.le (updR_le T.G T.ns a b _ i).1
              · rw [passN_succ, eu, same]
                rw [same] at hlt
                exact ⟨g, u, hgl, setN_at _ g a b u, hlt⟩
        · obtain ⟨v6', f, N6, S6, rfl, t6, st6, hN6, off6, alt⟩ := pv
          rcases alt with ⟨rfl, lt⟩ | ⟨rfl, same, ok⟩
          · cases hk with
            | stop nl => exact absurd lt nl
            | go _ hk' => exact ⟨_, Nat.lt_succ_self _, v6', true, N6, S6, _, rfl, t6, st6, hN6, ag5.trans (passN_le T.G T.ns a b nN5 _).2, snd_pass hab hb snd5 _ (Nat.le_refl _), off6, .inl ⟨rfl, _, rfl, hk'⟩⟩
          · refine ⟨0, Nat.succ_pos _, v6', false, N6, S6, nN5, rfl, t6, st6, by rw [← same]; exact hN6, ag5, snd5, off6, .inr ⟨rfl, fun r ps hr hps d hd => (ok r hr ps hps).1 d hd, fun r g ps v hr hg hps hv => (ok r hr ps hps).2 g v hg hv⟩⟩
      · rw [if_neg (by decide)]
        exact q2 hn H5 N5 S5 nN5 t5 ((Stay.of e13).trans st5) hN5 ag5 snd5 off5 sok5 cl5
end M

/-! text: P13 -/
set_option Elab.async false
set_option linter.all false
set_option maxRecDepth 100000
set_option maxHeartbeats 4000000
namespace M
open PySem PySem.Spec PyProof.Rows L2
/-- a dict comprehension of tuple keys, by turns -/
theorem dct_it {J : It} {n : Nat} {G : Hp → Prop} {Y : Nat → Hp → V → Hp → Prop} (w : Walk J n G Y) {g : TG} {tt : TT} {tk tv : TE} {vs : List Nat} {σ : L2.St} {H1 : Hp} {D : Addr} {Qd : Hp → Prop} (Pv : Nat → Hp → Prop) (h0 : Pv 0 (upd H1 D (.dT []))) (hG : ∀ i H, i ≤ n → Pv i H → G H)
    (hs : ∀ i x H H', i < n → Pv i H → Y i H x H' → g x (wipe σ vs) H' fun σ2 H2 => wipe σ2 vs = wipe σ vs ∧ tt σ2 H2 fun b H3 =>
      if b = true then tk σ2 H3 fun y H4 => tv σ2 H4 fun z H5 => ∃ kvs k q, y = .ref q ∧ H5 q = some (.tup (k.map kV)) ∧ H5 D = some (.dT kvs) ∧ kvs.length < sizeLine ∧ Pv (i + 1) (upd H5 D (.dT (putK kvs k z))) else Pv (i + 1) H3) (hd : ∀ H, Pv n H → Qd H) :
    ∃ W : Nat → Nat → Hp → Prop, (∃ m, W 0 m (upd H1 D (.dT []))) ∧ ∀ i m H, W i m H →
      (J.stop i H ∧ Qd H) ∨ (J.go i H ∧ ∃ Nx : Hp → Prop, (∀ H', Nx H' → ∃ m', m' < m ∧ W (i + 1) m' H') ∧ ∀ x H', J.yld i H x H' → g x (wipe σ vs) H' fun σ2 H2 => wipe σ2 vs = wipe σ vs ∧ tt σ2 H2 fun b H3 =>
        if b = true then tk σ2 H3 fun y H4 => tv σ2 H4 fun z H5 => ∃ kvs k q, y = .ref q ∧ H5 q = some (.tup (k.map kV)) ∧ H5 D = some (.dT kvs) ∧ kvs.length < sizeLine ∧ Nx (upd H5 D (.dT (putK kvs k z))) else Nx H3) := by
  refine ⟨fun i m H => m = n - i ∧ i ≤ n ∧ Pv i H, ⟨n, by omega, Nat.zero_le _, h0⟩, ?_⟩
  rintro i m H ⟨rfl, hi, p⟩
  have q := hG i H hi p
  rcases Nat.lt_or_ge i n with hlt | hge
  · exact .inr ⟨w.goes i H hlt q, Pv (i + 1), fun H' p' => ⟨n - (i + 1), by omega, rfl, hlt, p'⟩, fun x H' y => hs i x H H' hlt p (w.yields i H x H' hlt q y)⟩
  · obtain rfl : i = n := Nat.le_antisymm hi hge
    exact .inl ⟨w.stops H q, hd H p⟩
theorem valV_mem {kvs : NKvs} {i : Nat} {k : List Key} {v : V} (nd : (kvs.map (·.1)).Nodup) (h : kvs[i]? = some (k, v)) : valV kvs k = some v := by
  induction kvs generalizing i with
  | nil => cases h
  | cons p r ih =>
    rw [List.map_cons, List.nodup_cons] at nd
    cases i with
    | zero =>
      cases h
      exact valV_pos rfl
    | succ i =>
      have h : r[i]? = some (k, v) := h
      rw [valV_neg]
      · exact ih nd.2 h
      · intro e
        exact nd.1 (e ▸ List.mem_map.mpr ⟨_, List.mem_of_getElem? h, rfl⟩)
theorem valV_out {kvs : NKvs} {k : List Key} (h : k ∉ kvs.map (·.1)) : valV kvs k = none := by
  induction kvs with
  | nil => rfl
  | cons p r ih =>
    rw [List.map_cons, List.mem_cons, not_or] at h
    rw [valV_neg (fun e => h.1 e.symm)]
    exact ih h.2
/-! ### right numbers -/
def Right (G : Gm) (ns : List Nat) (N : NF) (a b : Nat) : Prop := ∀ g, Low (N g a b) (Der G ns g a b)
theorem right_all {G : Gm} {ns : List Nat} {N : NF} (snd : Snd G ns N) (cl : ∀ x y, x ≤ y → y ≤ ns.length → ClAt G ns N x y) : ∀ x y, x ≤ y → y ≤ ns.length → Right G ns N x y := by
  have comp : ∀ g x y v, Der G ns g x y v → x ≤ y → y ≤ ns.length → ∃ u, u ≤ v ∧ N g x y = some u := fun g x y v d =>
    d (fun g x y v => x ≤ y → y ≤ ns.length → ∃ u, u ≤ v ∧ N g x y = some u) (fun r g ps a b v hr hg hp hab hb q _ _ => by
      have : ∃ v', v' ≤ v ∧ RuleP (priceF G.cnt ns N) ps a b v' := by
        unfold RuleX at q
        unfold RuleP
        split at q
        · rename_i z
          exact ⟨v, Int.le_refl _, by rw [if_pos z]; exact q⟩
        · rename_i z
          obtain ⟨v', h1, h2⟩ := sumX_P (N := N) (fun g x y w q1 q2 q3 q4 => q4 q2 (by omega)) q
          exact ⟨v', h1, by rw [if_neg z]; exact h2⟩
      obtain ⟨v', h1, h2⟩ := this
      obtain ⟨u, h3, h4⟩ := cl a b hab hb r g ps v' hr hg hp h2
      exact ⟨u, by omega, h4⟩)
  intro x y hx hy g
  cases e : N g x y with
  | none =>
    intro v d
    obtain ⟨u, _, h⟩ := comp g x y v d hx hy
    rw [e] at h
    cases h
  | some u =>
    refine ⟨snd g x y u e, fun v d => ?_⟩
    obtain ⟨u', h1, h2⟩ := comp g x y v d hx hy
    rw [e] at h2
    cases h2
    exact h1
theorem right_cl {G : Gm} {ns : List Nat} {N kN : NF} {a b : Nat} (snd : Snd G ns N) (hab : a ≤ b) (hb : b ≤ ns.length) (h : Right G ns kN a b) (e : ∀ g, N g a b = kN g a b) : ClAt G ns N a b := fun r g ps v hr hg hp q => by
  have d : Der G ns g a b v := der_cl G ns r g ps a b v hr hg hp hab hb (ruleP_X snd q)
  have l := h g
  rw [← e g] at l
  cases z : N g a b with
  | none =>
    rw [z] at l
    exact absurd d (l v)
  | some u =>
    rw [z] at l
    exact ⟨u, l.2 v d, rfl⟩
theorem Agr.cl {G : Gm} {ns : List Nat} {N N' : NF} {a b x y : Nat} (ag : Agr a b N N') (ne : x ≤ a → b ≤ y → False) (h : ClAt G ns N x y) (hxy : ¬ (x = a ∧ y = b)) : ClAt G ns N' x y := fun r g ps v hr hg hp q => by
  have : RuleP (priceF G.cnt ns N) ps x y v := by
    unfold RuleP at q ⊢
    split
    · rename_i z
      rwa [if_pos z] at q
    · rename_i z
      rw [if_neg z] at q
      exact (ag.sum ne v).mpr q
  obtain ⟨u, h1, h2⟩ := h r g ps v hr hg hp this
  exact ⟨u, h1, by rw [← ag g x y hxy]; exact h2⟩
/-- the stretches that aren't known, by width -/
def unkW (kN : NF) (n w i : Nat) : Nat := ((List.range i).filter fun s => (kN 0 s (s + w)).isNone).length
def unkN (kN : NF) (n w : Nat) : Nat := ((List.range w).map fun w => unkW kN n w (n + 1 - w)).sum
theorem unkW_succ (kN : NF) (n w i : Nat) : unkW kN n w (i + 1) = unkW kN n w i + (if (kN 0 i (i + w)).isNone = true then 1 else 0) := by
  unfold unkW
  rw [List.range_succ, List.filter_append, List.length_append, List.filter_cons]
  split <;> rfl
theorem unkN_succ (kN : NF) (n w : Nat) : unkN kN n (w + 1) = unkN kN n w + unkW kN n w (n + 1 - w) := by
  unfold unkN
  rw [List.range_succ, List.map_append, List.sum_append]
  simp
end M

/-! text: P14 -/
set_option Elab.async false
set_option linter.all false
set_option maxRecDepth 100000
set_option maxHeartbeats 4000000
namespace M
open PySem PySem.Spec PyProof.Rows L2
theorem yes_goH {σ2 : L2.St} {H2 : Hp} {A B : Hp → Prop} (h : A H2) : tYes σ2 H2 (fun b H3 => if b = true then A H3 else B H3) := by
  show (if true = true then A H2 else B H2)
  rw [if_pos rfl]
  exact h
/-- a table is made: s the new thing -/
def sp_Tabling_init (K : PySem.W.Frag) : Sp := fun vs H Q _ => ∃ (s dx g r kd : Addr) (G : Gm) (ns : List Nat) (H0 : Hp) (KN : NKvs) (kN : NF), vs = [.ref s, .ref g, .ref r, .ref kd] ∧ H s = some (.ins (He.ga K "Tabling") dx []) ∧ Same H0 H ∧ H0 s = none ∧ GrmO K H0 g G ∧ SqT K H0 r (ns.map nv) ∧
  H0 kd = some (.dT KN) ∧ Box I3 KN ∧ Nv KN kN ∧ Snd G ns kN ∧ (∀ x y, x ≤ y → y ≤ ns.length → kN 0 x y ≠ none → Right G ns kN x y) ∧
  (G.heads.length ≤ 64 ∧ ns.length < 32 ∧ (∀ ps ∈ G.parts, ps.length < 64) ∧ G.grp ≤ 64 ∧ G.rules ≤ 64 ∧ (∀ h ∈ G.heads, h < G.grp) ∧ G.rules = G.heads.length ∧ G.rules ≤ G.parts.length) ∧
  ∀ T N S m nN H', T.s = s → T.H0 = H0 → T.G = G → T.ns = ns → Tb K T H' N S m → Nv N nN → Snd G ns nN → (∀ x y, x ≤ y → y ≤ ns.length → Right G ns nN x y) → m = G.grp * unkN kN ns.length (ns.length + 1) → Q .non H'
theorem len_Tabling_init {K : PySem.W.Frag} (vs : List V) (H : Hp) (Q : VK) (E : XK) (h : sp_Tabling_init K vs H Q E) : vs.length = 4 := by
  obtain ⟨s, dx, g, r, kd, G, ns, H0, KN, kN, rfl, _⟩ := h
  rfl
abbrev N_Tabling_init : List Str := ["self", "grammar", "row", "known", "width", "start", "key"]
def t_Tabling_init (K : PySem.W.Frag) (P : Program) (w : World) : TS :=
  (tSeq (sF (He.ga K "Tabling") (tVar 0) (tVar 1) "grammar")
    (tSeq (sF (He.ga K "Tabling") (tVar 0) (tVar 2) "row")
    (tSeq (sF (He.ga K "Tabling") (tVar 0) (tLockE (tDcT (iKeys (tVar 3)) (gName 6) tYes (tVar 6) (tDGet (tVar 3) (tVar 6)) [6])) "numbers")
    (tSeq (sF (He.ga K "Tabling") (tVar 0) (tMk (He.ga K "Prices") (sp_Prices_init K) (tCons (tVar 1) (tCons (tVar 2) (tCons (tF (He.ga K "Tabling") (tVar 0) "numbers") tNil)))) "prices")
    (tSeq (sF (He.ga K "Tabling") (tVar 0) tDNewT "sums")
    (tSeq (sF (He.ga K "Tabling") (tVar 0) (tC (.int 0)) "made")
    (tFor (iRng1 (tCons (tOp rAddI (tCB (rLenSeq K) (tCons (tVar 2) tNil)) (tC (.int 1))) tNil)) (gName 4) (tFor (iRng1 (tCons (tOp rSubI (tOp rAddI (tCB (rLenSeq K) (tCons (tVar 2) tNil)) (tC (.int 1))) (tVar 4)) tNil)) (gName 5) (tDrop (tMt (He.ga K "Tabling") "lay" (sp_Tabling_lay K) (tVar 0) (tCons (tVar 5) (tCons (tOp rAddI (tVar 5) (tVar 4)) tNil))))))))))))
theorem pure_Tabling_init {K : PySem.W.Frag} {P : Program} {w : World} (vs : List V) (H : Hp) (Q : VK) (E : XK) (h : sp_Tabling_init K vs H Q E) : t_Tabling_init K P w { nx := fun _ H' => Q .non H', rt := Q } (start N_Tabling_init vs) H := by
  obtain ⟨s, dx, g, r, kd, G, ns, H0, KN, kN, rfl, hs, e0, ns0, hg, hr, hkd, kb, hkN, ksnd, kright, bg, q⟩ := h
  have nk : kd ≠ s := ne_of_none hkd ns0
  refine ⟨_, rfl, _, rfl, s, dx, _, rfl, hs, (show 0 < 1000 by decide), ?_⟩
  refine ⟨_, rfl, _, rfl, s, dx, _, rfl, upd_same, (show 1 < 1000 by decide), ?_⟩
  rw [upd_upd]
  have b2 : Same H0 (upd H s (.ins (He.ga K "Tabling") dx [("grammar", .ref g), ("row", .ref r)])) := Same.mut e0 ns0
  have s2 : (upd H s (.ins (He.ga K "Tabling") dx [("grammar", .ref g), ("row", .ref r)])) s = some (.ins (He.ga K "Tabling") dx [("grammar", .ref g), ("row", .ref r)]) := upd_same
  show tSeq _ _ _ _ (upd H s (.ins (He.ga K "Tabling") dx [("grammar", .ref g), ("row", .ref r)]))
  generalize upd H s (.ins (He.ga K "Tabling") dx [("grammar", .ref g), ("row", .ref r)]) = H2 at b2 s2
  -- the known numbers, copied
  have k2 := b2 _ _ hkd
  refine ⟨kd, .dT KN, k2, trivial, fun od => ⟨_, rfl, kd, od, rfl, .inr ⟨KN, upd_same, fun D hD => ?_⟩⟩⟩
  have nDk : D ≠ kd := fun z => by
    rw [z, upd_same] at hD
    cases hD
  have hD2 : H2 D = none := by
    rw [upd_ne nDk] at hD
    exact hD
  refine dct_it walk_keysT (fun i H' => Same (upd H2 kd (.frz od (.dT KN))) H' ∧ ∃ M : NKvs, H' D = some (.dT M) ∧ Box I3 M ∧ ∀ k, (k ∈ (KN.take i).map (·.1) → valV M k = valV KN k) ∧ (k ∉ (KN.take i).map (·.1) → valV M k = none))
    ⟨Same.new hD, [], upd_same, Box.nil, fun k => ⟨fun z => (nomatch z), fun _ => rfl⟩⟩ (fun i H' _ pv => pv.1 _ _ upd_same) (fun i x Ha Hb hi pv y => ?_) (fun H3 pv => ?_)
  · obtain ⟨e3, M, hM, bM, vM⟩ := pv
    obtain ⟨rfl, k, v, qa, hkv, rfl, hqa⟩ := y
    have kI : I3 k := kb.bd k (List.mem_map.mpr ⟨_, List.mem_of_getElem? hkv, rfl⟩)
    have vk := valV_mem kb.nd hkv
    refine ⟨rfl, yes_goH ⟨_, rfl, _, rfl, _, rfl, kd, v, rfl, ?_, M, k, qa, rfl, hqa, hM, by have := bM.len3; rw [sizeLine_eq]; omega, Same.mut e3 hD, _, upd_same, bM.put kI, fun k' => ?_⟩⟩
    · rw [← vk]
      exact .inr ⟨KN, k, qa, .inr ⟨od, e3 _ _ upd_same⟩, rfl, hqa, rfl⟩
    · rw [valV_put, List.take_succ, hkv, List.map_append]
      constructor
      · intro hm
        by_cases z : k' = k
        · rw [if_pos z, z, vk]
        · rw [if_neg z]
          rcases List.mem_append.mp hm with h | h
          · exact (vM k').1 h
          · exact absurd (by simpa using h) z
      · intro hm
        rw [if_neg (fun z => hm (List.mem_append_right _ (by rw [z]; simp)))]
        exact (vM k').2 fun h => hm (List.mem_append_left _ h)
  · obtain ⟨e3, M, hM, bM, vM⟩ := pv
    rw [List.take_length] at vM
    have vM : ∀ k, valV M k = valV KN k := fun k => by
      by_cases z : k ∈ KN.map (·.1)
      · exact (vM k).1 z
      · rw [(vM k).2 z, valV_out z]
    refine ⟨e3 _ _ upd_same, ?_⟩
    have e4 : Same H2 (upd H3 kd (.dT KN)) := fun a o ha => by
      by_cases z : a = kd
      · rw [z, upd_same, ← ha, z, k2]
      · rw [upd_ne z]
        exact e3 a o (by rw [upd_ne z]; exact ha)
    have hM4 : (upd H3 kd (.dT KN)) D = some (.dT M) := by
      rw [upd_ne nDk]
      exact hM
    generalize upd H3 kd (.dT KN) = H4 at e4 hM4
    have s4 := e4 _ _ s2
    have b4 := b2.trans e4
    have hD0 : H0 D = none := b2.fresh hD2
    have nDs : D ≠ s := fun z => by
      rw [z, s2] at hD2
      cases hD2
    refine ⟨_, rfl, s, dx, _, rfl, s4, (show 2 < 1000 by decide), ?_⟩
    have b5 : Same H0 (upd H4 s (.ins (He.ga K "Tabling") dx [("grammar", .ref g), ("row", .ref r), ("numbers", .ref D)])) := Same.mut b4 ns0
    have s5 : (upd H4 s (.ins (He.ga K "Tabling") dx [("grammar", .ref g), ("row", .ref r), ("numbers", .ref D)])) s = some (.ins (He.ga K "Tabling") dx [("grammar", .ref g), ("row", .ref r), ("numbers", .ref D)]) := upd_same
    have hM5 : (upd H4 s (.ins (He.ga K "Tabling") dx [("grammar", .ref g), ("row", .ref r), ("numbers", .ref D)])) D = some (.dT M) := by
      rw [upd_ne nDs]
      exact hM4
    show tSeq _ _ _ _ (upd H4 s (.ins (He.ga K "Tabling") dx [("grammar", .ref g), ("row", .ref r), ("numbers", .ref D)]))
    generalize upd H4 s (.ins (He.ga K "Tabling") dx [("grammar", .ref g), ("row", .ref r), ("numbers", .ref D)]) = H5 at b5 s5 hM5
    -- the prices
    refine ⟨_, rfl, _, rfl, _, rfl, s, dx, _, .ref D, rfl, s5, rfl, fun pp dxp hpp hdp hne => ?_⟩
    have npp : s ≠ pp := ne_of_none s5 hpp
    have ndp : s ≠ dxp := ne_of_none s5 hdp
    have b6 : Same H5 (upd (upd H5 dxp (.own pp)) pp (.ins (He.ga K "Prices") dxp [])) := Same.mut (Same.new hdp) hpp
    obtain ⟨dxg, fsg, hgo, _⟩ := hg.ob
    refine ⟨pp, dxp, g, r, D, G, rfl, hg.same (b5.trans b6), ne_of_none (b5 _ _ hgo) hpp, upd_same, rfl, ?_⟩
    rw [upd_upd]
    have b6 : Same H5 (upd (upd H5 dxp (.own pp)) pp (.ins (He.ga K "Prices") dxp (priF G.cnt r D))) := Same.mut (Same.new hdp) hpp
    have p6 : (upd (upd H5 dxp (.own pp)) pp (.ins (He.ga K "Prices") dxp (priF G.cnt r D))) pp = some (.ins (He.ga K "Prices") dxp (priF G.cnt r D)) := upd_same
    generalize upd (upd H5 dxp (.own pp)) pp (.ins (He.ga K "Prices") dxp (priF G.cnt r D)) = H6 at b6 p6
    refine ⟨_, rfl, s, dx, _, rfl, b6 _ _ s5, (show 3 < 1000 by decide), ?_⟩
    refine fun ds hds => ⟨_, rfl, s, dx, _, rfl, (upd_ne (fun z => ?_)).trans upd_same, (show 4 < 1000 by decide), ?_⟩
    · rw [← z, upd_same] at hds
      cases hds
    refine ⟨_, rfl, s, dx, _, rfl, upd_same, (show 5 < 1000 by decide), ?_⟩
    have nds : ds ≠ s := fun z => by
      rw [z, upd_same] at hds
      cases hds
    have hds6 : H6 ds = none := by
      rw [upd_ne nds] at hds
      exact hds
    obtain ⟨T, hT⟩ : ∃ T : TS0, T = ⟨s, dx, g, r, pp, dxp, D, ds, G, ns, H0⟩ := ⟨_, rfl⟩
    have b06 : Same H0 H6 := b5.trans b6
    have tb : Tb K T (upd (upd (upd (upd H6 s (.ins (He.ga K "Tabling") dx [("grammar", .ref g), ("row", .ref r), ("numbers", .ref D), ("prices", .ref pp)])) ds (.dT [])) s (.ins (He.ga K "Tabling") dx [("grammar", .ref g), ("row", .ref r), ("numbers", .ref D), ("prices", .ref pp), ("sums", .ref ds)])) s (.ins (He.ga K "Tabling") dx (tabF T 0))) M [] 0 := by
      subst hT
      refine ⟨Same.mut (Same.mut (Same.mut (Same.mut b06 ns0) (b06.fresh hds6)) ns0) ns0, ns0, hD0, b06.fresh hds6, hg, hr, upd_same, ?_, ?_, ?_, ne_of_none (b6 _ _ hM5) hds6, bM, Box.nil, bg⟩
      · rw [upd_ne (Ne.symm npp), upd_ne (Ne.symm npp), upd_ne (ne_of_none p6 hds6), upd_ne (Ne.symm npp)]
        exact p6
      · rw [upd_ne nDs, upd_ne nDs, upd_ne (ne_of_none (b6 _ _ hM5) hds6), upd_ne nDs]
        exact b6 _ _ hM5
      · rw [upd_ne nds, upd_ne nds, upd_same]
    have eT : T.s = s ∧ T.H0 = H0 ∧ T.G = G ∧ T.ns = ns ∧ T.r = r := by subst hT; exact ⟨rfl, rfl, rfl, rfl, rfl⟩
    have goal : ∀ H9, Tb K T H9 M [] 0 → (tFor (iRng1 (tCons (tOp rAddI (tCB (rLenSeq K) (tCons (tVar 2) tNil)) (tC (.int 1))) tNil)) (gName 4) (tFor (iRng1 (tCons (tOp rSubI (tOp rAddI (tCB (rLenSeq K) (tCons (tVar 2) tNil)) (tC (.int 1))) (tVar 4)) tNil)) (gName 5) (tDrop (tMt (He.ga K "Tabling") "lay" (sp_Tabling_lay K) (tVar 0) (tCons (tVar 5) (tCons (tOp rAddI (tVar 5) (tVar 4)) tNil))))))
        { nx := fun _ H' => Q .non H', rt := Q } (start N_Tabling_init [.ref s, .ref g, .ref r, .ref kd]) H9 := by
      intro H9 tb9
      clear tb
      obtain ⟨rfl, rfl, rfl, rfl, rfl⟩ := eT
      have hkN0 : Nv M kN := fun g a b => by rw [vM]; exact hkN g a b
      have hn32 := bg.2.1
      have lr : ∀ {H' : Hp} {N S : NKvs} {m : Int}, Tb K T H' N S m → SqL K H' T.r (T.ns.map nv) ∨ SqT K H' T.r (T.ns.map nv) := fun t => .inr (t.base.sqt t.row)
      have hlen : (T.ns.map nv).length = T.ns.length := List.length_map ..
      refine ⟨_, rfl, T.r, _, rfl, lr tb9, _, _, rfl, rfl, _, rfl, by omega, by omega, ?_⟩
      rw [show (((T.ns.map nv).length : Int) + 1).toNat = T.ns.length + 1 by omega]
      refine for_it walk_range (fun w σ H' => ∃ (v4 v5 : Option V) (N S : NKvs) (nN : NF), σ = [some (.ref T.s), some (.ref g), some (.ref T.r), some (.ref kd), v4, v5, none] ∧ Tb K T H' N S (T.G.grp * unkN kN T.ns.length w) ∧ Nv N nN ∧ Snd T.G T.ns nN ∧
        (∀ x y, x ≤ y → y ≤ T.ns.length → y - x < w → SOk T.G S (priceF T.G.cnt T.ns nN) x y ∧ ClAt T.G T.ns nN x y) ∧ ∀ g x y, ¬ (x ≤ y ∧ y ≤ T.ns.length ∧ y - x < w) → nN g x y = kN g x y)
        ⟨none, none, M, [], kN, rfl, (by rw [show (T.G.grp : Int) * unkN kN T.ns.length 0 = 0 by rw [show unkN kN T.ns.length 0 = 0 from rfl]; simp]; exact tb9), hkN0, ksnd, fun x y _ _ h => absurd h (Nat.not_lt_zero _), fun _ _ _ _ => rfl⟩ (fun _ _ _ _ _ => trivial) (fun w x σ Ha Hb hw pv y => ?_) (fun σ H' pv => ?_)
      · obtain ⟨v4, v5, N, S, nN, rfl, t1, hN, snd, done, rest⟩ := pv
        obtain ⟨rfl, rfl⟩ := y
        refine ⟨_, rfl, T.r, _, rfl, lr t1, _, _, rfl, rfl, _, rfl, _, _, rfl, rfl, _, rfl, by omega, by omega, ?_⟩
        rw [show (((T.ns.map nv).length : Int) + 1 - (0 + (w : Nat))).toNat = T.ns.length + 1 - w by omega]
        refine for_it walk_range (fun i σ H' => ∃ (v5 : Option V) (N S : NKvs) (nN : NF), σ = [some (.ref T.s), some (.ref g), some (.ref T.r), some (.ref kd), some (.int (0 + (w : Nat))), v5, none] ∧ Tb K T H' N S (T.G.grp * (unkN kN T.ns.length w + unkW kN T.ns.length w i : Nat)) ∧ Nv N nN ∧ Snd T.G T.ns nN ∧
          (∀ x y, x ≤ y → y ≤ T.ns.length → (y - x < w ∨ (y - x = w ∧ x < i)) → SOk T.G S (priceF T.G.cnt T.ns nN) x y ∧ ClAt T.G T.ns nN x y) ∧ ∀ g x y, ¬ (x ≤ y ∧ y ≤ T.ns.length ∧ (y - x < w ∨ (y - x = w ∧ x < i))) → nN g x y = kN g x y)
          ⟨v5, N, S, nN, rfl, t1, hN, snd, fun x y h1 h2 h3 => done x y h1 h2 (by omega), fun g x y h => rest g x y (by omega)⟩ (fun _ _ _ _ _ => trivial) (fun i x σ Ha Hb hi pv y => ?_) (fun σ H' pv => ?_)
        · obtain ⟨v5', N1, S1, nN1, rfl, t2, hN1, snd1, done1, rest1⟩ := pv
          obtain ⟨rfl, rfl⟩ := y
          have hin : i + w ≤ T.ns.length := by omega
          have keep : ∀ (S2 : NKvs) (nN2 : NF), Off i (i + w) S1 S2 → Agr i (i + w) nN1 nN2 → SOk T.G S2 (priceF T.G.cnt T.ns nN2) i (i + w) → ClAt T.G T.ns nN2 i (i + w) →
              ∀ x y, x ≤ y → y ≤ T.ns.length → (y - x < w ∨ (y - x = w ∧ x < i + 1)) → SOk T.G S2 (priceF T.G.cnt T.ns nN2) x y ∧ ClAt T.G T.ns nN2 x y := by
            intro S2 nN2 off ag s2 c2 x y h1 h2 h3
            by_cases z : x = i ∧ y = i + w
            · obtain ⟨rfl, rfl⟩ := z
              exact ⟨s2, c2⟩
            · obtain ⟨g1, g2⟩ := done1 x y h1 h2 (by omega)
              have ne : x ≤ i → i + w ≤ y → False := fun q1 q2 => z (by omega)
              refine ⟨fun r ps hr hps d hd => ?_, ag.cl ne g2 z⟩
              obtain ⟨o, q1, q2⟩ := g1 r ps hr hps d hd
              exact ⟨o, by rw [off _ fun r' d' e => z ⟨(k4_inj e).2.2.1, (k4_inj e).2.2.2⟩]; exact q1, q2.congr fun v => ag.sum ne v⟩
          refine ⟨_, rfl, T.s, _, _, rfl, t2.ob, rfl, _, rfl, _, rfl, _, rfl, _, _, rfl, rfl, T, N1, S1, _, nN1, i, i + w, ?_, t2, hN1, Nat.le_add_right _ _, hin, fun x y h1 h2 h3 h4 => (done1 x y h2 (by omega) (by omega)).1, snd1, fun hu H' S2 t3 st3 off sk => ?_, fun hu H' N2 S2 nN2 t3 st3 hN2 ag snd2 off sk cl => ?_⟩
          · show [V.ref T.s, V.int (0 + (i : Nat)), V.int (0 + (i : Nat) + (0 + (w : Nat)))] = _
            rw [Int.zero_add, Int.zero_add]
            rfl
          · have hk0 : nN1 0 i (i + w) = kN 0 i (i + w) := rest1 0 i (i + w) (by omega)
            have hu2 : kN 0 i (i + w) ≠ none := fun z => by
              obtain ⟨u, hu⟩ := hu
              rw [hk0, z] at hu
              cases hu
            have em : unkW kN T.ns.length w (i + 1) = unkW kN T.ns.length w i := by
              rw [unkW_succ, if_neg]
              · rfl
              · intro z
                exact hu2 (Option.isNone_iff_eq_none.mp z)
            refine ⟨_, N1, S2, nN1, rfl, by rw [em]; exact t3, hN1, snd1, keep S2 nN1 off (fun _ _ _ _ => rfl) sk (right_cl snd1 (Nat.le_add_right _ _) hin (kright i (i + w) (Nat.le_add_right _ _) hin hu2) fun g => rest1 g i (i + w) (by omega)), fun g x y h => rest1 g x y (by omega)⟩
          · have hk0 : nN1 0 i (i + w) = kN 0 i (i + w) := rest1 0 i (i + w) (by omega)
            have em : unkW kN T.ns.length w (i + 1) = unkW kN T.ns.length w i + 1 := by
              rw [unkW_succ, if_pos]
              rw [← hk0, hu]
              rfl
            have em2 : (T.G.grp : Int) * ((unkN kN T.ns.length w + unkW kN T.ns.length w i : Nat) : Int) + T.G.grp = T.G.grp * ((unkN kN T.ns.length w + unkW kN T.ns.length w (i + 1) : Nat) : Int) := by
              rw [em, ← Nat.add_assoc, Int.natCast_add _ 1, Int.mul_add]
              simp
            refine ⟨_, N2, S2, nN2, rfl, em2 ▸ t3, hN2, snd2, keep S2 nN2 off ag sk cl, fun g x y h => ?_⟩
            rw [← ag g x y (by omega)]
            exact rest1 g x y (by omega)
        · obtain ⟨v5', N1, S1, nN1, rfl, t2, hN1, snd1, done1, rest1⟩ := pv
          refine ⟨_, _, N1, S1, nN1, rfl, by rw [unkN_succ]; exact t2, hN1, snd1, fun x y h1 h2 h3 => done1 x y h1 h2 (by omega), fun g x y h => rest1 g x y (by omega)⟩
      · obtain ⟨v4, v5, N, S, nN, rfl, t1, hN, snd, done, rest⟩ := pv
        exact q T N S _ nN H' rfl rfl rfl rfl t1 hN snd (right_all snd fun x y h1 h2 => (done x y h1 h2 (by omega)).2) rfl
    have := goal _ tb
    subst hT
    exact this
end M

/-! text: P15 -/
set_option Elab.async false
set_option linter.all false
set_option maxRecDepth 100000
set_option maxHeartbeats 4000000
namespace M
open PySem PySem.Spec PyProof.Rows L2
abbrev GBig (G : Gm) (ns : List Nat) : Prop := G.heads.length ≤ 64 ∧ ns.length < 32 ∧ (∀ ps ∈ G.parts, ps.length < 64) ∧ G.grp ≤ 64 ∧ G.rules ≤ 64 ∧ (∀ h ∈ G.heads, h < G.grp) ∧ G.rules = G.heads.length ∧ G.rules ≤ G.parts.length
def sp_least_changes (K : PySem.W.Frag) : Sp := fun vs H Q _ => ∃ (g a : Addr) (b : Bool) (G : Gm) (ns : List Nat) (u : Int), vs = [.ref g, .ref a] ∧ GrmO K H g G ∧ H a = some (seqO b (ns.map nv)) ∧ (∀ i ∈ ns, i < G.cnt) ∧ GBig G ns ∧
  Low (some u) (Der G ns 0 0 ns.length) ∧ ∀ H', Same H H' → Q (.int u) H'
theorem len_least_changes {K : PySem.W.Frag} (vs : List V) (H : Hp) (Q : VK) (E : XK) (h : sp_least_changes K vs H Q E) : vs.length = 2 := by
  obtain ⟨g, a, b, G, ns, u, rfl, _⟩ := h
  rfl
abbrev N_least_changes : List Str := ["grammar", "row"]
def t_least_changes (K : PySem.W.Frag) (P : Program) (w : World) : TS :=
  (tSeq (tAsg (tCl (sp_row_asked K) (tCons (tVar 0) (tCons (tVar 1) tNil))) (gName 1))
    (tRet (tDGet (tF (He.ga K "Tabling") (tMk (He.ga K "Tabling") (sp_Tabling_init K) (tCons (tVar 0) (tCons (tVar 1) (tCons tDNewT tNil)))) "numbers") (tTup (tCons (tC (.int 0)) (tCons (tC (.int 0)) (tCons (tCB (rLenSeq K) (tCons (tVar 1) tNil)) tNil)))))))
theorem pure_least_changes {K : PySem.W.Frag} {P : Program} {w : World} (vs : List V) (H : Hp) (Q : VK) (E : XK) (h : sp_least_changes K vs H Q E) : t_least_changes K P w { nx := fun _ H' => Q .non H', rt := Q } (start N_least_changes vs) H := by
  obtain ⟨g, a, b, G, ns, u, rfl, hg, ha, hns, bg, hu, q⟩ := h
  refine ⟨_, rfl, _, rfl, g, a, b, _, G, rfl, hg, ha, by rw [List.length_map]; omega, fun y hy => ?_, fun p H1 e1 hp => ?_⟩
  · obtain ⟨i, hi, rfl⟩ := List.mem_map.mp hy
    exact ⟨i, rfl, hns i hi⟩
  refine ⟨_, rfl, _, rfl, fun kd hkd s dx hs hdx hne => ?_⟩
  have e2 := Same.new (o := .dT []) hkd
  have k2 : (upd H1 kd (.dT [])) kd = some (.dT []) := upd_same
  generalize upd H1 kd (.dT []) = H2 at e2 k2 hs hdx
  have e3 : Same H2 (upd (upd H2 dx (.own s)) s (.ins (He.ga K "Tabling") dx [])) := Same.mut (Same.new hdx) hs
  refine ⟨s, dx, g, p, kd, G, ns, H2, [], fun _ _ _ => none, rfl, upd_same, e3, hs, hg.same (e1.trans e2), e2.sqt hp, k2, Box.nil, fun _ _ _ => rfl, fun _ _ _ _ z => (nomatch z), fun x y _ _ z => absurd rfl z, bg, ?_⟩
  rintro T N S m nN H4 rfl rfl rfl rfl t hN snd right hm
  refine ⟨rfl, T.s, _, _, .ref T.dn, rfl, t.ob, rfl, _, rfl, p, _, rfl, .inr ((e1.trans e2).trans t.base |> fun _ => t.base.sqt (e2.sqt hp)), (show 3 ≤ sizeLine by decide), fun U hU => ?_⟩
  rw [List.length_map]
  have e5 := Same.new (o := .tup [.int 0, .int 0, nv T.ns.length]) hU
  have hU2 : (upd H4 U (.tup [.int 0, .int 0, nv T.ns.length])) U = some (.tup ((k3 0 0 T.ns.length).map kV)) := upd_same
  have d := DGet.t (k := k3 0 0 T.ns.length) (e5 _ _ t.hn) hU2
  rw [hN, (right 0 T.ns.length (Nat.zero_le _) (Nat.le_refl _) 0).uniq hu] at d
  exact ⟨T.dn, .int u, rfl, d, q _ (((e1.trans e2).trans t.base).trans e5)⟩
/-! ### marked_ones -/
def sp_marked_ones (K : PySem.W.Frag) : Sp := fun vs H Q _ => ∃ (l : Addr) (bs : List Bool), vs = [.ref l] ∧ H l = some (.lst (bs.map V.bl)) ∧ bs.length ≤ 1000 ∧ ∀ p (ms : List Nat) H', Same H H' → H p = none → H' p = some (.tup (ms.map nv)) → (∀ m ∈ ms, m < bs.length) → ms.length ≤ bs.length → Q (.ref p) H'
theorem len_marked_ones {K : PySem.W.Frag} (vs : List V) (H : Hp) (Q : VK) (E : XK) (h : sp_marked_ones K vs H Q E) : vs.length = 1 := by
  obtain ⟨l, bs, rfl, _⟩ := h
  rfl
abbrev N_marked_ones : List Str := ["line", "place", "mark"]
def t_marked_ones (K : PySem.W.Frag) (P : Program) (w : World) : TS :=
  (tRet (tCB (rTupleOf K) (tCons (tLc (iEnum K (tCons (tVar 0) tNil)) (gTup K 2 (gCons (gName 1) (gCons (gName 2) gNil))) (tB (tVar 2)) (tVar 1) [1, 2]) tNil)))
theorem pure_marked_ones {K : PySem.W.Frag} {P : Program} {w : World} (vs : List V) (H : Hp) (Q : VK) (E : XK) (h : sp_marked_ones K vs H Q E) : t_marked_ones K P w { nx := fun _ H' => Q .non H', rt := Q } (start N_marked_ones vs) H := by
  obtain ⟨l, bs, rfl, hl, hz, q⟩ := h
  refine ⟨_, rfl, l, _, rfl, .inl (.inl hl), fun D hD => ?_⟩
  refine lc_pure (walk_enum (xs := bs.map V.bl)) (by rw [List.length_map]; omega) (fun i => bs.getD i false) (fun i => nv i) hD (fun H' e' => .inl (.inl (e' _ _ hl))) (fun i x Ha Hb hi e2 y => ?_) (fun H2 e2 h2 => ?_)
  · obtain ⟨U, x1, x2, rfl, hU, rfl, hx1, hx2⟩ := y
    cases hx1
    replace hx2 : (bs.map V.bl)[i]? = some x2 := hx2
    rw [List.getElem?_map] at hx2
    obtain ⟨c, hc, rfl⟩ := Option.map_eq_some_iff.mp hx2
    have hd : bs.getD i false = c := by rw [List.getD_eq_getElem?_getD, hc]; rfl
    intro Q2 QF k1 k2
    have e3 := Same.new (o := .tup [.int (i : Nat), .bl c]) hU
    refine ⟨U, _, rfl, .inl (.inl upd_same), rfl, _, _, rfl, _, _, rfl, rfl, rfl, _, rfl, c, rfl, ?_⟩
    cases c with
    | true =>
      rw [if_pos rfl]
      exact ⟨_, rfl, k1 hd _ e3⟩
    | false =>
      rw [if_neg (by decide)]
      exact k2 hd _ e3
  · refine ⟨D, _, rfl, .inl ⟨.inl (.inl h2), fun p hp => ?_⟩⟩
    have hm : kept (bs.map V.bl).length (fun i => bs.getD i false) (fun i => nv i) = (((List.range bs.length).filter fun i => bs.getD i false)).map nv := by
      unfold kept
      rw [List.length_map]
    refine q p ((List.range bs.length).filter fun i => bs.getD i false) _ (e2.trans (Same.new hp)) (e2.fresh hp) (by rw [upd_same, hm]) (fun m hm => ?_) ?_
    · exact List.mem_range.mp (List.mem_filter.mp hm).1
    · have h := List.length_filter_le (fun i => bs.getD i false) (List.range bs.length)
      rw [List.length_range] at h
      exact h
/-! ### can_stand -/
def sp_can_stand (K : PySem.W.Frag) : Sp := fun vs H Q _ => ∃ (cnt : Nat) (f c : Addr) (bs : List Bool) (codes : List Nat), vs = [nv cnt, .ref f, .ref c] ∧ H f = some (.lst (bs.map V.bl)) ∧ SqT K H c (codes.map nv) ∧ codes.length ≤ 1000 ∧ (∀ x ∈ codes, x < cnt + bs.length) ∧
  ∀ H', Same H H' → Q (.bl (codes.all fun x => decide (x < cnt) || bs.getD (x - cnt) false)) H'
theorem len_can_stand {K : PySem.W.Frag} (vs : List V) (H : Hp) (Q : VK) (E : XK) (h : sp_can_stand K vs H Q E) : vs.length = 3 := by
  obtain ⟨cnt, f, c, bs, codes, rfl, _⟩ := h
  rfl
abbrev N_can_stand : List Str := ["count", "found", "codes", "code"]
def t_can_stand (K : PySem.W.Frag) (P : Program) (w : World) : TS :=
  (tRet (tCB (rAll K) (tCons (tLc (iSeq K (tVar 2)) (gName 3) tYes (tOrV (tOp rLtI (tVar 3) (tVar 0)) (tOp (rIxL K) (tVar 1) (tOp rSubI (tVar 3) (tVar 0)))) [3]) tNil)))
theorem pure_can_stand {K : PySem.W.Frag} {P : Program} {w : World} (vs : List V) (H : Hp) (Q : VK) (E : XK) (h : sp_can_stand K vs H Q E) : t_can_stand K P w { nx := fun _ H' => Q .non H', rt := Q } (start N_can_stand vs) H := by
  obtain ⟨cnt, f, c, bs, codes, rfl, hf, hc, hz, hb, q⟩ := h
  have hq : Sq K false H c (codes.map nv) := hc
  refine ⟨_, rfl, c, false, _, rfl, hq, fun D hD => ?_⟩
  refine lc_pure (walk_sq (xs := codes.map nv)) (by rw [List.length_map]; omega) (fun _ => true) (fun i => .bl (decide (codes.getD i 0 < cnt) || bs.getD (codes.getD i 0 - cnt) false)) hD (fun H' e' => e'.sq hq) (fun i x Ha Hb hi e2 y => ?_) (fun H2 e2 h2 => ?_)
  · obtain ⟨rfl, hx⟩ := y
    rw [List.getElem?_map] at hx
    obtain ⟨o, ho, rfl⟩ := Option.map_eq_some_iff.mp hx
    have hd : codes.getD i 0 = o := by rw [List.getD_eq_getElem?_getD, ho]; rfl
    have hob := hb o (List.mem_of_getElem? ho)
    intro Q2 QF k1 k2
    have k1 := k1 rfl Hb (Same.refl _)
    rw [hd] at k1
    refine ⟨rfl, yes_go ⟨_, rfl, _, rfl, _, _, rfl, rfl, _, rfl, ?_⟩⟩
    by_cases z : o < cnt
    · rw [decide_eq_true z, Bool.true_or] at k1
      rw [decide_eq_true (show (o : Int) < cnt by omega)]
      exact k1
    · rw [decide_eq_false z, Bool.false_or] at k1
      rw [decide_eq_false (show ¬ (o : Int) < cnt by omega)]
      have hi2 : bs[o - cnt]? = some (bs.getD (o - cnt) false) := by
        rw [List.getD_eq_getElem?_getD, List.getElem?_eq_getElem (show o - cnt < bs.length by omega)]
        rfl
      refine ⟨_, rfl, _, rfl, _, rfl, _, _, rfl, rfl, f, _, _, .bl (bs.getD (o - cnt) false), rfl, rfl, .inl (.inl (e2 _ _ hf)), ?_, k1⟩
      rw [show (o : Int) - cnt = ((o - cnt : Nat) : Int) by omega]
      exact atI_nat (by rw [List.getElem?_map, hi2]; rfl)
  · rw [kept_all] at h2
    have e3 : (List.range (codes.map nv).length).map (fun i => V.bl (decide (codes.getD i 0 < cnt) || bs.getD (codes.getD i 0 - cnt) false)) = (codes.map fun x => decide (x < cnt) || bs.getD (x - cnt) false).map V.bl := by
      rw [List.map_map, List.length_map]
      refine range_map codes _ _ fun i x hx => ?_
      rw [List.getD_eq_getElem?_getD, hx]
      rfl
    rw [e3] at h2
    refine ⟨D, _, rfl, .inl (.inl h2), ?_⟩
    rw [all_map_id]
    exact q H2 e2
end M

/-! text: P16 -/
set_option Elab.async false
set_option linter.all false
set_option maxRecDepth 100000
set_option maxHeartbeats 4000000
namespace M
open PySem PySem.Spec PyProof.Rows L2
/-! ### rules that are of use -/
/-- a list at a of tuples of codes -/
def RowsL (K : PySem.W.Frag) (H : Hp) (a : Addr) (ps : List (List Nat)) : Prop := ∃ as : List Addr, H a = some (.lst (as.map V.ref)) ∧ as.length = ps.length ∧ ∀ (i : Nat) (b : Addr) (p : List Nat), as[i]? = some b → ps[i]? = some p → SqT K H b (p.map nv)
theorem RowsL.same {K : PySem.W.Frag} {H H' : Hp} {a : Addr} {ps : List (List Nat)} (h : RowsL K H a ps) (e : Same H H') : RowsL K H' a ps := by
  obtain ⟨as, h1, h2, h3⟩ := h
  exact ⟨as, e _ _ h1, h2, fun i b p q1 q2 => e.sqt (h3 i b p q1 q2)⟩
theorem RowsL.at {K : PySem.W.Frag} {H : Hp} {a : Addr} {ps : List (List Nat)} (h : RowsL K H a ps) {i : Nat} {p : List Nat} (hp : ps[i]? = some p) : ∃ (as : List Addr) (b : Addr), H a = some (.lst (as.map V.ref)) ∧ atI (as.map V.ref) (i : Int) = some (.ref b) ∧ SqT K H b (p.map nv) := by
  obtain ⟨as, h1, h2, h3⟩ := h
  have hi : i < ps.length := (List.getElem?_eq_some_iff.mp hp).1
  have hb : as[i]? = some (as[i]'(by omega)) := List.getElem?_eq_getElem (by omega)
  exact ⟨as, _, h1, atI_nat (by rw [List.getElem?_map, hb]; rfl), h3 i _ p hb hp⟩
theorem bool_at {bs : List Bool} {i : Nat} (h : i < bs.length) : atI (bs.map V.bl) (i : Int) = some (.bl (bs.getD i false)) := by
  have : bs[i]? = some (bs.getD i false) := by
    rw [List.getD_eq_getElem?_getD, List.getElem?_eq_getElem h]
    rfl
  exact atI_nat (by rw [List.getElem?_map, this]; rfl)
theorem getD_set {bs : List Bool} {i j : Nat} (h : i < bs.length) : (bs.set i true).getD j false = if j = i then true else bs.getD j false := by
  rw [List.getD_eq_getElem?_getD, List.getD_eq_getElem?_getD, List.getElem?_set]
  by_cases e : i = j
  · subst e
    rw [if_pos rfl, if_pos rfl, if_pos h]
    rfl
  · rw [if_neg e, if_neg (Ne.symm e)]
theorem count_less {bs : List Bool} {i : Nat} (h : i < bs.length) (e : bs.getD i false = false) : (bs.set i true).count false + 1 = bs.count false := by
  induction bs generalizing i with
  | nil => cases h
  | cons b r ih =>
    cases i with
    | zero =>
      have e : b = false := e
      subst e
      simp
    | succ i =>
      have := ih (i := i) (by simpa using h) e
      rw [List.set_cons_succ, List.count_cons, List.count_cons]
      omega
theorem set_map {bs : List Bool} {i : Nat} : (bs.map V.bl).set i (.bl true) = (bs.set i true).map V.bl := by
  rw [List.map_set]
theorem rep_false (n : Nat) : (List.replicate n [V.bl false]).flatten = (List.replicate n false).map V.bl := by
  induction n with
  | zero => rfl
  | succ n ih =>
    rw [List.replicate_succ, List.flatten_cons, ih, List.replicate_succ, List.map_cons]
    rfl
theorem ixN_nat {n k : Nat} (h : k < n) : ixN n (k : Int) = some k := by
  unfold ixN
  simp
  omega
def standB (cnt : Nat) (bs : List Bool) (ps : List Nat) : Bool := ps.all fun x => decide (x < cnt) || bs.getD (x - cnt) false
theorem standB_iff {cnt : Nat} {bs : List Bool} {ps : List Nat} : standB cnt bs ps = true ↔ ∀ c ∈ ps, c < cnt ∨ bs.getD (c - cnt) false = true := by
  unfold standB
  rw [List.all_eq_true]
  refine forall_congr' fun c => ?_
  rw [Bool.or_eq_true, decide_eq_true_eq]
structure RulesOk (cnt grp : Nat) (heads : List Nat) (parts : List (List Nat)) : Prop where
  len : heads.length = parts.length
  few : heads.length ≤ 64
  gfew : grp ≤ 64
  cfew : cnt ≤ 1000
  hd : ∀ h ∈ heads, h < grp
  cd : ∀ ps ∈ parts, ∀ c ∈ ps, c < cnt + grp
  pl : ∀ ps ∈ parts, ps.length < 64
def sp_with_trees (K : PySem.W.Frag) : Sp := fun vs H Q _ => ∃ (cnt grp : Nat) (hd pt : Addr) (heads : List Nat) (parts : List (List Nat)), vs = [nv cnt, nv grp, .ref hd, .ref pt] ∧ SqT K H hd (heads.map nv) ∧ RowsL K H pt parts ∧ RulesOk cnt grp heads parts ∧
  ∀ (D : Addr) (bs : List Bool) H', Same H H' → H D = none → H' D = some (.lst (bs.map V.bl)) → bs.length = grp → (∀ (r h : Nat) (ps : List Nat), heads[r]? = some h → parts[r]? = some ps → standB cnt bs ps = true → bs.getD h false = true) → Q (.ref D) H'
theorem len_with_trees {K : PySem.W.Frag} (vs : List V) (H : Hp) (Q : VK) (E : XK) (h : sp_with_trees K vs H Q E) : vs.length = 4 := by
  obtain ⟨cnt, grp, hd, pt, heads, parts, rfl, _⟩ := h
  rfl
abbrev N_with_trees : List Str := ["count", "groups", "heads", "parts", "found", "again", "rule", "head"]
def t_with_trees (K : PySem.W.Frag) (P : Program) (w : World) : TS :=
  (tSeq (tAsg (tOp rRep (tLst (tCons (tC (.bl false)) tNil)) (tVar 1)) (gName 4))
    (tSeq (tAsg (tC (.bl true)) (gName 5))
    (tSeq (tWhile (tB (tVar 5)) (tSeq (tAsg (tC (.bl false)) (gName 5))
    (tFor (iEnumT K (tCons (tVar 2) tNil)) (gTup K 2 (gCons (gName 6) (gCons (gName 7) gNil))) (tIfS (tAnd (tNot (tB (tOp (rIxL K) (tVar 4) (tVar 7)))) (tB (tCl (sp_can_stand K) (tCons (tVar 0) (tCons (tVar 4) (tCons (tOp (rIxL K) (tVar 3) (tVar 6)) tNil)))))) (tSeq (tAsg (tC (.bl true)) (gSub (tVar 4) (tVar 7) rSetL))
    (tAsg (tC (.bl true)) (gName 5))) tNext))))
    (tRet (tVar 4)))))
theorem pure_with_trees {K : PySem.W.Frag} {P : Program} {w : World} (vs : List V) (H : Hp) (Q : VK) (E : XK) (h : sp_with_trees K vs H Q E) : t_with_trees K P w { nx := fun _ H' => Q .non H', rt := Q } (start N_with_trees vs) H := by
  obtain ⟨cnt, grp, hd, pt, heads, parts, rfl, hh, hp, ok, q⟩ := h
  have g64 := ok.gfew
  have r64 := ok.few
  have c1k := ok.cfew
  have hlen := ok.len
  refine ⟨by decide, fun L hL => ⟨_, rfl, L, _, _, rfl, rfl, upd_same, by omega, by omega, by rw [sizeLine_eq]; show 1 * _ ≤ _; omega, fun D hD => ?_⟩⟩
  have e1 : Same H (upd H L (.lst [.bl false])) := Same.new hL
  have hD0 : H D = none := e1.fresh hD
  have e2 : Same H (upd (upd H L (.lst [.bl false])) D (.lst (List.replicate (grp : Int).toNat [V.bl false]).flatten)) := Same.mut e1 hD0
  have d2 : (upd (upd H L (.lst [.bl false])) D (.lst (List.replicate (grp : Int).toNat [V.bl false]).flatten)) D = some (.lst ((List.replicate grp false).map V.bl)) := by
    rw [upd_same, rep_false]
    rfl
  show tSeq _ _ _ _ (upd (upd H L (.lst [.bl false])) D (.lst (List.replicate (grp : Int).toNat [V.bl false]).flatten))
  generalize upd (upd H L (.lst [.bl false])) D (.lst (List.replicate (grp : Int).toNat [V.bl false]).flatten) = H2 at e2 d2
  refine ⟨fun mm σ H1 => ∃ (v6 v7 : Option V) (f : Bool) (bs : List Bool), σ = [some (nv cnt), some (nv grp), some (.ref hd), some (.ref pt), some (.ref D), some (.bl f), v6, v7] ∧ Same H H1 ∧ H1 D = some (.lst (bs.map V.bl)) ∧ bs.length = grp ∧
    ((f = true ∧ mm = bs.count false + 1) ∨ (f = false ∧ ∀ (r h : Nat) (ps : List Nat), heads[r]? = some h → parts[r]? = some ps → standB cnt bs ps = true → bs.getD h false = true)), ⟨_, none, none, true, _, rfl, e2, d2, List.length_replicate, .inl ⟨rfl, rfl⟩⟩, fun mm σ H1 wv => ?_⟩
  obtain ⟨v6, v7, f, bs, rfl, e3, d3, hl, wv⟩ := wv
  refine ⟨_, rfl, f, rfl, ?_⟩
  rcases wv with ⟨rfl, rfl⟩ | ⟨rfl, cl⟩
  · rw [if_pos rfl]
    refine ⟨fun σ' H' => ∃ m', m' < bs.count false + 1 ∧ ∃ (v6 v7 : Option V) (f : Bool) (bs : List Bool), σ' = [some (nv cnt), some (nv grp), some (.ref hd), some (.ref pt), some (.ref D), some (.bl f), v6, v7] ∧ Same H H' ∧ H' D = some (.lst (bs.map V.bl)) ∧ bs.length = grp ∧
      ((f = true ∧ m' = bs.count false + 1) ∨ (f = false ∧ ∀ (r h : Nat) (ps : List Nat), heads[r]? = some h → parts[r]? = some ps → standB cnt bs ps = true → bs.getD h false = true)), fun _ _ h => h, ?_⟩
    refine ⟨_, rfl, hd, _, rfl, e3.sqt hh, ?_⟩
    refine for_it (walk_enumT (xs := heads.map nv)) (fun i σ H4 => ∃ (v6 v7 : Option V) (f : Bool) (bs' : List Bool), σ = [some (nv cnt), some (nv grp), some (.ref hd), some (.ref pt), some (.ref D), some (.bl f), v6, v7] ∧ Same H H4 ∧ H4 D = some (.lst (bs'.map V.bl)) ∧ bs'.length = grp ∧
      ((f = true ∧ bs'.count false < bs.count false) ∨ (f = false ∧ bs' = bs ∧ ∀ (r h : Nat) (ps : List Nat), r < i → heads[r]? = some h → parts[r]? = some ps → standB cnt bs ps = true → bs.getD h false = true)))
      ⟨v6, v7, false, bs, rfl, e3, d3, hl, .inr ⟨rfl, rfl, fun r h ps hr => absurd hr (Nat.not_lt_zero _)⟩⟩ (fun i σ H4 _ pv => ?_) (fun i x σ H4 H5 hi pv y => ?_) (fun σ H4 pv => ?_)
    · obtain ⟨_, _, _, _, _, e4, _⟩ := pv
      exact e4.sqt hh
    · obtain ⟨v6', v7', f, bs', rfl, e4, d4, hl', alt⟩ := pv
      obtain ⟨U, x1, x2, rfl, hU, rfl, hx1, hx2⟩ := y
      cases hx1
      replace hx2 : (heads.map nv)[i]? = some x2 := hx2
      rw [List.getElem?_map] at hx2
      obtain ⟨hh1, hhd, rfl⟩ := Option.map_eq_some_iff.mp hx2
      have hlt := ok.hd hh1 (List.mem_of_getElem? hhd)
      obtain ⟨ps, hps⟩ : ∃ ps, parts[i]? = some ps := ⟨parts[i]'(by rw [List.length_map] at hi; omega), List.getElem?_eq_getElem _⟩
      have e5 : Same H4 (upd H4 U (.tup [.int (i : Nat), nv hh1])) := Same.new hU
      refine ⟨U, _, rfl, .inl (.inl upd_same), rfl, _, _, rfl, _, _, rfl, rfl, ?_⟩
      generalize upd H4 U (.tup [.int (i : Nat), nv hh1]) = H5 at e5
      have d5 := e5 _ _ d4
      have e05 := e4.trans e5
      refine ⟨_, rfl, _, rfl, D, _, _, _, rfl, rfl, .inl (.inl d5), bool_at (by omega), _, rfl, ?_⟩
      by_cases z : bs'.getD hh1 false = true
      · rw [z]
        refine ⟨_, _, f, bs', rfl, e05, d5, hl', ?_⟩
        rcases alt with ⟨rfl, lt⟩ | ⟨rfl, rfl, cl⟩
        · exact .inl ⟨rfl, lt⟩
        · refine .inr ⟨rfl, rfl, fun r h ps' hr h1 h2 h3 => ?_⟩
          by_cases y : r = i
          · subst y
            rw [hhd] at h1
            cases h1
            exact z
          · exact cl r h ps' (by omega) h1 h2 h3
      · have z : bs'.getD hh1 false = false := by simpa using z
        rw [z]
        obtain ⟨as, b, ha, hab, hb⟩ := (hp.same e05).at hps
        refine ⟨_, rfl, _, rfl, _, rfl, _, rfl, pt, _, _, .ref b, rfl, rfl, .inl (.inl ha), hab, cnt, D, b, bs', ps, rfl, d5, hb, by have := ok.pl ps (List.mem_of_getElem? hps); omega, fun x hx => by have := ok.cd ps (List.mem_of_getElem? hps) x hx; omega, fun H6 e6 => ⟨_, rfl, ?_⟩⟩
        have e06 := e05.trans e6
        have d6 := e6 _ _ d5
        show (if standB cnt bs' ps = true then _ else _)
        by_cases y : standB cnt bs' ps = true
        · rw [if_pos y]
          refine ⟨_, rfl, _, rfl, D, _, _, hh1, rfl, rfl, d6, ixN_nat (by rw [List.length_map]; omega), ?_⟩
          rw [set_map]
          have cl := count_less (show hh1 < bs'.length by omega) z
          refine ⟨_, _, true, bs'.set hh1 true, rfl, Same.mut e06 hD0, upd_same, by rw [List.length_set]; exact hl', .inl ⟨rfl, ?_⟩⟩
          rcases alt with ⟨_, lt⟩ | ⟨_, rfl, _⟩
          · omega
          · omega
        · rw [if_neg y]
          refine ⟨_, _, f, bs', rfl, e06, d6, hl', ?_⟩
          rcases alt with ⟨rfl, lt⟩ | ⟨rfl, rfl, cl⟩
          · exact .inl ⟨rfl, lt⟩
          · refine .inr ⟨rfl, rfl, fun r h ps' hr h1 h2 h3 => ?_⟩
            by_cases x : r = i
            · subst x
              rw [hps] at h2
              cases h2
              exact absurd h3 y
            · exact cl r h ps' (by omega) h1 h2 h3
    · obtain ⟨v6', v7', f, bs', rfl, e4, d4, hl', alt⟩ := pv
      rcases alt with ⟨rfl, lt⟩ | ⟨rfl, rfl, cl⟩
      · exact ⟨bs'.count false + 1, by omega, v6', v7', true, bs', rfl, e4, d4, hl', .inl ⟨rfl, rfl⟩⟩
      · refine ⟨0, by omega, v6', v7', false, bs', rfl, e4, d4, hl', .inr ⟨rfl, fun r h ps h1 h2 h3 => cl r h ps ?_ h1 h2 h3⟩⟩
        rw [List.length_map]
        exact (List.getElem?_eq_some_iff.mp h1).1
  · rw [if_neg (by decide)]
    exact ⟨_, rfl, q D bs H1 e3 hD0 d3 hl cl⟩
end M

/-! text: P17 -/
set_option Elab.async false
set_option linter.all false
set_option maxRecDepth 100000
set_option maxHeartbeats 4000000
namespace M
open PySem PySem.Spec PyProof.Rows L2
/-- all that g's rules name is found -/
def DoneG (cnt : Nat) (heads : List Nat) (parts : List (List Nat)) (bs : List Bool) (g : Nat) : Prop := ∀ (r : Nat) (ps : List Nat), heads[r]? = some g → parts[r]? = some ps → ∀ c ∈ ps, cnt ≤ c → bs.getD (c - cnt) false = true
structure RInv (cnt grp : Nat) (heads : List Nat) (parts : List (List Nat)) (g m : Nat) (bs : List Bool) (ws : List Nat) : Prop where
  len : bs.length = grp
  wl : ∀ x ∈ ws, x < grp
  wn : ws.length + bs.count false ≤ grp
  ms : 2 * bs.count false + ws.length ≤ m
  z : bs.getD 0 false = true
  all : ∀ g', bs.getD g' false = true → g' ∈ ws ∨ DoneG cnt heads parts bs g' ∨ g' = g
theorem DoneG.mono {cnt : Nat} {heads : List Nat} {parts : List (List Nat)} {bs bs' : List Bool} {g : Nat} (h : DoneG cnt heads parts bs g) (e : ∀ k, bs.getD k false = true → bs'.getD k false = true) : DoneG cnt heads parts bs' g := fun r ps h1 h2 c h3 h4 => e _ (h r ps h1 h2 c h3 h4)
theorem set_mono {bs : List Bool} {k : Nat} (hk : k < bs.length) : ∀ j, bs.getD j false = true → (bs.set k true).getD j false = true := fun j h => by
  rw [getD_set hk]
  split
  · rfl
  · exact h
theorem RInv.step {cnt grp : Nat} {heads : List Nat} {parts : List (List Nat)} {g m : Nat} {bs : List Bool} {ws : List Nat} (h : RInv cnt grp heads parts g m bs ws) {k : Nat} (hk : k < grp) (hf : bs.getD k false = false) : RInv cnt grp heads parts g m (bs.set k true) (ws ++ [k]) := by
  have hkl : k < bs.length := by rw [h.len]; exact hk
  have c := count_less hkl hf
  refine ⟨by rw [List.length_set]; exact h.len, fun x hx => ?_, ?_, ?_, set_mono hkl 0 h.z, fun g' hg' => ?_⟩
  · rcases List.mem_append.mp hx with z | z
    · exact h.wl x z
    · rw [List.mem_singleton.mp z]
      exact hk
  · have := h.wn
    rw [List.length_append]
    show ws.length + 1 + _ ≤ _
    omega
  · have := h.ms
    rw [List.length_append]
    show _ + (ws.length + 1) ≤ _
    omega
  · rw [getD_set hkl] at hg'
    by_cases z : g' = k
    · exact .inl (List.mem_append_right _ (by rw [z]; exact List.mem_singleton_self _))
    · rw [if_neg z] at hg'
      rcases h.all g' hg' with y | y | y
      · exact .inl (List.mem_append_left _ y)
      · exact .inr (.inl (y.mono (set_mono hkl)))
      · exact .inr (.inr y)
def sp_reached (K : PySem.W.Frag) : Sp := fun vs H Q _ => ∃ (cnt grp : Nat) (hd pt wh : Addr) (heads : List Nat) (parts : List (List Nat)), vs = [nv cnt, nv grp, .ref hd, .ref pt, .ref wh] ∧ SqT K H hd (heads.map nv) ∧ RowsL K H pt parts ∧ RulesOk cnt grp heads parts ∧ 0 < grp ∧
  H wh = some (.lst ((List.replicate parts.length true).map V.bl)) ∧
  ∀ (D : Addr) (bs : List Bool) H', Same H H' → H D = none → H' D = some (.lst (bs.map V.bl)) → bs.length = grp → bs.getD 0 false = true → (∀ g, bs.getD g false = true → DoneG cnt heads parts bs g) → Q (.ref D) H'
theorem len_reached {K : PySem.W.Frag} (vs : List V) (H : Hp) (Q : VK) (E : XK) (h : sp_reached K vs H Q E) : vs.length = 5 := by
  obtain ⟨cnt, grp, hd, pt, wh, heads, parts, rfl, _⟩ := h
  rfl
abbrev N_reached : List Str := ["count", "groups", "heads", "parts", "whole", "found", "waiting", "group", "rule", "head", "code"]
def t_reached (K : PySem.W.Frag) (P : Program) (w : World) : TS :=
  (tSeq (tAsg (tOp rRep (tLst (tCons (tC (.bl false)) tNil)) (tVar 1)) (gName 5))
    (tSeq (tAsg (tC (.bl true)) (gSub (tVar 5) (tC (.int 0)) rSetL))
    (tSeq (tAsg (tLst (tCons (tC (.int 0)) tNil)) (gName 6))
    (tSeq (tWhile (tTru K (tVar 6)) (tSeq (tAsg (tBM0 K "list" rPop (tVar 6)) (gName 7))
    (tFor (iEnumT K (tCons (tVar 2) tNil)) (gTup K 2 (gCons (gName 8) (gCons (gName 9) gNil))) (tSeq (tIfS (tOr (tTest (tOp rNe (tVar 9) (tVar 7))) (tNot (tB (tOp (rIxL K) (tVar 4) (tVar 8))))) tCont tNext)
    (tFor (iSeq K (tOp (rIxL K) (tVar 3) (tVar 8))) (gName 10) (tIfS (tAnd (tTest (tOp rGeI (tVar 10) (tVar 0))) (tNot (tB (tOp (rIxL K) (tVar 5) (tOp rSubI (tVar 10) (tVar 0)))))) (tSeq (tAsg (tC (.bl true)) (gSub (tVar 5) (tOp rSubI (tVar 10) (tVar 0)) rSetL))
    (tDrop (tBM K "list" rAppend (tVar 6) (tCons (tOp rSubI (tVar 10) (tVar 0)) tNil)))) tNext))))))
    (tRet (tVar 5))))))
theorem pure_reached {K : PySem.W.Frag} {P : Program} {w : World} (vs : List V) (H : Hp) (Q : VK) (E : XK) (h : sp_reached K vs H Q E) : t_reached K P w { nx := fun _ H' => Q .non H', rt := Q } (start N_reached vs) H := by
  obtain ⟨cnt, grp, hd, pt, wh, heads, parts, rfl, hh, hp, ok, gpos, hw, q⟩ := h
  have g64 := ok.gfew
  have r64 := ok.few
  have c1k := ok.cfew
  have hlen := ok.len
  refine ⟨by decide, fun L hL => ⟨_, rfl, L, _, _, rfl, rfl, upd_same, by omega, by omega, by rw [sizeLine_eq]; show 1 * _ ≤ _; omega, fun D hD => ?_⟩⟩
  have e1 : Same H (upd H L (.lst [.bl false])) := Same.new hL
  have hD0 : H D = none := e1.fresh hD
  have e2 : Same H (upd (upd H L (.lst [.bl false])) D (.lst (List.replicate (grp : Int).toNat [V.bl false]).flatten)) := Same.mut e1 hD0
  have d2 : (upd (upd H L (.lst [.bl false])) D (.lst (List.replicate (grp : Int).toNat [V.bl false]).flatten)) D = some (.lst ((List.replicate grp false).map V.bl)) := by
    rw [upd_same, rep_false]
    rfl
  show tSeq _ _ _ _ (upd (upd H L (.lst [.bl false])) D (.lst (List.replicate (grp : Int).toNat [V.bl false]).flatten))
  generalize upd (upd H L (.lst [.bl false])) D (.lst (List.replicate (grp : Int).toNat [V.bl false]).flatten) = H2 at e2 d2
  refine ⟨_, rfl, D, _, 0, 0, rfl, rfl, d2, ixN_nat (by rw [List.length_map, List.length_replicate]; exact gpos), ?_⟩
  rw [set_map]
  have e3 : Same H (upd H2 D (.lst (((List.replicate grp false).set 0 true).map V.bl))) := Same.mut e2 hD0
  have d3 : (upd H2 D (.lst (((List.replicate grp false).set 0 true).map V.bl))) D = some (.lst (((List.replicate grp false).set 0 true).map V.bl)) := upd_same
  show tSeq _ _ _ _ (upd H2 D (.lst (((List.replicate grp false).set 0 true).map V.bl)))
  generalize upd H2 D (.lst (((List.replicate grp false).set 0 true).map V.bl)) = H3 at e3 d3
  refine ⟨by decide, fun Wa hWa => ?_⟩
  have hW0 : H Wa = none := e3.fresh hWa
  have nWD : D ≠ Wa := ne_of_none d3 hWa
  have e4 : Same H (upd H3 Wa (.lst [.int 0])) := Same.mut e3 hW0
  have d4 : (upd H3 Wa (.lst [.int 0])) D = some (.lst (((List.replicate grp false).set 0 true).map V.bl)) := by
    rw [upd_ne nWD]
    exact d3
  have w4 : (upd H3 Wa (.lst [.int 0])) Wa = some (.lst (([0] : List Nat).map nv)) := upd_same
  show tSeq _ _ _ _ (upd H3 Wa (.lst [.int 0]))
  generalize upd H3 Wa (.lst [.int 0]) = H4 at e4 d4 w4
  have rep0 : (List.replicate grp false).getD 0 false = false := by
    rw [List.getD_eq_getElem?_getD, List.getElem?_replicate]
    split <;> rfl
  have start0 : RInv cnt grp heads parts grp (2 * grp) ((List.replicate grp false).set 0 true) [0] := by
    have hkl : 0 < (List.replicate grp false).length := by rw [List.length_replicate]; exact gpos
    have c := count_less hkl rep0
    rw [List.count_replicate_self] at c
    refine ⟨by rw [List.length_set, List.length_replicate], fun x hx => by rw [List.mem_singleton.mp hx]; exact gpos, by show 1 + _ ≤ _; omega, by show _ + 1 ≤ _; omega, by rw [getD_set hkl, if_pos rfl], fun g' hg' => ?_⟩
    rw [getD_set hkl] at hg'
    by_cases z : g' = 0
    · exact .inl (by rw [z]; exact List.mem_singleton_self _)
    · rw [if_neg z, List.getD_eq_getElem?_getD, List.getElem?_replicate] at hg'
      split at hg' <;> cases hg'
  refine ⟨fun mm σ H1 => ∃ (v7 v8 v9 v10 : Option V) (bs : List Bool) (ws : List Nat), σ = [some (nv cnt), some (nv grp), some (.ref hd), some (.ref pt), some (.ref wh), some (.ref D), some (.ref Wa), v7, v8, v9, v10] ∧ Same H H1 ∧ H1 D = some (.lst (bs.map V.bl)) ∧ H1 Wa = some (.lst (ws.map nv)) ∧
    RInv cnt grp heads parts grp mm bs ws, ⟨_, none, none, none, none, _, _, rfl, e4, d4, w4, start0⟩, fun mm σ H1 wv => ?_⟩
  obtain ⟨v7, v8, v9, v10, bs, ws, rfl, e5, d5, w5, inv⟩ := wv
  refine ⟨_, rfl, !(ws.map nv).isEmpty, .inl ⟨_, .inl (.inl w5), rfl⟩, ?_⟩
  rcases List.eq_nil_or_concat ws with rfl | ⟨ws', g, rfl⟩
  · rw [if_neg (by decide)]
    refine ⟨_, rfl, q D bs H1 e5 hD0 d5 inv.len inv.z fun g hg => ?_⟩
    rcases inv.all g hg with z | z | z
    · cases z
    · exact z
    · subst z
      rw [List.getD_eq_getElem?_getD, List.getElem?_eq_none (by rw [inv.len]; exact Nat.le_refl _)] at hg
      cases hg
  · rw [List.concat_eq_append] at *
    have ne : (!((ws' ++ [g]).map nv).isEmpty) = true := by simp
    rw [if_pos ne]
    have hgl : g < grp := inv.wl g (by simp)
    have hms := inv.ms
    have hwn := inv.wn
    rw [List.length_append] at hms hwn
    have hms : 2 * bs.count false + (ws'.length + 1) ≤ mm := hms
    have hwn : ws'.length + 1 + bs.count false ≤ grp := hwn
    refine ⟨fun σ' H' => ∃ m', m' < mm ∧ ∃ (v7 v8 v9 v10 : Option V) (bs : List Bool) (ws : List Nat), σ' = [some (nv cnt), some (nv grp), some (.ref hd), some (.ref pt), some (.ref wh), some (.ref D), some (.ref Wa), v7, v8, v9, v10] ∧ Same H H' ∧ H' D = some (.lst (bs.map V.bl)) ∧ H' Wa = some (.lst (ws.map nv)) ∧
      RInv cnt grp heads parts grp m' bs ws, fun _ _ h => h, ?_⟩
    refine ⟨_, rfl, .inl ⟨rfl, _, .inl (.inl w5)⟩, Wa, _, nv g, rfl, rfl, w5, by simp, ?_⟩
    have dl : ((ws' ++ [g]).map nv).dropLast = ws'.map nv := by simp
    rw [dl]
    have e6 : Same H (upd H1 Wa (.lst (ws'.map nv))) := Same.mut e5 hW0
    have d6 : (upd H1 Wa (.lst (ws'.map nv))) D = some (.lst (bs.map V.bl)) := by
      rw [upd_ne nWD]
      exact d5
    have w6 : (upd H1 Wa (.lst (ws'.map nv))) Wa = some (.lst (ws'.map nv)) := upd_same
    generalize upd H1 Wa (.lst (ws'.map nv)) = H6 at e6 d6 w6
    have inv6 : RInv cnt grp heads parts g (mm - 1) bs ws' := ⟨inv.len, fun x hx => inv.wl x (List.mem_append_left _ hx), by omega, by omega, inv.z, fun g' hg' => by
      rcases inv.all g' hg' with z | z | z
      · rcases List.mem_append.mp z with y | y
        · exact .inl y
        · exact .inr (.inr (List.mem_singleton.mp y))
      · exact .inr (.inl z)
      · subst z
        rw [List.getD_eq_getElem?_getD, List.getElem?_eq_none (by rw [inv.len]; exact Nat.le_refl _)] at hg'
        cases hg'⟩
    refine ⟨_, rfl, hd, _, rfl, e6.sqt hh, ?_⟩
    refine for_it (walk_enumT (xs := heads.map nv)) (fun i σ H4 => ∃ (v8 v9 v10 : Option V) (bs : List Bool) (ws : List Nat), σ = [some (nv cnt), some (nv grp), some (.ref hd), some (.ref pt), some (.ref wh), some (.ref D), some (.ref Wa), some (nv g), v8, v9, v10] ∧ Same H H4 ∧ H4 D = some (.lst (bs.map V.bl)) ∧ H4 Wa = some (.lst (ws.map nv)) ∧
      RInv cnt grp heads parts g (mm - 1) bs ws ∧ ∀ (r : Nat) (ps : List Nat), r < i → heads[r]? = some g → parts[r]? = some ps → ∀ c ∈ ps, cnt ≤ c → bs.getD (c - cnt) false = true)
      ⟨v8, v9, v10, bs, ws', rfl, e6, d6, w6, inv6, fun r ps hr => absurd hr (Nat.not_lt_zero _)⟩ (fun i σ H4 _ pv => ?_) (fun i x σ H4 H5 hi pv y => ?_) (fun σ H4 pv => ?_)
    · obtain ⟨_, _, _, _, _, _, e4, _⟩ := pv
      exact e4.sqt hh
    · obtain ⟨v8', v9', v10', bs7, ws7, rfl, e7, d7, w7, inv7, dn7⟩ := pv
      obtain ⟨U, x1, x2, rfl, hU, rfl, hx1, hx2⟩ := y
      cases hx1
      replace hx2 : (heads.map nv)[i]? = some x2 := hx2
      rw [List.getElem?_map] at hx2
      obtain ⟨hh1, hhd, rfl⟩ := Option.map_eq_some_iff.mp hx2
      have hi' : i < parts.length := by rw [List.length_map] at hi; omega
      obtain ⟨ps, hps⟩ : ∃ ps, parts[i]? = some ps := ⟨parts[i], List.getElem?_eq_getElem hi'⟩
      have e8 : Same H4 (upd H4 U (.tup [.int (i : Nat), nv hh1])) := Same.new hU
      refine ⟨U, _, rfl, .inl (.inl upd_same), rfl, _, _, rfl, _, _, rfl, rfl, ?_⟩
      generalize upd H4 U (.tup [.int (i : Nat), nv hh1]) = H8 at e8
      have d8 := e8 _ _ d7
      have w8 := e8 _ _ w7
      have e08 := e7.trans e8
      refine ⟨_, rfl, _, rfl, rfl, _, rfl, ?_⟩
      by_cases z : hh1 = g
      · subst z
        have ze : (!decide (nv hh1 = nv hh1)) = false := by rw [decide_eq_true rfl]; rfl
        rw [ze]
        have hw8 := e08 _ _ hw
        have wat : atI ((List.replicate parts.length true).map V.bl) (i : Int) = some (.bl true) := atI_nat (by rw [List.getElem?_map, List.getElem?_replicate, if_pos hi']; rfl)
        refine ⟨_, rfl, _, rfl, wh, _, _, _, rfl, rfl, .inl (.inl hw8), wat, _, rfl, ?_⟩
        obtain ⟨as, b, ha, hab, hb⟩ := hp.at hps
        refine ⟨_, rfl, _, rfl, pt, _, _, .ref b, rfl, rfl, .inl (.inl (e08 _ _ ha)), hab, b, false, _, rfl, e08.sqt hb, ?_⟩
        refine for_it (walk_sq (xs := ps.map nv)) (fun j σ H9 => ∃ (v10 : Option V) (bs : List Bool) (ws : List Nat), σ = [some (nv cnt), some (nv grp), some (.ref hd), some (.ref pt), some (.ref wh), some (.ref D), some (.ref Wa), some (nv hh1), some (.int (i : Nat)), some (nv hh1), v10] ∧ Same H H9 ∧ H9 D = some (.lst (bs.map V.bl)) ∧ H9 Wa = some (.lst (ws.map nv)) ∧
          RInv cnt grp heads parts hh1 (mm - 1) bs ws ∧ (∀ (r : Nat) (ps : List Nat), r < i → heads[r]? = some hh1 → parts[r]? = some ps → ∀ c ∈ ps, cnt ≤ c → bs.getD (c - cnt) false = true) ∧ ∀ c ∈ ps.take j, cnt ≤ c → bs.getD (c - cnt) false = true)
          ⟨v10', bs7, ws7, rfl, e08, d8, w8, inv7, dn7, fun c hc => nomatch hc⟩ (fun j σ H9 _ pv => ?_) (fun j x σ H9 H10 hj pv y => ?_) (fun σ H9 pv => ?_)
        · obtain ⟨_, _, _, _, e9, _⟩ := pv
          exact e9.sqt hb
        · obtain ⟨v10'', bs9, ws9, rfl, e9, d9, w9, inv9, dn9, tk9⟩ := pv
          obtain ⟨rfl, hx⟩ := y
          rw [List.getElem?_map] at hx
          obtain ⟨c, hc, rfl⟩ := Option.map_eq_some_iff.mp hx
          have hcl := ok.cd ps (List.mem_of_getElem? hps) c (List.mem_of_getElem? hc)
          have tk : ∀ bs' : List Bool, (∀ k, bs9.getD k false = true → bs'.getD k false = true) → (cnt ≤ c → bs'.getD (c - cnt) false = true) → ∀ c' ∈ ps.take (j + 1), cnt ≤ c' → bs'.getD (c' - cnt) false = true := fun bs' mono hcc c' hc' hle => by
            rw [List.take_succ, hc] at hc'
            rcases List.mem_append.mp hc' with z | z
            · exact mono _ (tk9 c' z hle)
            · have : c' = c := by simpa using z
              rw [this] at hle ⊢
              exact hcc hle
          refine ⟨_, rfl, _, rfl, _, _, rfl, rfl, _, rfl, ?_⟩
          by_cases zc : cnt ≤ c
          · rw [decide_eq_true (show (cnt : Int) ≤ c by omega)]
            have ci : (c : Int) - cnt = ((c - cnt : Nat) : Int) := by omega
            refine ⟨_, rfl, _, rfl, _, rfl, _, _, rfl, rfl, D, _, _, .bl (bs9.getD (c - cnt) false), rfl, rfl, .inl (.inl d9), ?_, _, rfl, ?_⟩
            · rw [ci]
              exact bool_at (by rw [inv9.len]; omega)
            · by_cases zf : bs9.getD (c - cnt) false = true
              · rw [zf]
                exact ⟨_, bs9, ws9, rfl, e9, d9, w9, inv9, dn9, tk bs9 (fun _ h => h) fun _ => zf⟩
              · have zf : bs9.getD (c - cnt) false = false := by simpa using zf
                rw [zf]
                have hkl : c - cnt < bs9.length := by rw [inv9.len]; omega
                refine ⟨_, rfl, _, rfl, _, rfl, _, _, rfl, rfl, D, _, _, c - cnt, rfl, rfl, d9, ?_, ?_⟩
                · rw [ci]
                  exact ixN_nat (by rw [List.length_map]; exact hkl)
                · rw [set_map]
                  have w10 : (upd H10 D (.lst ((bs9.set (c - cnt) true).map V.bl))) Wa = some (.lst (ws9.map nv)) := by
                    rw [upd_ne (Ne.symm nWD)]
                    exact w9
                  have hwn9 := inv9.wn
                  refine ⟨_, rfl, .inl ⟨rfl, _, .inl (.inl w10)⟩, _, rfl, _, rfl, _, _, rfl, rfl, Wa, _, _, rfl, rfl, w10, by rw [List.length_map, sizeLine_eq]; omega, ?_⟩
                  have e10 : Same H (upd H10 D (.lst ((bs9.set (c - cnt) true).map V.bl))) := Same.mut e9 hD0
                  refine ⟨_, bs9.set (c - cnt) true, ws9 ++ [c - cnt], rfl, Same.mut e10 hW0, ?_, ?_, inv9.step (by omega) zf, fun r ps' hr h1 h2 c' h3 h4 => set_mono hkl _ (dn9 r ps' hr h1 h2 c' h3 h4), tk _ (set_mono hkl) fun _ => by rw [getD_set hkl, if_pos rfl]⟩
                  · rw [upd_ne nWD]
                    exact upd_same
                  · rw [upd_same, List.map_append]
                    show some (HO.lst (List.map nv ws9 ++ [V.int ((c : Int) - cnt)])) = _
                    rw [ci]
                    rfl
          · rw [decide_eq_false (show ¬ (cnt : Int) ≤ c by omega)]
            exact ⟨_, bs9, ws9, rfl, e9, d9, w9, inv9, dn9, tk bs9 (fun _ h => h) fun h => absurd h zc⟩
        · obtain ⟨v10'', bs9, ws9, rfl, e9, d9, w9, inv9, dn9, tk9⟩ := pv
          refine ⟨_, _, _, bs9, ws9, rfl, e9, d9, w9, inv9, fun r ps' hr h1 h2 c h3 h4 => ?_⟩
          by_cases y : r = i
          · subst y
            rw [hps] at h2
            cases h2
            exact tk9 c (by rw [List.length_map, List.take_length]; exact h3) h4
          · exact dn9 r ps' (by omega) h1 h2 c h3 h4
      · have ze : (!decide (nv hh1 = nv g)) = true := by
          rw [decide_eq_false (fun e => z (by have := V.int.inj e; omega))]
          rfl
        rw [ze]
        refine ⟨_, _, _, bs7, ws7, rfl, e08, d8, w8, inv7, fun r ps' hr h1 h2 => ?_⟩
        by_cases y : r = i
        · subst y
          rw [hhd] at h1
          cases h1
          exact absurd rfl z
        · exact dn7 r ps' (by omega) h1 h2
    · obtain ⟨v8', v9', v10', bs7, ws7, rfl, e7, d7, w7, inv7, dn7⟩ := pv
      have hm7 := inv7.ms
      refine ⟨mm - 1, by omega, _, _, _, _, bs7, ws7, rfl, e7, d7, w7, ⟨inv7.len, inv7.wl, inv7.wn, inv7.ms, inv7.z, fun g' hg' => ?_⟩⟩
      rcases inv7.all g' hg' with z | z | z
      · exact .inl z
      · exact .inr (.inl z)
      · subst z
        exact .inr (.inl fun r ps h1 h2 => dn7 r ps (by rw [List.length_map]; exact (List.getElem?_eq_some_iff.mp h1).1) h1 h2)
end M

/-! text: P18 -/
set_option Elab.async false
set_option linter.all false
set_option maxRecDepth 100000
set_option maxHeartbeats 4000000
namespace M
open PySem PySem.Spec PyProof.Rows L2
structure Useful (cnt grp : Nat) (heads : List Nat) (parts : List (List Nat)) : Prop where
  rk : ∃ rk : Nat → Nat, ∀ h, h < grp → ∃ (r : Nat) (ps : List Nat), heads[r]? = some h ∧ parts[r]? = some ps ∧ ∀ c ∈ ps, c < cnt ∨ rk (c - cnt) < rk h
  rc : ∀ S : Nat → Prop, S 0 → (∀ (r h : Nat) (ps : List Nat), heads[r]? = some h → parts[r]? = some ps → S h → ∀ c ∈ ps, cnt ≤ c → S (c - cnt)) → ∀ h, h < grp → S h
theorem trees_all {cnt grp : Nat} {heads : List Nat} {parts : List (List Nat)} (ok : RulesOk cnt grp heads parts) (u : Useful cnt grp heads parts) {bs : List Bool} (cl : ∀ (r h : Nat) (ps : List Nat), heads[r]? = some h → parts[r]? = some ps → standB cnt bs ps = true → bs.getD h false = true) : ∀ h, h < grp → bs.getD h false = true := by
  obtain ⟨rk, hrk⟩ := u.rk
  have : ∀ n h, rk h = n → h < grp → bs.getD h false = true := by
    intro n
    induction n using Nat.strongRecOn with
    | _ n ih =>
      intro h e hl
      obtain ⟨r, ps, h1, h2, h3⟩ := hrk h hl
      refine cl r h ps h1 h2 (standB_iff.mpr fun c hc => ?_)
      rcases h3 c hc with z | z
      · exact .inl z
      · by_cases y : c < cnt
        · exact .inl y
        · have := ok.cd ps (List.mem_of_getElem? h2) c hc
          exact .inr (ih _ (by omega) _ rfl (by omega))
  exact fun h hl => this _ h rfl hl
def sp_useless_rules (K : PySem.W.Frag) : Sp := fun vs H Q _ => ∃ (cnt grp : Nat) (hd pt : Addr) (heads : List Nat) (parts : List (List Nat)), vs = [nv cnt, nv grp, .ref hd, .ref pt] ∧ SqT K H hd (heads.map nv) ∧ RowsL K H pt parts ∧ RulesOk cnt grp heads parts ∧ 0 < grp ∧ Useful cnt grp heads parts ∧
  ∀ (D : Addr) H', Same H H' → H' D = some (.lst []) → Q (.ref D) H'
theorem len_useless_rules {K : PySem.W.Frag} (vs : List V) (H : Hp) (Q : VK) (E : XK) (h : sp_useless_rules K vs H Q E) : vs.length = 4 := by
  obtain ⟨cnt, grp, hd, pt, heads, parts, rfl, _⟩ := h
  rfl
abbrev N_useless_rules : List Str := ["count", "groups", "heads", "parts", "trees", "whole", "seen", "codes", "rule", "head"]
def t_useless_rules (K : PySem.W.Frag) (P : Program) (w : World) : TS :=
  (tSeq (tAsg (tCl (sp_with_trees K) (tCons (tVar 0) (tCons (tVar 1) (tCons (tVar 2) (tCons (tVar 3) tNil))))) (gName 4))
    (tSeq (tAsg (tLc (iSeq K (tVar 3)) (gName 7) tYes (tCl (sp_can_stand K) (tCons (tVar 0) (tCons (tVar 4) (tCons (tVar 7) tNil)))) [7]) (gName 5))
    (tSeq (tAsg (tCl (sp_reached K) (tCons (tVar 0) (tCons (tVar 1) (tCons (tVar 2) (tCons (tVar 3) (tCons (tVar 5) tNil)))))) (gName 6))
    (tRet (tLc (iEnumT K (tCons (tVar 2) tNil)) (gTup K 2 (gCons (gName 8) (gCons (gName 9) gNil))) (tOr (tNot (tB (tOp (rIxL K) (tVar 5) (tVar 8)))) (tNot (tB (tOp (rIxL K) (tVar 6) (tVar 9))))) (tVar 8) [8, 9])))))
theorem pure_useless_rules {K : PySem.W.Frag} {P : Program} {w : World} (vs : List V) (H : Hp) (Q : VK) (E : XK) (h : sp_useless_rules K vs H Q E) : t_useless_rules K P w { nx := fun _ H' => Q .non H', rt := Q } (start N_useless_rules vs) H := by
  obtain ⟨cnt, grp, hd, pt, heads, parts, rfl, hh, hp, ok, gpos, us, q⟩ := h
  have g64 := ok.gfew
  have r64 := ok.few
  have hlen := ok.len
  refine ⟨_, rfl, _, rfl, _, rfl, _, rfl, cnt, grp, hd, pt, heads, parts, rfl, hh, hp, ok, fun D bs H1 e1 hD0 d1 hl cl => ?_⟩
  have all := trees_all ok us cl
  obtain ⟨as, ha, hal, hrow⟩ := hp
  refine ⟨_, rfl, pt, true, _, rfl, .inl (.inl (e1 _ _ ha)), fun W hW => ?_⟩
  refine lc_pure (walk_sq (xs := as.map V.ref)) (by rw [List.length_map]; omega) (fun _ => true) (fun _ => .bl true) hW (fun H' e' => .inl (.inl (e' _ _ (e1 _ _ ha)))) (fun i x Ha Hb hi e2 y => ?_) (fun H2 e2 h2 => ?_)
  · obtain ⟨rfl, hx⟩ := y
    rw [List.getElem?_map] at hx
    obtain ⟨b, hb, rfl⟩ := Option.map_eq_some_iff.mp hx
    have hi2 : i < parts.length := by rw [List.length_map] at hi; omega
    have hps : parts[i]? = some parts[i] := List.getElem?_eq_getElem hi2
    generalize parts[i] = ps at hps
    have hm := List.mem_of_getElem? hps
    intro Q2 QF k1 k2
    refine ⟨rfl, yes_go ⟨_, rfl, _, rfl, _, rfl, cnt, D, b, bs, ps, rfl, e2 _ _ d1, (e1.trans e2).sqt (hrow i b ps hb hps), by have := ok.pl ps hm; omega, fun x hx => by have := ok.cd ps hm x hx; omega, fun H3 e3 => ?_⟩⟩
    refine q_to (k1 rfl H3 e3) (congrArg V.bl ?_)
    refine (standB_iff.mpr fun c hc => ?_).symm
    have := ok.cd ps hm c hc
    by_cases y : c < cnt
    · exact .inl y
    · exact .inr (all _ (by omega))
  · rw [kept_all, List.length_map, hal] at h2
    have h2' : H2 W = some (.lst ((List.replicate parts.length true).map V.bl)) := by
      rw [h2, List.map_replicate]
      congr 2
      apply List.ext_getElem?
      intro i
      rw [List.getElem?_map, List.getElem?_replicate]
      by_cases z : i < parts.length
      · rw [List.getElem?_range z, if_pos z]
        rfl
      · rw [List.getElem?_eq_none (by rw [List.length_range]; omega), if_neg z]
        rfl
    have e12 := e1.trans e2
    refine ⟨_, rfl, _, rfl, _, rfl, _, rfl, _, rfl, cnt, grp, hd, pt, W, heads, parts, rfl, e12.sqt hh, RowsL.same ⟨as, ha, hal, hrow⟩ e12, ok, gpos, h2', fun D2 bs2 H3 e3 hD2 d3 hl3 z3 cl3 => ?_⟩
    have e13 := e12.trans e3
    have h23 := e3 _ _ h2'
    have seen : ∀ h, h < grp → bs2.getD h false = true := us.rc (fun h => bs2.getD h false = true) z3 fun r h ps h1 h2 h3 c hc hle => cl3 h h3 r ps h1 h2 c hc hle
    refine ⟨_, rfl, hd, _, rfl, e13.sqt hh, fun Z hZ => ?_⟩
    refine lc_pure (walk_enumT (xs := heads.map nv)) (by rw [List.length_map]; omega) (fun _ => false) (fun _ => .non) hZ (fun H' e' => (e13.trans e').sqt hh) (fun i x Ha Hb hi e4 y => ?_) (fun H4 e4 h4 => ?_)
    · obtain ⟨U, x1, x2, rfl, hU, rfl, hx1, hx2⟩ := y
      cases hx1
      replace hx2 : (heads.map nv)[i]? = some x2 := hx2
      rw [List.getElem?_map] at hx2
      obtain ⟨hh1, hhd, rfl⟩ := Option.map_eq_some_iff.mp hx2
      have hlt := ok.hd hh1 (List.mem_of_getElem? hhd)
      have hi2 : i < parts.length := by rw [List.length_map] at hi; omega
      intro Q2 QF k1 k2
      have e5 := Same.new (o := .tup [.int (i : Nat), nv hh1]) hU
      have wat : atI ((List.replicate parts.length true).map V.bl) (i : Int) = some (.bl true) := atI_nat (by rw [List.getElem?_map, List.getElem?_replicate, if_pos hi2]; rfl)
      have sat := bool_at (bs := bs2) (i := hh1) (by omega)
      rw [seen hh1 hlt] at sat
      refine ⟨U, _, rfl, .inl (.inl upd_same), rfl, _, _, rfl, _, _, rfl, rfl, rfl, ?_⟩
      refine ⟨_, rfl, _, rfl, W, _, _, _, rfl, rfl, .inl (.inl ((e4.trans e5) _ _ h23)), wat, _, rfl, ?_⟩
      refine ⟨_, rfl, _, rfl, D2, _, _, _, rfl, rfl, .inl (.inl ((e4.trans e5) _ _ d3)), sat, _, rfl, ?_⟩
      exact k2 rfl _ e5
    · refine q Z H4 (e13.trans e4) ?_
      rw [h4]
      congr 2
      unfold kept
      rw [List.filter_eq_nil_iff.mpr (fun _ _ => by decide)]
      rfl
end M

/-! text: P19 -/
set_option Elab.async false
set_option linter.all false
set_option maxRecDepth 100000
set_option maxHeartbeats 4000000
namespace M
open PySem PySem.Spec PyProof.Rows L2
/-- a comprehension's loop of any body -/
theorem comp_it {J : It} {n : Nat} {G : Hp → Prop} {Y : Nat → Hp → V → Hp → Prop} (w : Walk J n G Y) {g : TG} {tt : TT} {vs : List Nat} {σ : L2.St} {Hs : Hp} {Qd : Hp → Prop} {B : (Hp → Prop) → L2.St → Hp → Bool → Prop} (Pv : Nat → Hp → Prop) (h0 : Pv 0 Hs) (hG : ∀ i H, i ≤ n → Pv i H → G H)
    (hs : ∀ i x H H', i < n → Pv i H → Y i H x H' → g x (wipe σ vs) H' fun σ2 H2 => wipe σ2 vs = wipe σ vs ∧ tt σ2 H2 fun b H3 => B (Pv (i + 1)) σ2 H3 b) (hd : ∀ H, Pv n H → Qd H) :
    ∃ W : Nat → Nat → Hp → Prop, (∃ m, W 0 m Hs) ∧ ∀ i m H, W i m H →
      (J.stop i H ∧ Qd H) ∨ (J.go i H ∧ ∃ Nx : Hp → Prop, (∀ H', Nx H' → ∃ m', m' < m ∧ W (i + 1) m' H') ∧ ∀ x H', J.yld i H x H' → g x (wipe σ vs) H' fun σ2 H2 => wipe σ2 vs = wipe σ vs ∧ tt σ2 H2 fun b H3 => B Nx σ2 H3 b) := by
  refine ⟨fun i m H => m = n - i ∧ i ≤ n ∧ Pv i H, ⟨n, by omega, Nat.zero_le _, h0⟩, ?_⟩
  rintro i m H ⟨rfl, hi, p⟩
  have q := hG i H hi p
  rcases Nat.lt_or_ge i n with hlt | hge
  · exact .inr ⟨w.goes i H hlt q, Pv (i + 1), fun H' p' => ⟨n - (i + 1), by omega, rfl, hlt, p'⟩, fun x H' y => hs i x H H' hlt p (w.yields i H x H' hlt q y)⟩
  · obtain rfl : i = n := Nat.le_antisymm hi hge
    exact .inl ⟨w.stops H q, hd H p⟩
theorem inV_str (t : Str) (l : List Str) : inV (.str t) (l.map V.str) = decide (t ∈ l) := by
  unfold inV
  rw [List.any_map, Bool.eq_iff_iff, List.any_eq_true, decide_eq_true_eq]
  constructor
  · rintro ⟨x, hx, e⟩
    have e : (x == t) = true := e
    rw [beq_iff_eq] at e
    exact e ▸ hx
  · intro h
    exact ⟨t, h, beq_self_eq_true t⟩
theorem flat_strs (l : List Str) : (l.map V.str).all flatV = true := by
  rw [List.all_map]
  exact List.all_eq_true.mpr fun _ _ => rfl
/-! ### rules_with -/
def sp_rules_with (K : PySem.W.Frag) : Sp := fun vs H Q _ => ∃ (hd : Addr) (g : Nat) (heads : List Nat), vs = [.ref hd, nv g] ∧ SqT K H hd (heads.map nv) ∧ heads.length ≤ 64 ∧ ∀ p H', Same H H' → (∃ xs, SqT K H' p xs) → Q (.ref p) H'
theorem len_rules_with {K : PySem.W.Frag} (vs : List V) (H : Hp) (Q : VK) (E : XK) (h : sp_rules_with K vs H Q E) : vs.length = 2 := by
  obtain ⟨hd, g, heads, rfl, _⟩ := h
  rfl
abbrev N_rules_with : List Str := ["heads", "group", "rule", "head"]
def t_rules_with (K : PySem.W.Frag) (P : Program) (w : World) : TS :=
  (tRet (tCB (rTupleOf K) (tCons (tLc (iEnumT K (tCons (tVar 0) tNil)) (gTup K 2 (gCons (gName 2) (gCons (gName 3) gNil))) (tTest (tOp rEq (tVar 3) (tVar 1))) (tVar 2) [2, 3]) tNil)))
theorem pure_rules_with {K : PySem.W.Frag} {P : Program} {w : World} (vs : List V) (H : Hp) (Q : VK) (E : XK) (h : sp_rules_with K vs H Q E) : t_rules_with K P w { nx := fun _ H' => Q .non H', rt := Q } (start N_rules_with vs) H := by
  obtain ⟨hd, g, heads, rfl, hh, hz, q⟩ := h
  refine ⟨_, rfl, hd, _, rfl, hh, fun D hD => ?_⟩
  refine lc_pure (walk_enumT (xs := heads.map nv)) (by rw [List.length_map]; omega) (fun i => decide (nv (heads.getD i 0) = nv g)) (fun i => nv i) hD (fun H' e' => e'.sqt hh) (fun i x Ha Hb hi e2 y => ?_) (fun H2 e2 h2 => ?_)
  · obtain ⟨U, x1, x2, rfl, hU, rfl, hx1, hx2⟩ := y
    cases hx1
    replace hx2 : (heads.map nv)[i]? = some x2 := hx2
    rw [List.getElem?_map] at hx2
    obtain ⟨c, hc, rfl⟩ := Option.map_eq_some_iff.mp hx2
    have hd : heads.getD i 0 = c := by rw [List.getD_eq_getElem?_getD, hc]; rfl
    intro Q2 QF k1 k2
    have e3 := Same.new (o := .tup [.int (i : Nat), nv c]) hU
    refine ⟨U, _, rfl, .inl (.inl upd_same), rfl, _, _, rfl, _, _, rfl, rfl, rfl, _, rfl, _, rfl, rfl, _, rfl, ?_⟩
    by_cases z : nv c = nv g
    · rw [decide_eq_true z]
      exact ⟨_, rfl, k1 (by rw [hd]; exact decide_eq_true z) _ e3⟩
    · rw [decide_eq_false z]
      exact k2 (by rw [hd]; exact decide_eq_false z) _ e3
  · exact ⟨D, _, rfl, .inl ⟨.inl (.inl h2), fun p hp => q p _ (e2.trans (Same.new hp)) ⟨_, .inl (.inl upd_same)⟩⟩⟩
/-! ### rules as things -/
abbrev Rls := List (Str × List Str)
def PairAt (H : Hp) (q : Addr) (r : Str × List Str) : Prop := ∃ pr, H q = some (.tup [.str r.1, .ref pr]) ∧ H pr = some (.tup (r.2.map V.str))
def PairsAt (K : PySem.W.Frag) (H : Hp) (b : Bool) (a : Addr) (rs : Rls) : Prop := ∃ qs : List Addr, H a = some (seqO b (qs.map V.ref)) ∧ qs.length = rs.length ∧ ∀ (i : Nat) (q : Addr) (r : Str × List Str), qs[i]? = some q → rs[i]? = some r → PairAt H q r
theorem PairAt.same {H H' : Hp} {q : Addr} {r : Str × List Str} (h : PairAt H q r) (e : Same H H') : PairAt H' q r := by
  obtain ⟨pr, h1, h2⟩ := h
  exact ⟨pr, e _ _ h1, e _ _ h2⟩
theorem PairsAt.same {K : PySem.W.Frag} {H H' : Hp} {b : Bool} {a : Addr} {rs : Rls} (h : PairsAt K H b a rs) (e : Same H H') : PairsAt K H' b a rs := by
  obtain ⟨qs, h1, h2, h3⟩ := h
  exact ⟨qs, e _ _ h1, h2, fun i q r q1 q2 => (h3 i q r q1 q2).same e⟩
def addG (acc : List Str) (r : Str × List Str) : List Str := if r.1 ∈ acc then acc else acc ++ [r.1]
theorem addG_in {acc : List Str} {r : Str × List Str} (h : r.1 ∈ acc) : addG acc r = acc := if_pos h
theorem addG_out {acc : List Str} {r : Str × List Str} (h : r.1 ∉ acc) : addG acc r = acc ++ [r.1] := if_neg h
def groupsOf (rs : Rls) : List Str := rs.foldl addG []
theorem take_fold {α β : Type} (f : β → α → β) (b : β) (l : List α) (i : Nat) (x : α) (h : l[i]? = some x) : (l.take (i + 1)).foldl f b = f ((l.take i).foldl f b) x := by
  rw [List.take_succ, h, List.foldl_append]
  rfl
theorem groups_len (rs : Rls) : (groupsOf rs).length ≤ rs.length := by
  have : ∀ (rs : Rls) (acc : List Str), (rs.foldl addG acc).length ≤ acc.length + rs.length := by
    intro rs
    induction rs with
    | nil => intro acc; exact Nat.le_refl _
    | cons r rs ih =>
      intro acc
      have h := ih (addG acc r)
      have h2 : (addG acc r).length ≤ acc.length + 1 := by
        unfold addG
        split
        · omega
        · rw [List.length_append]
          exact Nat.le_refl _
      rw [List.foldl_cons, List.length_cons]
      omega
  have := this rs []
  simpa [groupsOf] using this
def sp_groups_in (K : PySem.W.Frag) : Sp := fun vs H Q _ => ∃ (a : Addr) (rs : Rls), vs = [.ref a] ∧ PairsAt K H false a rs ∧ rs.length ≤ 64 ∧ ∀ p H', Same H H' → H' p = some (.tup ((groupsOf rs).map V.str)) → Q (.ref p) H'
theorem len_groups_in {K : PySem.W.Frag} (vs : List V) (H : Hp) (Q : VK) (E : XK) (h : sp_groups_in K vs H Q E) : vs.length = 1 := by
  obtain ⟨a, rs, rfl, _⟩ := h
  rfl
abbrev N_groups_in : List Str := ["rules", "told", "name", "parts"]
def t_groups_in (K : PySem.W.Frag) (P : Program) (w : World) : TS :=
  (tSeq (tAsg (tLst tNil) (gName 1))
    (tSeq (tFor (iSeq K (tVar 0)) (gTup K 2 (gCons (gName 2) (gCons (gName 3) gNil))) (tIfS (tTest (tOp (rIn K true) (tVar 2) (tVar 1))) (tDrop (tBM K "list" rAppend (tVar 1) (tCons (tVar 2) tNil))) tNext))
    (tRet (tCB (rTupleOf K) (tCons (tVar 1) tNil)))))
theorem pure_groups_in {K : PySem.W.Frag} {P : Program} {w : World} (vs : List V) (H : Hp) (Q : VK) (E : XK) (h : sp_groups_in K vs H Q E) : t_groups_in K P w { nx := fun _ H' => Q .non H', rt := Q } (start N_groups_in vs) H := by
  obtain ⟨a, rs, rfl, ⟨qs, ha, hl, hp⟩, hz, q⟩ := h
  have hq0 : Sq K false H a (qs.map V.ref) := seqO_sq ha
  refine ⟨by decide, fun D hD => ⟨_, rfl, a, false, _, rfl, (Same.new hD).sq hq0, ?_⟩⟩
  refine for_it (walk_sq (xs := qs.map V.ref)) (fun i σ H1 => (∃ v2 v3, σ = [some (.ref a), some (.ref D), v2, v3]) ∧ Same H H1 ∧ H1 D = some (.lst (((rs.take i).foldl addG []).map V.str))) ⟨⟨none, none, rfl⟩, Same.new hD, upd_same⟩ (fun i σ H1 _ pv => pv.2.1.sq hq0) (fun i x σ H1 H2 hi pv y => ?_) (fun σ H1 pv => ?_)
  · obtain ⟨⟨v2, v3, rfl⟩, e1, d1⟩ := pv
    obtain ⟨rfl, hx⟩ := y
    rw [List.getElem?_map] at hx
    obtain ⟨qa, hqa, rfl⟩ := Option.map_eq_some_iff.mp hx
    have hi2 : i < rs.length := by rw [List.length_map] at hi; omega
    have hr : rs[i]? = some rs[i] := List.getElem?_eq_getElem hi2
    generalize rs[i] = r at hr
    obtain ⟨pr, g1, g2⟩ := hp i qa r hqa hr
    refine ⟨qa, _, rfl, .inl (.inl (e1 _ _ g1)), rfl, _, _, rfl, _, _, rfl, rfl, ?_⟩
    refine ⟨_, rfl, _, rfl, D, _, rfl, .inl (.inl (.inl d1)), rfl, flat_strs _, _, rfl, ?_⟩
    have tf := take_fold addG [] rs i r hr
    simp only [if_true, inV_str]
    by_cases z : r.1 ∈ (rs.take i).foldl addG []
    · rw [decide_eq_true z]
      refine ⟨⟨_, _, rfl⟩, e1, ?_⟩
      rw [tf, addG_in z]
      exact d1
    · rw [decide_eq_false z]
      have hlen : ((rs.take i).foldl addG []).length ≤ 64 := by
        have h := groups_len (rs.take i)
        unfold groupsOf at h
        rw [List.length_take] at h
        omega
      refine ⟨_, rfl, .inl ⟨rfl, _, .inl (.inl d1)⟩, _, rfl, D, _, _, rfl, rfl, d1, by rw [List.length_map, sizeLine_eq]; omega, ⟨_, _, rfl⟩, Same.mut e1 hD, ?_⟩
      rw [upd_same, tf, addG_out z, List.map_append]
      rfl
  · obtain ⟨⟨v2, v3, rfl⟩, e1, d1⟩ := pv
    rw [List.length_map, hl, List.take_length] at d1
    exact ⟨_, rfl, D, _, rfl, .inl ⟨.inl (.inl d1), fun p hp => q p _ (e1.trans (Same.new hp)) upd_same⟩⟩
/-! ### is_rule_pair -/
def sp_is_rule_pair (K : PySem.W.Frag) : Sp := fun vs H Q _ => ∃ (q : Addr) (r : Str × List Str), vs = [.ref q] ∧ PairAt H q r ∧ nameB r.1 = true ∧ (∀ n ∈ r.2, nameB n = true) ∧ r.2.length ≤ 64 ∧ ∀ H', Same H H' → Q (.bl true) H'
theorem len_is_rule_pair {K : PySem.W.Frag} (vs : List V) (H : Hp) (Q : VK) (E : XK) (h : sp_is_rule_pair K vs H Q E) : vs.length = 1 := by
  obtain ⟨q, r, rfl, _⟩ := h
  rfl
abbrev N_is_rule_pair : List Str := ["value", "name", "parts", "part"]
def t_is_rule_pair (K : PySem.W.Frag) (P : Program) (w : World) : TS :=
  (tSeq (tIfS (tOr (tNot (tB (tCB rIs1 (tCons (tVar 0) (tCons (tC (.ty "tuple")) tNil))))) (tTest (tOp rNe (tCB (rLenSeq K) (tCons (tVar 0) tNil)) (tC (.int 2))))) (tRet (tC (.bl false))) tNext)
    (tSeq (tAsg (tVar 0) (gTup K 2 (gCons (gName 1) (gCons (gName 2) gNil))))
    (tSeq (tIfS (tOr (tNot (tB (tCl (sp_is_name K) (tCons (tVar 1) tNil)))) (tNot (tB (tCB rIs1 (tCons (tVar 2) (tCons (tC (.ty "tuple")) tNil)))))) (tRet (tC (.bl false))) tNext)
    (tRet (tCB (rAll K) (tCons (tLc (iSeq K (tVar 2)) (gName 3) tYes (tCl (sp_is_name K) (tCons (tVar 3) tNil)) [3]) tNil))))))
theorem pure_is_rule_pair {K : PySem.W.Frag} {P : Program} {w : World} (vs : List V) (H : Hp) (Q : VK) (E : XK) (h : sp_is_rule_pair K vs H Q E) : t_is_rule_pair K P w { nx := fun _ H' => Q .non H', rt := Q } (start N_is_rule_pair vs) H := by
  obtain ⟨qa, r, rfl, ⟨pr, g1, g2⟩, hn, hps, hz, q⟩ := h
  have hqt : SqT K H qa [.str r.1, .ref pr] := .inl (.inl g1)
  refine ⟨_, rfl, _, "tuple", _, rfl, .tup g1, by decide, _, rfl, _, rfl, qa, _, rfl, .inr hqt, rfl, _, rfl, ?_⟩
  refine ⟨_, rfl, qa, _, rfl, hqt, rfl, _, _, rfl, _, _, rfl, rfl, ?_⟩
  have sh := nameB_short hn
  refine ⟨_, rfl, _, _, rfl, .str r.1, by show r.1.length ≤ 1000; omega, fun H1 e1 => ⟨_, rfl, ?_⟩⟩
  have e0 : nameV (.str r.1) = true := hn
  rw [e0]
  have g21 := e1 _ _ g2
  refine ⟨_, rfl, _, "tuple", _, rfl, .tup g21, by decide, _, rfl, ?_⟩
  have hq1 : Sq K false H1 pr (r.2.map V.str) := .inl (.inl g21)
  refine ⟨_, rfl, pr, false, _, rfl, hq1, fun D hD => ?_⟩
  refine lc_pure (walk_sq (xs := r.2.map V.str)) (by rw [List.length_map]; omega) (fun _ => true) (fun _ => .bl true) hD (fun H' e' => e'.sq hq1) (fun i x Ha Hb hi e2 y => ?_) (fun H2 e2 h2 => ?_)
  · obtain ⟨rfl, hx⟩ := y
    rw [List.getElem?_map] at hx
    obtain ⟨n, hn2, rfl⟩ := Option.map_eq_some_iff.mp hx
    have hnn := hps n (List.mem_of_getElem? hn2)
    have hsh := nameB_short hnn
    intro Q2 QF k1 k2
    exact ⟨rfl, yes_go ⟨_, rfl, _, _, rfl, .str n, by show n.length ≤ 1000; omega, fun H3 e3 => q_to (k1 rfl H3 e3) (congrArg V.bl hnn.symm)⟩⟩
  · rw [kept_all] at h2
    have e3 : (List.range (r.2.map V.str).length).map (fun _ => V.bl true) = ((List.range (r.2.map V.str).length).map fun _ => true).map V.bl := by
      rw [List.map_map]
      rfl
    rw [e3] at h2
    refine ⟨D, _, rfl, .inl (.inl h2), ?_⟩
    rw [all_map_id]
    refine q_to (q H2 (e1.trans e2)) (congrArg V.bl ?_)
    simp
end M

/-! text: P20 -/
set_option Elab.async false
set_option linter.all false
set_option maxRecDepth 100000
set_option maxHeartbeats 4000000
namespace M
open PySem PySem.Spec PyProof.Rows L2
def sp_are_rules (K : PySem.W.Frag) : Sp := fun vs H Q _ => ∃ (ta va : Addr) (bt bv : Bool) (toks : List Str) (rs : Rls), vs = [.ref ta, .ref va] ∧ H ta = some (seqO bt (toks.map V.str)) ∧ PairsAt K H bv va rs ∧ rs.length = 1 ∧ toks.length ≤ 1000 ∧
  (∀ r ∈ rs, nameB r.1 = true ∧ (∀ n ∈ r.2, nameB n = true) ∧ r.2.length ≤ 64 ∧ r.1 ∉ toks ∧ ∀ p ∈ r.2, p ∈ toks ∨ p ∈ rs.map (·.1)) ∧ ∀ H', Same H H' → Q (.bl true) H'
theorem len_are_rules {K : PySem.W.Frag} (vs : List V) (H : Hp) (Q : VK) (E : XK) (h : sp_are_rules K vs H Q E) : vs.length = 2 := by
  obtain ⟨ta, va, bt, bv, toks, rs, rfl, _⟩ := h
  rfl
abbrev N_are_rules : List Str := ["tokens", "value", "known", "name", "parts", "pair", "part"]
def t_are_rules (K : PySem.W.Frag) (P : Program) (w : World) : TS :=
  (tSeq (tIfS (tOr (tNot (tB (tCl (sp_is_sequence K) (tCons (tVar 1) tNil)))) (tTest (tOp rEq (tCB (rLenSeq K) (tCons (tVar 1) tNil)) (tC (.int 0))))) (tRet (tC (.bl false))) tNext)
    (tSeq (tIfS (tNot (tB (tCB (rAll K) (tCons (tLc (iSeq K (tVar 1)) (gName 5) tYes (tCl (sp_is_rule_pair K) (tCons (tVar 5) tNil)) [5]) tNil)))) (tRet (tC (.bl false))) tNext)
    (tSeq (tAsg (tDc (iSeq K (tVar 0)) (gName 3) tYes (tVar 3) (tC (.bl true)) [3]) (gName 2))
    (tSeq (tFor (iSeq K (tVar 1)) (gTup K 2 (gCons (gName 3) (gCons (gName 4) gNil))) (tSeq (tIfS (tTest (tOp (rIn K false) (tVar 3) (tVar 0))) (tRet (tC (.bl false))) tNext)
    (sDPut (tVar 2) (tVar 3) (tC (.bl true)))))
    (tSeq (tIfS (tNot (tB (tCB (rAll K) (tCons (tLc2 (iSeq K (tVar 1)) (gTup K 2 (gCons (gName 3) (gCons (gName 4) gNil))) tYes (iSeq K (tVar 4)) (gName 6) tYes (tDIn (tVar 6) (tVar 2)) [3, 4, 6] [6]) tNil)))) (tRet (tC (.bl false))) tNext)
    (tRet (tOp rEq (tCB (rLenSetN w) (tCons (tSc K w (iSeq K (tVar 1)) (gTup K 2 (gCons (gName 3) (gCons (gName 4) gNil))) tYes (tTup (tCons (tVar 3) (tCons (tVar 4) tNil))) [3, 4]) tNil)) (tCB (rLenSeq K) (tCons (tVar 1) tNil)))))))))
theorem all_trues (n : Nat) : ((List.range n).map fun _ => true).all id = true := by simp
theorem map_trues (n : Nat) : (List.range n).map (fun _ => V.bl true) = ((List.range n).map fun _ => true).map V.bl := by
  rw [List.map_map]
  rfl
theorem pure_are_rules {K : PySem.W.Frag} {P : Program} {w : World} (vs : List V) (H : Hp) (Q : VK) (E : XK) (h : sp_are_rules K vs H Q E) : t_are_rules K P w { nx := fun _ H' => Q .non H', rt := Q } (start N_are_rules vs) H := by
  obtain ⟨ta, va, bt, bv, toks, rs, rfl, ht, ⟨qs, hv, hql, hqp⟩, h1, htl, ok, q⟩ := h
  obtain ⟨t, htn, hst⟩ := seqO_tn hv
  refine ⟨_, rfl, _, t, rfl, htn, fun H1 e1 => ⟨_, rfl, ?_⟩⟩
  rw [hst]
  have hq1 : Sq K bv H1 va (qs.map V.ref) := e1.sq (seqO_sq hv)
  have hqs : Sq K bv H va (qs.map V.ref) := seqO_sq hv
  have htq : Sq K bt H ta (toks.map V.str) := seqO_sq ht
  have hl1 : (qs.map V.ref).length = 1 := by rw [List.length_map]; omega
  refine ⟨_, rfl, va, _, rfl, sq_or hq1, rfl, _, rfl, ?_⟩
  rw [hl1]
  have e0 : decide (V.int ((1 : Nat) : Int) = V.int 0) = false := by decide
  rw [e0]
  -- each is a pair
  refine ⟨_, rfl, va, bv, _, rfl, hq1, fun D hD => lc_pure (walk_sq (xs := qs.map V.ref)) (by omega) (fun _ => true) (fun _ => .bl true) hD (fun H' e' => e'.sq hq1) (fun i x Ha Hb hi e2 y => ?_) (fun H2 e2 h2 => ?_)⟩
  · obtain ⟨rfl, hx⟩ := y
    rw [List.getElem?_map] at hx
    obtain ⟨qa, hqa, rfl⟩ := Option.map_eq_some_iff.mp hx
    have hr : rs[i]? = some (rs[i]'(by omega)) := List.getElem?_eq_getElem _
    generalize rs[i]'(by omega) = r at hr
    obtain ⟨o1, o2, o3, _⟩ := ok r (List.mem_of_getElem? hr)
    intro Q2 QF k1 k2
    exact ⟨rfl, yes_go ⟨_, rfl, qa, r, rfl, (hqp i qa r hqa hr).same (e1.trans e2), o1, o2, o3, fun H3 e3 => k1 rfl H3 e3⟩⟩
  rw [kept_all, map_trues] at h2
  refine ⟨D, _, rfl, .inl (.inl h2), true, ?_, ?_⟩
  · refine congrArg V.bl ?_
    rw [all_map_id]
    simp
  have e12 := e1.trans e2
  -- the known names
  refine ⟨_, rfl, ta, bt, _, rfl, e12.sq htq, fun Dk hDk => ?_⟩
  have hDk0 : H Dk = none := e12.fresh hDk
  refine comp_it (walk_sq (xs := toks.map V.str)) (fun i H3 => Same H2 H3 ∧ ∃ kvs : List (Key × V), H3 Dk = some (.dK kvs) ∧ kvs.length ≤ i ∧ ∀ n ∈ toks.take i, (valV kvs (Sum.inr n)).isSome = true) ⟨Same.new hDk, [], upd_same, Nat.le_refl _, fun n hn => nomatch hn⟩ (fun i H3 _ pv => (e12.trans pv.1).sq htq) (fun i x Ha Hb hi pv y => ?_) (fun H3 pv => ?_)
  · obtain ⟨e3, kvs, hk, hkl, hkn⟩ := pv
    obtain ⟨rfl, hx⟩ := y
    rw [List.getElem?_map] at hx
    obtain ⟨n, hn, rfl⟩ := Option.map_eq_some_iff.mp hx
    have hi2 : i < toks.length := by rw [List.length_map] at hi; exact hi
    refine ⟨rfl, yes_goH ⟨_, rfl, kvs, Sum.inr n, rfl, hk, by rw [sizeLine_eq]; omega, Same.mut e3 hDk, _, upd_same, by have := length_putK kvs (Sum.inr n : Key) (.bl true); omega, fun n' hn' => ?_⟩⟩
    rw [valV_put]
    split
    · rfl
    · rename_i z
      rw [List.take_succ, hn] at hn'
      rcases List.mem_append.mp hn' with y | y
      · exact hkn n' y
      · exact absurd (congrArg Sum.inr (by simpa using y)) z
  obtain ⟨e3, kvs, hk, hkl, hkn⟩ := pv
  rw [List.length_map] at hkl
  rw [List.length_map, List.take_length] at hkn
  have e13 := e12.trans e3
  -- the heads
  refine ⟨_, rfl, va, bv, _, rfl, e13.sq hqs, ?_⟩
  refine for_it (walk_sq (xs := qs.map V.ref)) (fun i σ H4 => (∃ v3 v4, σ = [some (.ref ta), some (.ref va), some (.ref Dk), v3, v4, none, none]) ∧ Same H H4 ∧ ∃ kvs : List (Key × V), H4 Dk = some (.dK kvs) ∧ kvs.length ≤ toks.length + i ∧ ∀ n, (n ∈ toks ∨ n ∈ (rs.take i).map (·.1)) → (valV kvs (Sum.inr n)).isSome = true)
    ⟨⟨none, none, rfl⟩, e13, kvs, hk, hkl, fun n hn => hn.elim (hkn n) fun z => nomatch z⟩ (fun i σ H4 _ pv => pv.2.1.sq hqs) (fun i x σ H4 H5 hi pv y => ?_) (fun σ H4 pv => ?_)
  · obtain ⟨⟨v3, v4, rfl⟩, e4, kvs, hk, hkl, hkn⟩ := pv
    obtain ⟨rfl, hx⟩ := y
    rw [List.getElem?_map] at hx
    obtain ⟨qa, hqa, rfl⟩ := Option.map_eq_some_iff.mp hx
    have hr : rs[i]? = some (rs[i]'(by omega)) := List.getElem?_eq_getElem _
    generalize rs[i]'(by omega) = r at hr
    obtain ⟨pr, g1, g2⟩ := (hqp i qa r hqa hr).same e4
    obtain ⟨_, _, _, o4, _⟩ := ok r (List.mem_of_getElem? hr)
    refine ⟨qa, _, rfl, .inl (.inl g1), rfl, _, _, rfl, _, _, rfl, rfl, ?_⟩
    refine ⟨_, rfl, _, rfl, ta, _, rfl, sq_or (e4.sq htq), rfl, flat_strs _, _, rfl, ?_⟩
    simp only [Bool.false_eq_true, if_false, inV_str]
    rw [decide_eq_false o4]
    refine ⟨_, rfl, _, rfl, Dk, _, rfl, DPut.k (k := Sum.inr r.1) hk (by rw [sizeLine_eq]; omega), ⟨_, _, rfl⟩, Same.mut e4 hDk0, _, upd_same, by have := length_putK kvs (Sum.inr r.1 : Key) (.bl true); omega, fun n hn => ?_⟩
    rw [valV_put]
    split
    · rfl
    · rename_i z
      refine hkn n (hn.imp id fun y => ?_)
      rw [List.take_succ, hr, List.map_append] at y
      rcases List.mem_append.mp y with y | y
      · exact y
      · exact absurd (congrArg Sum.inr (by simpa using y)) z
  obtain ⟨⟨v3, v4, rfl⟩, e4, kvs, hk, hkl, hkn⟩ := pv
  rw [List.length_map, hql, List.take_length] at hkn
  -- each part is known
  refine ⟨_, rfl, va, bv, _, rfl, e4.sq hqs, fun D5 hD5 => ?_⟩
  have hk' : ∀ {H' : Hp}, Same H4 H' → H' Dk = some (.dK kvs) := fun e => e _ _ hk
  refine comp_it (walk_sq (xs := qs.map V.ref)) (fun i H6 => Same H4 H6 ∧ ∃ n, H6 D5 = some (.lst ((List.range n).map fun _ => V.bl true)) ∧ n ≤ 64 * i) ⟨Same.new hD5, 0, upd_same, Nat.zero_le _⟩ (fun i H6 _ pv => (e4.trans pv.1).sq hqs) (fun i x Ha Hb hi pv y => ?_) (fun H6 pv => ?_)
  · obtain ⟨e5, n, hn, hnl⟩ := pv
    obtain ⟨rfl, hx⟩ := y
    rw [List.getElem?_map] at hx
    obtain ⟨qa, hqa, rfl⟩ := Option.map_eq_some_iff.mp hx
    have hr : rs[i]? = some (rs[i]'(by omega)) := List.getElem?_eq_getElem _
    generalize rs[i]'(by omega) = r at hr
    obtain ⟨pr, g1, g2⟩ := (hqp i qa r hqa hr).same e4
    obtain ⟨_, _, o3, _, o5⟩ := ok r (List.mem_of_getElem? hr)
    have hps : Sq K false H4 pr (r.2.map V.str) := .inl (.inl g2)
    refine ⟨qa, _, rfl, .inl (.inl (e5 _ _ g1)), rfl, _, _, rfl, _, _, rfl, rfl, rfl, yes_goH ⟨_, rfl, pr, false, _, rfl, e5.sq hps, ?_⟩⟩
    refine comp_it (walk_sq (xs := r.2.map V.str)) (fun j H6 => Same H4 H6 ∧ H6 D5 = some (.lst ((List.range (n + j)).map fun _ => V.bl true))) ⟨e5, hn⟩ (fun j H6 _ pv => pv.1.sq hps) (fun j x Ha2 Hb2 hj pv y => ?_) (fun H6 pv => ?_)
    · obtain ⟨e6, d6⟩ := pv
      obtain ⟨rfl, hx⟩ := y
      rw [List.getElem?_map] at hx
      obtain ⟨pt, hpt, rfl⟩ := Option.map_eq_some_iff.mp hx
      have kn := hkn pt (o5 pt (List.mem_of_getElem? hpt))
      refine ⟨rfl, yes_goH ⟨_, rfl, _, rfl, Dk, _, rfl, DGet.k (k := Sum.inr pt) (hk' e6), _, d6, ?_, Same.mut e6 hD5, ?_⟩⟩
      · rw [List.length_map, List.length_range, sizeLine_eq]
        rw [List.length_map] at hj
        omega
      · rw [upd_same, kn, ← Nat.add_assoc, List.range_succ, List.map_append]
        rfl
    · obtain ⟨e6, d6⟩ := pv
      rw [List.length_map] at d6
      exact ⟨e6, _, d6, by omega⟩
  obtain ⟨e6, n, hn, hnl⟩ := pv
  rw [map_trues] at hn
  refine ⟨D5, _, rfl, .inl (.inl hn), true, ?_, ?_⟩
  · refine congrArg V.bl ?_
    rw [all_map_id]
    simp
  have e06 := e4.trans e6
  -- the set
  refine ⟨_, rfl, va, bv, _, rfl, e06.sq hqs, fun Ds hDs => ?_⟩
  refine comp_it (walk_sq (xs := qs.map V.ref)) (fun i H7 => Same H6 H7 ∧ H7 Ds = some (SzO w Ds i)) ⟨Same.new hDs, upd_same⟩ (fun i H7 _ pv => (e06.trans pv.1).sq hqs) (fun i x Ha Hb hi pv y => ?_) (fun H7 pv => ?_)
  · obtain ⟨e7, d7⟩ := pv
    obtain ⟨rfl, hx⟩ := y
    rw [List.getElem?_map] at hx
    obtain ⟨qa, hqa, rfl⟩ := Option.map_eq_some_iff.mp hx
    have hr : rs[i]? = some (rs[i]'(by omega)) := List.getElem?_eq_getElem _
    generalize rs[i]'(by omega) = r at hr
    obtain ⟨pr, g1, g2⟩ := (hqp i qa r hqa hr).same (e06.trans e7)
    have hi0 : i = 0 := by omega
    subst hi0
    refine ⟨qa, _, rfl, .inl (.inl g1), rfl, _, _, rfl, _, _, rfl, rfl, rfl, yes_goH ⟨_, rfl, _, rfl, (show 2 ≤ sizeLine by decide), fun U hU => ?_⟩⟩
    have e8 := Same.new (o := .tup [.str r.1, .ref pr]) hU
    exact ⟨U, r.1, pr, r.2, rfl, upd_same, .inl (.inl (e8 _ _ g2)), e8 _ _ d7, Same.mut (e7.trans e8) hDs, upd_same⟩
  · obtain ⟨e7, d7⟩ := pv
    rw [hl1] at d7
    refine ⟨Ds, 1, rfl, d7, by omega, _, rfl, va, _, rfl, sq_or ((e06.trans e7).sq hqs), rfl, ?_⟩
    rw [hl1]
    exact q_to (q H7 (e06.trans e7)) (congrArg V.bl (by decide))
end M

/-! text: P21 -/
set_option Elab.async false
set_option linter.all false
set_option maxRecDepth 100000
set_option maxHeartbeats 4000000
namespace M
open PySem PySem.Spec PyProof.Rows L2
theorem walk_zipT {K : PySem.W.Frag} {a b : Addr} {xs ys : List V} : Walk (RZ.ItzT K a b) (min xs.length ys.length) (fun H => SqT K H a xs ∧ SqT K H b ys) (YPair (fun i => xs[i]?) (fun i => ys[i]?)) where
  goes := fun i H hi q => by
    have h1 : i < xs.length := Nat.lt_of_lt_of_le hi (Nat.min_le_left _ _)
    have h2 : i < ys.length := Nat.lt_of_lt_of_le hi (Nat.min_le_right _ _)
    exact ⟨xs, ys, xs[i], ys[i], q.1, q.2, List.getElem?_eq_getElem h1, List.getElem?_eq_getElem h2⟩
  stops := fun H q => ⟨xs, ys, q.1, q.2, by omega⟩
  yields := fun i H v H' hi q y => by
    obtain ⟨U, x, z, h1, h2, h3, h4, h5⟩ := y
    exact ⟨U, x, z, h1, h2, h3, h4 xs q.1, h5 ys q.2⟩
/-! ### empty_groups, where no rule is empty -/
theorem all_falses (n : Nat) (h : 0 < n) : ((List.range n).map fun _ => false).all id = false := by
  cases n with
  | zero => omega
  | succ n =>
    rw [List.range_succ_eq_map]
    rfl
def sp_empty_groups (K : PySem.W.Frag) : Sp := fun vs H Q _ => ∃ (cnt grp : Nat) (hd pt : Addr) (heads : List Nat) (parts : List (List Nat)), vs = [nv cnt, nv grp, .ref hd, .ref pt] ∧ SqT K H hd (heads.map nv) ∧ RowsAt K H pt parts ∧ grp ≤ 64 ∧ (∀ h ∈ heads, h < grp) ∧
  (∀ ps ∈ parts, ps ≠ [] ∧ ps.length < 64 ∧ ∀ c ∈ ps, c < cnt + grp) ∧ ∀ (D : Addr) H', Same H H' → H' D = some (.lst ((List.replicate grp false).map V.bl)) → Q (.ref D) H'
theorem len_empty_groups {K : PySem.W.Frag} (vs : List V) (H : Hp) (Q : VK) (E : XK) (h : sp_empty_groups K vs H Q E) : vs.length = 4 := by
  obtain ⟨cnt, grp, hd, pt, heads, parts, rfl, _⟩ := h
  rfl
abbrev N_empty_groups : List Str := ["count", "groups", "heads", "parts", "found", "again", "head", "codes", "code"]
def t_empty_groups (K : PySem.W.Frag) (P : Program) (w : World) : TS :=
  (tSeq (tAsg (tOp rRep (tLst (tCons (tC (.bl false)) tNil)) (tVar 1)) (gName 4))
    (tSeq (tAsg (tC (.bl true)) (gName 5))
    (tSeq (tWhile (tB (tVar 5)) (tSeq (tAsg (tC (.bl false)) (gName 5))
    (tFor (RZ.iZipA K (tCons (tVar 2) (tCons (tVar 3) tNil))) (gTup K 2 (gCons (gName 6) (gCons (gName 7) gNil))) (tIfS (tAnd (tNot (tB (tOp (rIxL K) (tVar 4) (tVar 6)))) (tB (tCB (rAll K) (tCons (tLc (iSeq K (tVar 7)) (gName 8) tYes (tAndV (tOp rGeI (tVar 8) (tVar 0)) (tOp (rIxL K) (tVar 4) (tOp rSubI (tVar 8) (tVar 0)))) [8]) tNil)))) (tSeq (tAsg (tC (.bl true)) (gSub (tVar 4) (tVar 6) rSetL))
    (tAsg (tC (.bl true)) (gName 5))) tNext))))
    (tRet (tVar 4)))))
theorem rep_getD (n i : Nat) : (List.replicate n false).getD i false = false := by
  rw [List.getD_eq_getElem?_getD, List.getElem?_replicate]
  split <;> rfl
theorem pure_empty_groups {K : PySem.W.Frag} {P : Program} {w : World} (vs : List V) (H : Hp) (Q : VK) (E : XK) (h : sp_empty_groups K vs H Q E) : t_empty_groups K P w { nx := fun _ H' => Q .non H', rt := Q } (start N_empty_groups vs) H := by
  obtain ⟨cnt, grp, hd, pt, heads, parts, rfl, hh, ⟨as, ha, hal, hrow⟩, g64, hlt, hps, q⟩ := h
  refine ⟨by decide, fun L hL => ⟨_, rfl, L, _, _, rfl, rfl, upd_same, by omega, by omega, by rw [sizeLine_eq]; show 1 * _ ≤ _; omega, fun D hD => ?_⟩⟩
  have e1 : Same H (upd H L (.lst [.bl false])) := Same.new hL
  have hD0 : H D = none := e1.fresh hD
  have e2 : Same H (upd (upd H L (.lst [.bl false])) D (.lst (List.replicate (grp : Int).toNat [V.bl false]).flatten)) := Same.mut e1 hD0
  have d2 : (upd (upd H L (.lst [.bl false])) D (.lst (List.replicate (grp : Int).toNat [V.bl false]).flatten)) D = some (.lst ((List.replicate grp false).map V.bl)) := by
    rw [upd_same, rep_false]
    rfl
  show tSeq _ _ _ _ (upd (upd H L (.lst [.bl false])) D (.lst (List.replicate (grp : Int).toNat [V.bl false]).flatten))
  generalize upd (upd H L (.lst [.bl false])) D (.lst (List.replicate (grp : Int).toNat [V.bl false]).flatten) = H2 at e2 d2
  refine ⟨fun mm σ H1 => ∃ (v6 v7 : Option V) (f : Bool), σ = [some (nv cnt), some (nv grp), some (.ref hd), some (.ref pt), some (.ref D), some (.bl f), v6, v7, none] ∧ Same H H1 ∧ H1 D = some (.lst ((List.replicate grp false).map V.bl)) ∧ (f = true → mm = 1), ⟨1, none, none, true, rfl, e2, d2, fun _ => rfl⟩, fun mm σ H1 wv => ?_⟩
  obtain ⟨v6, v7, f, rfl, e3, d3, wv⟩ := wv
  refine ⟨_, rfl, f, rfl, ?_⟩
  cases f with
  | false =>
    rw [if_neg (by decide)]
    exact ⟨_, rfl, q D H1 e3 d3⟩
  | true =>
    obtain rfl := wv rfl
    rw [if_pos rfl]
    refine ⟨fun σ' H' => ∃ m', m' < 1 ∧ ∃ (v6 v7 : Option V) (f : Bool), σ' = [some (nv cnt), some (nv grp), some (.ref hd), some (.ref pt), some (.ref D), some (.bl f), v6, v7, none] ∧ Same H H' ∧ H' D = some (.lst ((List.replicate grp false).map V.bl)) ∧ (f = true → m' = 1), fun _ _ h => h, ?_⟩
    refine ⟨_, rfl, _, rfl, hd, pt, _, _, rfl, .inr ⟨e3.sqt hh, e3.sqt ha, ?_⟩⟩
    refine for_it (walk_zipT (xs := heads.map nv) (ys := as.map V.ref)) (fun i σ H4 => ∃ (v6 v7 : Option V), σ = [some (nv cnt), some (nv grp), some (.ref hd), some (.ref pt), some (.ref D), some (.bl false), v6, v7, none] ∧ Same H H4 ∧ H4 D = some (.lst ((List.replicate grp false).map V.bl)))
      ⟨v6, v7, rfl, e3, d3⟩ (fun i σ H4 _ pv => ?_) (fun i x σ H4 H5 hi pv y => ?_) (fun σ H4 pv => ?_)
    · obtain ⟨_, _, _, e4, _⟩ := pv
      exact ⟨e4.sqt hh, e4.sqt ha⟩
    · obtain ⟨v6', v7', rfl, e4, d4⟩ := pv
      obtain ⟨U, x1, x2, rfl, hU, rfl, hx1, hx2⟩ := y
      replace hx1 : (heads.map nv)[i]? = some x1 := hx1
      replace hx2 : (as.map V.ref)[i]? = some x2 := hx2
      rw [List.getElem?_map] at hx1 hx2
      obtain ⟨h1, hh1, rfl⟩ := Option.map_eq_some_iff.mp hx1
      obtain ⟨b, hb, rfl⟩ := Option.map_eq_some_iff.mp hx2
      have hi2 : i < parts.length := by rw [← hal]; exact (List.getElem?_eq_some_iff.mp hb).1
      have hp : parts[i]? = some parts[i] := List.getElem?_eq_getElem hi2
      generalize parts[i] = ps at hp
      obtain ⟨pne, pl, pc⟩ := hps ps (List.mem_of_getElem? hp)
      have h1l := hlt h1 (List.mem_of_getElem? hh1)
      have e5 : Same H4 (upd H4 U (.tup [nv h1, .ref b])) := Same.new hU
      refine ⟨U, _, rfl, .inl (.inl upd_same), rfl, _, _, rfl, _, _, rfl, rfl, ?_⟩
      generalize upd H4 U (.tup [nv h1, .ref b]) = H5 at e5
      have d5 := e5 _ _ d4
      have hbr : Sq K false H b (ps.map nv) := hrow i b ps hb hp
      have e05 := e4.trans e5
      have bat := bool_at (bs := List.replicate grp false) (i := h1) (by rw [List.length_replicate]; exact h1l)
      rw [rep_getD] at bat
      refine ⟨_, rfl, _, rfl, D, _, _, _, rfl, rfl, .inl (.inl d5), bat, _, rfl, ?_⟩
      refine ⟨_, rfl, b, false, _, rfl, e05.sq hbr, fun W hW => ?_⟩
      refine lc_pure (walk_sq (xs := ps.map nv)) (by rw [List.length_map]; omega) (fun _ => true) (fun _ => .bl false) hW (fun H' e' => (e05.trans e').sq hbr) (fun j x Ha Hb hj e6 y => ?_) (fun H6 e6 h6 => ?_)
      · obtain ⟨rfl, hx⟩ := y
        rw [List.getElem?_map] at hx
        obtain ⟨c, hc, rfl⟩ := Option.map_eq_some_iff.mp hx
        have hcl := pc c (List.mem_of_getElem? hc)
        intro Q2 QF k1 k2
        refine ⟨rfl, yes_go ⟨_, rfl, _, rfl, _, _, rfl, rfl, _, rfl, ?_⟩⟩
        by_cases z : cnt ≤ c
        · rw [decide_eq_true (show (cnt : Int) ≤ c by omega)]
          have bat2 := bool_at (bs := List.replicate grp false) (i := c - cnt) (by rw [List.length_replicate]; omega)
          rw [rep_getD, show ((c - cnt : Nat) : Int) = (c : Int) - cnt by omega] at bat2
          exact ⟨_, rfl, _, rfl, _, rfl, _, _, rfl, rfl, D, _, _, _, rfl, rfl, .inl (.inl (e6 _ _ d5)), bat2, k1 rfl Hb (Same.refl _)⟩
        · rw [decide_eq_false (show ¬ (cnt : Int) ≤ c by omega)]
          exact k1 rfl Hb (Same.refl _)
      · rw [kept_all] at h6
        have e3' : (List.range (ps.map nv).length).map (fun _ => V.bl false) = ((List.range (ps.map nv).length).map fun _ => false).map V.bl := by
          rw [List.map_map]
          rfl
        rw [e3'] at h6
        refine ⟨W, _, rfl, .inl (.inl h6), false, ?_, ⟨_, _, rfl, e05.trans e6, e6 _ _ d5⟩⟩
        refine congrArg V.bl ?_
        exact all_falses _ (by rw [List.length_map]; exact List.length_pos_iff.mpr pne)
    · obtain ⟨v6', v7', rfl, e4, d4⟩ := pv
      exact ⟨0, by omega, _, _, false, rfl, e4, d4, fun z => nomatch z⟩
end M

/-! text: P22 -/
set_option Elab.async false
set_option linter.all false
set_option maxRecDepth 100000
set_option maxHeartbeats 4000000
namespace M
open PySem PySem.Spec PyProof.Rows L2
theorem walk_revT {K : PySem.W.Frag} {a : Addr} {xs : List V} : Walk (RT.ItvT K a xs.length) xs.length (fun H => SqT K H a xs) (fun i H x H' => H' = H ∧ xs[xs.length - 1 - i]? = some x) where
  goes := fun i H hi q => ⟨hi, xs, xs[xs.length - 1 - i]'(by omega), q, List.getElem?_eq_getElem _⟩
  stops := fun H q => Nat.le_refl _
  yields := fun i H v H' hi q y => ⟨y.1, y.2 xs q⟩
/-- the beginnings as far as they are made; no group is empty -/
def BegO (K : PySem.W.Frag) (H : Hp) (kn : Addr) (cnt grp : Nat) : Prop := ∃ (dx em : Addr) (fs : List (Str × V)), H kn = some (.ins (He.ga K "Beginnings") dx fs) ∧ fs.lookup ("count" : Str) = some (nv cnt) ∧ fs.lookup ("empty" : Str) = some (.ref em) ∧ SqT K H em ((List.replicate grp false).map V.bl)
theorem BegO.same {K : PySem.W.Frag} {H H' : Hp} {kn : Addr} {cnt grp : Nat} (h : BegO K H kn cnt grp) (e : Same H H') : BegO K H' kn cnt grp := by
  obtain ⟨dx, em, fs, h1, h2, h3, h4⟩ := h
  exact ⟨dx, em, fs, e _ _ h1, h2, h3, e.sqt h4⟩
def TabB (H : Hp) (D : Addr) (las : List Addr) (cnt : Nat) : Prop := H D = some (.lst (las.map V.ref)) ∧ ∀ la ∈ las, ∃ c : List Bool, H la = some (.lst (c.map V.bl)) ∧ c.length = cnt
theorem TabB.same {H H' : Hp} {D : Addr} {las : List Addr} {cnt : Nat} (h : TabB H D las cnt) (e : Same H H') : TabB H' D las cnt := ⟨e _ _ h.1, fun la hla => by
  obtain ⟨c, h1, h2⟩ := h.2 la hla
  exact ⟨c, e _ _ h1, h2⟩⟩
theorem TabB.at {H : Hp} {D : Addr} {las : List Addr} {cnt i : Nat} (h : TabB H D las cnt) (hi : i < las.length) : ∃ (la : Addr) (c : List Bool), atI (las.map V.ref) (i : Int) = some (.ref la) ∧ las[i]? = some la ∧ H la = some (.lst (c.map V.bl)) ∧ c.length = cnt := by
  have hg : las[i]? = some las[i] := List.getElem?_eq_getElem hi
  obtain ⟨c, h1, h2⟩ := h.2 _ (List.getElem_mem hi)
  exact ⟨_, c, atI_nat (by rw [List.getElem?_map, hg]; rfl), hg, h1, h2⟩
def sp_first_of (K : PySem.W.Frag) : Sp := fun vs H Q _ => ∃ (kn D ca : Addr) (cnt : Nat) (las : List Addr) (codes : List Nat), vs = [.ref kn, .ref D, .ref ca] ∧ BegO K H kn cnt las.length ∧ TabB H D las cnt ∧ SqT K H ca (codes.map nv) ∧ (∀ c ∈ codes, c < cnt + las.length) ∧ cnt ≤ 1000 ∧
  ∀ p (ms : List Nat) H', Same H H' → H p = none → H' p = some (.lst (ms.map nv)) → (∀ m ∈ ms, m < cnt) → Q (.ref p) H'
theorem len_first_of {K : PySem.W.Frag} (vs : List V) (H : Hp) (Q : VK) (E : XK) (h : sp_first_of K vs H Q E) : vs.length = 3 := by
  obtain ⟨kn, D, ca, cnt, las, codes, rfl, _⟩ := h
  rfl
abbrev N_first_of : List Str := ["known", "table", "codes", "told", "code", "group"]
def t_first_of (K : PySem.W.Frag) (P : Program) (w : World) : TS :=
  (tSeq (tAsg (tLst tNil) (gName 3))
    (tSeq (tFor (iSeq K (tVar 2)) (gName 4) (tSeq (tIfS (tTest (tOp rLtI (tVar 4) (tF (He.ga K "Beginnings") (tVar 0) "count"))) (tSeq (tDrop (tBM K "list" rAppend (tVar 3) (tCons (tVar 4) tNil)))
    (tRet (tVar 3))) tNext)
    (tSeq (tAsg (tOp rSubI (tVar 4) (tF (He.ga K "Beginnings") (tVar 0) "count")) (gName 5))
    (tSeq (tDrop (tBM K "list" rExtA (tVar 3) (tCons (tCl (sp_marked_ones K) (tCons (tOp (rIxL K) (tVar 1) (tVar 5)) tNil)) tNil)))
    (tIfS (tNot (tB (tOp (rIxT K) (tF (He.ga K "Beginnings") (tVar 0) "empty") (tVar 5)))) (tRet (tVar 3)) tNext)))))
    (tRet (tVar 3))))
theorem pure_first_of {K : PySem.W.Frag} {P : Program} {w : World} (vs : List V) (H : Hp) (Q : VK) (E : XK) (h : sp_first_of K vs H Q E) : t_first_of K P w { nx := fun _ H' => Q .non H', rt := Q } (start N_first_of vs) H := by
  obtain ⟨kn, D, ca, cnt, las, codes, rfl, hk, ht, hc, hcl, hz, q⟩ := h
  have hq : Sq K false H ca (codes.map nv) := hc
  obtain ⟨dx, em, fs, k1, k2, k3, k4'⟩ := hk
  refine ⟨by decide, fun W hW => ⟨_, rfl, ca, false, _, rfl, (Same.new hW).sq hq, ?_⟩⟩
  refine for_it (walk_sq (xs := codes.map nv)) (fun i σ H1 => i = 0 ∧ (∃ v4 v5, σ = [some (.ref kn), some (.ref D), some (.ref ca), some (.ref W), v4, v5]) ∧ Same H H1 ∧ H1 W = some (.lst (([] : List Nat).map nv)) ∨ (i ≠ 0 ∧ Same H H1 ∧ False)) (.inl ⟨rfl, ⟨none, none, rfl⟩, Same.new hW, upd_same⟩) (fun i σ H1 _ pv => ?_) (fun i x σ H1 H2 hi pv y => ?_) (fun σ H1 pv => ?_)
  · rcases pv with ⟨_, _, e1, _⟩ | ⟨_, _, f⟩
    · exact e1.sq hq
    · exact f.elim
  · rcases pv with ⟨rfl, ⟨v4, v5, rfl⟩, e1, d1⟩ | ⟨_, _, f⟩
    · obtain ⟨rfl, hx⟩ := y
      rw [List.getElem?_map] at hx
      obtain ⟨c, hc2, rfl⟩ := Option.map_eq_some_iff.mp hx
      have hcc := hcl c (List.mem_of_getElem? hc2)
      refine ⟨_, rfl, _, rfl, kn, dx, fs, nv cnt, rfl, e1 _ _ k1, k2, _, _, rfl, rfl, _, rfl, ?_⟩
      by_cases z : c < cnt
      · rw [decide_eq_true (show (c : Int) < cnt by omega)]
        refine ⟨_, rfl, .inl ⟨rfl, _, .inl (.inl d1)⟩, _, rfl, W, _, _, rfl, rfl, d1, by decide, _, rfl, ?_⟩
        exact q W [c] _ (Same.mut e1 hW) hW upd_same fun m hm => by rw [List.mem_singleton.mp hm]; exact z
      · rw [decide_eq_false (show ¬ (c : Int) < cnt by omega)]
        have ci : (c : Int) - cnt = ((c - cnt : Nat) : Int) := by omega
        refine ⟨_, rfl, _, rfl, kn, dx, fs, nv cnt, rfl, e1 _ _ k1, k2, _, _, rfl, rfl, ?_⟩
        obtain ⟨la, cb, t1, t2, t3, t4⟩ := (ht.same e1).at (show c - cnt < las.length by omega)
        rw [← ci] at t1
        refine ⟨_, rfl, .inl ⟨rfl, _, .inl (.inl d1)⟩, _, rfl, _, rfl, D, _, _, .ref la, rfl, rfl, .inl (.inl (e1 _ _ ht.1)), t1, la, cb, rfl, t3, by omega, fun p ms H3 e3 hp3 h3 hm hml => ?_⟩
        have d3 := e3 _ _ d1
        refine .inr ⟨W, p, _, _, rfl, rfl, d3, h3, ?_, ?_⟩
        · rw [List.length_map, List.length_map, sizeLine_eq]
          show 0 + _ ≤ _
          omega
        · have e4 : Same H (upd H3 W (.lst (([] : List Nat).map nv ++ ms.map nv))) := Same.mut (e1.trans e3) hW
          have bat := bool_at (bs := List.replicate las.length false) (i := c - cnt) (by rw [List.length_replicate]; omega)
          rw [rep_getD, ← ci] at bat
          exact ⟨_, rfl, kn, dx, fs, .ref em, rfl, e4 _ _ k1, k3, _, rfl, em, _, _, _, rfl, rfl, e4.sqt k4', bat, false, rfl, _, rfl, q W ms _ e4 hW upd_same fun m h => by have := hm m h; omega⟩
    · exact f.elim
  · rcases pv with ⟨_, ⟨v4, v5, rfl⟩, e1, d1⟩ | ⟨_, _, f⟩
    · exact ⟨_, rfl, q W [] H1 e1 hW d1 fun m hm => nomatch hm⟩
    · exact f.elim
end M

/-! text: P23 -/
set_option Elab.async false
set_option linter.all false
set_option maxRecDepth 100000
set_option maxHeartbeats 4000000
namespace M
open PySem PySem.Spec PyProof.Rows L2
def falses (cs : List (List Bool)) : Nat := (cs.map (List.count false)).sum
theorem falses_set : ∀ {cs : List (List Bool)} {j : Nat} {c c' : List Bool}, cs[j]? = some c → c'.count false + 1 = c.count false → falses (cs.set j c') + 1 = falses cs
  | [], j, c, c', h, _ => by cases h
  | d :: cs, 0, c, c', h, e => by
    cases h
    show (c'.count false + falses cs) + 1 = d.count false + falses cs
    omega
  | d :: cs, j + 1, c, c', h, e => by
    have := falses_set (cs := cs) (j := j) h e
    show (d.count false + falses (cs.set j c')) + 1 = d.count false + falses cs
    omega
/-- the table as it is worked on: new lists, each once -/
structure TabI (H0 H : Hp) (D : Addr) (las : List Addr) (cs : List (List Bool)) (cnt : Nat) : Prop where
  d : H D = some (.lst (las.map V.ref))
  nd : las.Nodup
  ln : las.length = cs.length
  at_ : ∀ (j : Nat) (la : Addr) (c : List Bool), las[j]? = some la → cs[j]? = some c → H la = some (.lst (c.map V.bl)) ∧ c.length = cnt
  fr : ∀ la ∈ las, H0 la = none
  out : D ∉ las
theorem TabI.same {H0 H H' : Hp} {D : Addr} {las : List Addr} {cs : List (List Bool)} {cnt : Nat} (h : TabI H0 H D las cs cnt) (e : Same H H') : TabI H0 H' D las cs cnt :=
  { h with d := e _ _ h.d, at_ := fun j la c q1 q2 => ⟨e _ _ (h.at_ j la c q1 q2).1, (h.at_ j la c q1 q2).2⟩ }
theorem TabI.tabB {H0 H : Hp} {D : Addr} {las : List Addr} {cs : List (List Bool)} {cnt : Nat} (h : TabI H0 H D las cs cnt) : TabB H D las cnt := ⟨h.d, fun la hla => by
  obtain ⟨j, hj⟩ := List.mem_iff_getElem?.mp hla
  have hl : j < cs.length := by rw [← h.ln]; exact (List.getElem?_eq_some_iff.mp hj).1
  exact ⟨_, h.at_ j la _ hj (List.getElem?_eq_getElem hl)⟩⟩
theorem TabI.set {H0 H : Hp} {D : Addr} {las : List Addr} {cs : List (List Bool)} {cnt : Nat} (h : TabI H0 H D las cs cnt) {j : Nat} {la : Addr} {c c' : List Bool} (h1 : las[j]? = some la) (h2 : cs[j]? = some c) (hl : c'.length = cnt) : TabI H0 (upd H la (.lst (c'.map V.bl))) D las (cs.set j c') cnt where
  d := by
    rw [upd_ne (fun z => h.out (by rw [z]; exact List.mem_of_getElem? h1))]
    exact h.d
  nd := h.nd
  ln := by rw [List.length_set]; exact h.ln
  fr := h.fr
  out := h.out
  at_ := fun i lb d q1 q2 => by
    have hj : j < cs.length := (List.getElem?_eq_some_iff.mp h2).1
    by_cases z : i = j
    · subst z
      rw [h1] at q1
      cases q1
      rw [List.getElem?_set_self hj] at q2
      cases q2
      exact ⟨upd_same, hl⟩
    · rw [List.getElem?_set_ne (Ne.symm z)] at q2
      have ne : lb ≠ la := fun y => by
        rw [y] at q1
        obtain ⟨a1, b1⟩ := List.getElem?_eq_some_iff.mp q1
        obtain ⟨a2, b2⟩ := List.getElem?_eq_some_iff.mp h1
        exact z ((List.getElem_inj h.nd).mp (b1.trans b2.symm))
      rw [upd_ne ne]
      exact h.at_ i lb d q1 q2
def sp_first_table (K : PySem.W.Frag) : Sp := fun vs H Q _ => ∃ (kn hd pt : Addr) (cnt grp : Nat) (heads : List Nat) (parts : List (List Nat)), vs = [.ref kn, nv grp, .ref hd, .ref pt] ∧ BegO K H kn cnt grp ∧ SqT K H hd (heads.map nv) ∧ RowsAt K H pt parts ∧ grp ≤ 64 ∧ cnt ≤ 1000 ∧ (∀ h ∈ heads, h < grp) ∧
  (∀ ps ∈ parts, ps.length < 64 ∧ ∀ c ∈ ps, c < cnt + grp) ∧ ∀ (D : Addr) (las : List Addr) H', Same H H' → TabB H' D las cnt → las.length = grp → Q (.ref D) H'
theorem len_first_table {K : PySem.W.Frag} (vs : List V) (H : Hp) (Q : VK) (E : XK) (h : sp_first_table K vs H Q E) : vs.length = 4 := by
  obtain ⟨kn, hd, pt, cnt, grp, heads, parts, rfl, _⟩ := h
  rfl
abbrev N_first_table : List Str := ["known", "groups", "heads", "parts", "table", "again", "_", "head", "codes", "token"]
def t_first_table (K : PySem.W.Frag) (P : Program) (w : World) : TS :=
  (tSeq (tAsg (tLc (iRng1 (tCons (tVar 1) tNil)) (gName 6) tYes (tOp rRep (tLst (tCons (tC (.bl false)) tNil)) (tF (He.ga K "Beginnings") (tVar 0) "count")) [6]) (gName 4))
    (tSeq (tAsg (tC (.bl true)) (gName 5))
    (tSeq (tWhile (tB (tVar 5)) (tSeq (tAsg (tC (.bl false)) (gName 5))
    (tFor (RZ.iZipA K (tCons (tVar 2) (tCons (tVar 3) tNil))) (gTup K 2 (gCons (gName 7) (gCons (gName 8) gNil))) (tFor (iSeq K (tCl (sp_first_of K) (tCons (tVar 0) (tCons (tVar 4) (tCons (tVar 8) tNil))))) (gName 9) (tIfS (tNot (tB (tOp (rIxL K) (tOp (rIxL K) (tVar 4) (tVar 7)) (tVar 9)))) (tSeq (tAsg (tC (.bl true)) (gSub (tOp (rIxL K) (tVar 4) (tVar 7)) (tVar 9) rSetL))
    (tAsg (tC (.bl true)) (gName 5))) tNext)))))
    (tRet (tVar 4)))))
theorem pure_first_table {K : PySem.W.Frag} {P : Program} {w : World} (vs : List V) (H : Hp) (Q : VK) (E : XK) (h : sp_first_table K vs H Q E) : t_first_table K P w { nx := fun _ H' => Q .non H', rt := Q } (start N_first_table vs) H := by
  obtain ⟨kn, hd, pt, cnt, grp, heads, parts, rfl, ⟨dx, em, fs, k1, k2, k3, k4'⟩, hh, ⟨as, ha, hal, hrow⟩, g64, c1k, hlt, hps, q⟩ := h
  have s24 := sizeLine_eq
  -- the new table
  refine ⟨_, rfl, _, rfl, by omega, by omega, fun D hD => ?_⟩
  rw [Int.toNat_natCast]
  refine comp_it walk_range (fun i H1 => Same H H1 ∧ ∃ las cs, TabI H H1 D las cs cnt ∧ las.length = i) ⟨Same.new hD, [], [], ⟨upd_same, List.nodup_nil, rfl, fun j la c z => (nomatch z), fun la z => (nomatch z), fun z => (nomatch z)⟩, rfl⟩ (fun _ _ _ _ => trivial) (fun i x Ha Hb hi pv y => ?_) (fun H2 pv => ?_)
  · obtain ⟨e1, las, cs, t1, hl1⟩ := pv
    obtain ⟨rfl, rfl⟩ := y
    refine ⟨rfl, yes_goH ⟨by decide, fun L hL => ⟨_, rfl, kn, dx, fs, nv cnt, rfl, Same.mut e1 (e1.fresh hL) _ _ k1, k2, L, _, _, rfl, rfl, upd_same, by omega, by omega, by show 1 * _ ≤ _; omega, fun la hla => ?_⟩⟩⟩
    have e2 := Same.new (o := .lst [.bl false]) hL
    have t2 := t1.same e2
    have e3 := Same.new (o := .lst (List.replicate (cnt : Int).toNat [V.bl false]).flatten) hla
    have t3 := t2.same e3
    have hla0 : H la = none := (e1.trans e2).fresh hla
    have v3 : (upd (upd Hb L (.lst [.bl false])) la (.lst (List.replicate (cnt : Int).toNat [V.bl false]).flatten)) la = some (.lst ((List.replicate cnt false).map V.bl)) := by
      rw [upd_same, rep_false]
      rfl
    have nlD : la ≠ D := fun z => by
      rw [z, t2.d] at hla
      cases hla
    have nin : la ∉ las := fun z => by
      obtain ⟨c, h1, _⟩ := t2.tabB.2 la z
      rw [hla] at h1
      cases h1
    refine ⟨_, t3.d, by rw [List.length_map]; omega, Same.mut ((e1.trans e2).trans e3) hD, las ++ [la], cs ++ [List.replicate cnt false], ⟨?_, ?_, ?_, fun j lb c h1 h2 => ?_, fun lb hm => ?_, fun hm => ?_⟩, ?_⟩
    · rw [upd_same, List.map_append]
      rfl
    · exact List.nodup_append.mpr ⟨t1.nd, by simp, fun x hx y hy => by
        have hy : y = la := by simpa using hy
        exact fun z => nin (hy ▸ z ▸ hx)⟩
    · rw [List.length_append, List.length_append, t1.ln]
      rfl
    · rcases Nat.lt_or_ge j las.length with z | z
      · rw [List.getElem?_append_left z] at h1
        rw [List.getElem?_append_left (by rw [← t1.ln]; exact z)] at h2
        have hm := List.mem_of_getElem? h1
        obtain ⟨g1, g2⟩ := t3.at_ j lb c h1 h2
        refine ⟨?_, g2⟩
        rw [upd_ne (fun y => t1.out (by rw [← y]; exact hm))]
        exact g1
      · rw [List.getElem?_append_right z] at h1
        rw [List.getElem?_append_right (by rw [← t1.ln]; exact z)] at h2
        rw [← t1.ln] at h2
        have j0 : j - las.length = 0 := by
          have := (List.getElem?_eq_some_iff.mp h1).1
          simp only [List.length_cons, List.length_nil] at this
          omega
        rw [j0] at h1 h2
        cases h1
        cases h2
        refine ⟨?_, List.length_replicate⟩
        rw [upd_ne nlD]
        exact v3
    · rcases List.mem_append.mp hm with z | z
      · exact t1.fr lb z
      · rw [List.mem_singleton.mp z]
        exact hla0
    · rcases List.mem_append.mp hm with z | z
      · exact t1.out z
      · exact nlD (List.mem_singleton.mp z).symm
    · rw [List.length_append, hl1]
      rfl
  obtain ⟨e2, las, cs, t2, hl2⟩ := pv
  -- the marks
  refine ⟨fun mm σ H1 => ∃ (v7 v8 v9 : Option V) (f : Bool) (cs : List (List Bool)), σ = [some (.ref kn), some (nv grp), some (.ref hd), some (.ref pt), some (.ref D), some (.bl f), none, v7, v8, v9] ∧ Same H H1 ∧ TabI H H1 D las cs cnt ∧ (f = true → mm = falses cs + 1), ⟨_, none, none, none, true, cs, rfl, e2, t2, fun _ => rfl⟩, fun mm σ H1 wv => ?_⟩
  obtain ⟨v7, v8, v9, f, cs1, rfl, e3, t3, wv⟩ := wv
  refine ⟨_, rfl, f, rfl, ?_⟩
  cases f with
  | false =>
    rw [if_neg (by decide)]
    exact ⟨_, rfl, q D las H1 e3 t3.tabB hl2⟩
  | true =>
    obtain rfl := wv rfl
    rw [if_pos rfl]
    refine ⟨fun σ' H' => ∃ m', m' < falses cs1 + 1 ∧ ∃ (v7 v8 v9 : Option V) (f : Bool) (cs : List (List Bool)), σ' = [some (.ref kn), some (nv grp), some (.ref hd), some (.ref pt), some (.ref D), some (.bl f), none, v7, v8, v9] ∧ Same H H' ∧ TabI H H' D las cs cnt ∧ (f = true → m' = falses cs + 1), fun _ _ h => h, ?_⟩
    refine ⟨_, rfl, _, rfl, hd, pt, _, _, rfl, .inr ⟨e3.sqt hh, e3.sqt ha, ?_⟩⟩
    refine for_it (walk_zipT (xs := heads.map nv) (ys := as.map V.ref)) (fun i σ H4 => ∃ (v7 v8 v9 : Option V) (f : Bool) (cs : List (List Bool)), σ = [some (.ref kn), some (nv grp), some (.ref hd), some (.ref pt), some (.ref D), some (.bl f), none, v7, v8, v9] ∧ Same H H4 ∧ TabI H H4 D las cs cnt ∧ (f = true → falses cs < falses cs1) ∧ falses cs ≤ falses cs1)
      ⟨v7, v8, v9, false, cs1, rfl, e3, t3, fun z => (nomatch z), Nat.le_refl _⟩ (fun i σ H4 _ pv => ?_) (fun i x σ H4 H5 hi pv y => ?_) (fun σ H4 pv => ?_)
    · obtain ⟨_, _, _, _, _, _, e4, _⟩ := pv
      exact ⟨e4.sqt hh, e4.sqt ha⟩
    · obtain ⟨w7, w8, w9, f, cs4, rfl, e4, t4, ff, fle⟩ := pv
      obtain ⟨U, x1, x2, rfl, hU, rfl, hx1, hx2⟩ := y
      replace hx1 : (heads.map nv)[i]? = some x1 := hx1
      replace hx2 : (as.map V.ref)[i]? = some x2 := hx2
      rw [List.getElem?_map] at hx1 hx2
      obtain ⟨h1, hh1, rfl⟩ := Option.map_eq_some_iff.mp hx1
      obtain ⟨b, hb, rfl⟩ := Option.map_eq_some_iff.mp hx2
      have hi2 : i < parts.length := by rw [← hal]; exact (List.getElem?_eq_some_iff.mp hb).1
      have hp : parts[i]? = some parts[i] := List.getElem?_eq_getElem hi2
      generalize parts[i] = ps at hp
      obtain ⟨pl, pc⟩ := hps ps (List.mem_of_getElem? hp)
      have h1l := hlt h1 (List.mem_of_getElem? hh1)
      have e5 : Same H4 (upd H4 U (.tup [nv h1, .ref b])) := Same.new hU
      refine ⟨U, _, rfl, .inl (.inl upd_same), rfl, _, _, rfl, _, _, rfl, rfl, ?_⟩
      generalize upd H4 U (.tup [nv h1, .ref b]) = H5 at e5
      have t5 := t4.same e5
      have e05 := e4.trans e5
      refine ⟨_, rfl, _, rfl, _, rfl, kn, D, b, cnt, las, ps, rfl, ⟨dx, em, fs, e05 _ _ k1, k2, k3, by rw [hl2]; exact e05.sqt k4'⟩, t5.tabB, e05.sqt (hrow i b ps hb hp), fun c hc => by have := pc c hc; omega, c1k, fun p ms H6 e6 hp6 d6 hms => ?_⟩
      have t6 := t5.same e6
      have e06 := e05.trans e6
      have hp0 : H p = none := e05.fresh hp6
      have npl : p ∉ las := fun z => by
        obtain ⟨c, g1, _⟩ := t5.tabB.2 p z
        rw [hp6] at g1
        cases g1
      refine ⟨p, true, ms.map nv, rfl, .inl (.inl d6), ?_⟩
      refine for_it (walk_sq (b := true) (xs := ms.map nv)) (fun j σ H7 => ∃ (v9 : Option V) (f : Bool) (cs : List (List Bool)), σ = [some (.ref kn), some (nv grp), some (.ref hd), some (.ref pt), some (.ref D), some (.bl f), none, some (nv h1), some (.ref b), v9] ∧ Same H H7 ∧ TabI H H7 D las cs cnt ∧ H7 p = some (.lst (ms.map nv)) ∧ (f = true → falses cs < falses cs1) ∧ falses cs ≤ falses cs1)
        ⟨w9, f, cs4, rfl, e06, t6, d6, ff, fle⟩ (fun j σ H7 _ pv => ?_) (fun j x σ H7 H8 hj pv y => ?_) (fun σ H7 pv => ?_)
      · obtain ⟨_, _, _, _, _, _, d7, _⟩ := pv
        exact .inl (.inl d7)
      · obtain ⟨v9', f7, cs7, rfl, e7, t7, d7, ff7, fle7⟩ := pv
        obtain ⟨rfl, hx⟩ := y
        rw [List.getElem?_map] at hx
        obtain ⟨tok, htok, rfl⟩ := Option.map_eq_some_iff.mp hx
        have htl := hms tok (List.mem_of_getElem? htok)
        have hl7 : h1 < las.length := by omega
        have hlg : las[h1]? = some las[h1] := List.getElem?_eq_getElem hl7
        have hcg : cs7[h1]? = some (cs7[h1]'(by rw [← t7.ln]; exact hl7)) := List.getElem?_eq_getElem _
        generalize las[h1] = la at hlg
        generalize cs7[h1]'(by rw [← t7.ln]; exact hl7) = c at hcg
        obtain ⟨v1, v2⟩ := t7.at_ h1 la c hlg hcg
        have lat : atI (las.map V.ref) (h1 : Int) = some (.ref la) := atI_nat (by rw [List.getElem?_map, hlg]; rfl)
        have cat := bool_at (bs := c) (i := tok) (by omega)
        refine ⟨_, rfl, _, rfl, D, _, _, _, rfl, rfl, .inl (.inl t7.d), lat, _, rfl, la, _, _, _, rfl, rfl, .inl (.inl v1), cat, _, rfl, ?_⟩
        by_cases z : c.getD tok false = true
        · rw [z]
          exact ⟨_, f7, cs7, rfl, e7, t7, d7, ff7, fle7⟩
        · have z : c.getD tok false = false := by simpa using z
          rw [z]
          refine ⟨_, rfl, _, rfl, D, _, _, _, rfl, rfl, .inl (.inl t7.d), lat, _, rfl, la, _, _, tok, rfl, rfl, v1, ixN_nat (by rw [List.length_map]; omega), ?_⟩
          rw [set_map]
          have hm := List.mem_of_getElem? hlg
          have less := falses_set hcg (count_less (show tok < c.length by omega) z)
          refine ⟨_, true, cs7.set h1 (c.set tok true), rfl, Same.mut e7 (t7.fr la hm), t7.set hlg hcg (by rw [List.length_set]; exact v2), ?_, fun _ => by omega, by omega⟩
          rw [upd_ne (fun y => npl (by rw [y]; exact hm))]
          exact d7
      · obtain ⟨v9', f7, cs7, rfl, e7, t7, d7, ff7, fle7⟩ := pv
        exact ⟨_, _, _, f7, cs7, rfl, e7, t7, ff7, fle7⟩
    · obtain ⟨w7, w8, w9, f, cs4, rfl, e4, t4, ff, fle⟩ := pv
      cases f with
      | false => exact ⟨0, by omega, _, _, _, false, cs4, rfl, e4, t4, fun z => nomatch z⟩
      | true => exact ⟨falses cs4 + 1, by have := ff rfl; omega, _, _, _, true, cs4, rfl, e4, t4, fun _ => rfl⟩
end M

/-! text: P24 -/
set_option Elab.async false
set_option linter.all false
set_option maxRecDepth 100000
set_option maxHeartbeats 4000000
namespace M
open PySem PySem.Spec PyProof.Rows L2
/-! ### behind_dots, where no group is empty -/
def sp_joined_ones (K : PySem.W.Frag) : Sp := fun vs _ _ _ => vs.length = 2 ∧ False
theorem len_joined_ones {K : PySem.W.Frag} (vs : List V) (H : Hp) (Q : VK) (E : XK) (h : sp_joined_ones K vs H Q E) : vs.length = 2 := h.1
abbrev N_joined_ones : List Str := ["one", "other"]
def t_joined_ones (K : PySem.W.Frag) (P : Program) (w : World) : TS :=
  tNever
theorem pure_joined_ones {K : PySem.W.Frag} {P : Program} {w : World} (vs : List V) (H : Hp) (Q : VK) (E : XK) (h : sp_joined_ones K vs H Q E) : t_joined_ones K P w { nx := fun _ H' => Q .non H', rt := Q } (start N_joined_ones vs) H := h.2.elim
def sp_behind_dots (K : PySem.W.Frag) : Sp := fun vs H Q _ => ∃ (kn ca dx em ff : Addr) (fs : List (Str × V)) (cnt grp : Nat) (codes : List Nat) (fx : List V), vs = [.ref kn, .ref ca] ∧ H kn = some (.ins (He.ga K "Beginnings") dx fs) ∧ fs.lookup ("count" : Str) = some (nv cnt) ∧
  fs.lookup ("empty" : Str) = some (.ref em) ∧ SqT K H em ((List.replicate grp false).map V.bl) ∧ fs.lookup ("first" : Str) = some (.ref ff) ∧ SqT K H ff fx ∧ fx.length = grp ∧ SqT K H ca (codes.map nv) ∧ codes.length ≤ 64 ∧ (∀ c ∈ codes, c < cnt + grp) ∧
  ∀ p H', Same H H' → Q (.ref p) H'
theorem len_behind_dots {K : PySem.W.Frag} (vs : List V) (H : Hp) (Q : VK) (E : XK) (h : sp_behind_dots K vs H Q E) : vs.length = 2 := by
  obtain ⟨kn, ca, dx, em, ff, fs, cnt, grp, codes, fx, rfl, _⟩ := h
  rfl
abbrev N_behind_dots : List Str := ["known", "codes", "tokens", "free", "told", "code", "group"]
def t_behind_dots (K : PySem.W.Frag) (P : Program) (w : World) : TS :=
  (tSeq (tAsg (tTup tNil) (gName 2))
    (tSeq (tAsg (tC (.bl true)) (gName 3))
    (tSeq (tAsg (tLst (tCons (tTup (tCons (tVar 2) (tCons (tVar 3) tNil))) tNil)) (gName 4))
    (tSeq (tFor (RT.iRevA K (tVar 1)) (gName 5) (tSeq (tIfS (tTest (tOp rLtI (tVar 5) (tF (He.ga K "Beginnings") (tVar 0) "count"))) (tSeq (tAsg (tTup (tCons (tVar 5) tNil)) (gName 2))
    (tAsg (tC (.bl false)) (gName 3))) (tSeq (tAsg (tOp rSubI (tVar 5) (tF (He.ga K "Beginnings") (tVar 0) "count")) (gName 6))
    (tIfS (tB (tOp (rIxT K) (tF (He.ga K "Beginnings") (tVar 0) "empty") (tVar 6))) (tAsg (tCl (sp_joined_ones K) (tCons (tOp (rIxT K) (tF (He.ga K "Beginnings") (tVar 0) "first") (tVar 6)) (tCons (tVar 2) tNil))) (gName 2)) (tSeq (tAsg (tOp (rIxT K) (tF (He.ga K "Beginnings") (tVar 0) "first") (tVar 6)) (gName 2))
    (tAsg (tC (.bl false)) (gName 3))))))
    (tDrop (tBM K "list" rAppend (tVar 4) (tCons (tTup (tCons (tVar 2) (tCons (tVar 3) tNil))) tNil)))))
    (tRet (RT.tTupRev K (tVar 4)))))))
theorem pure_behind_dots {K : PySem.W.Frag} {P : Program} {w : World} (vs : List V) (H : Hp) (Q : VK) (E : XK) (h : sp_behind_dots K vs H Q E) : t_behind_dots K P w { nx := fun _ H' => Q .non H', rt := Q } (start N_behind_dots vs) H := by
  obtain ⟨kn, ca, dx, em, ff, fs, cnt, grp, codes, fx, rfl, k1, k2, k3, k4', k5, k6, k7, hc, hz, hcl, q⟩ := h
  have s24 := sizeLine_eq
  refine ⟨by decide, fun T0 hT0 => ?_⟩
  have e1 := Same.new (o := .tup []) hT0
  refine ⟨_, rfl, _, rfl, (show 2 ≤ sizeLine by decide), fun T1 hT1 => ⟨(show 1 ≤ sizeLine by decide), fun D hD => ?_⟩⟩
  have e2 := e1.trans (Same.new (o := .tup [.ref T0, .bl true]) hT1)
  have e3 := e2.trans (Same.new (o := .lst [.ref T1]) hD)
  have hD0 : H D = none := e2.fresh hD
  refine ⟨_, rfl, ca, _, rfl, .inr ⟨e3.sqt hc, ?_⟩⟩
  refine for_it (walk_revT (xs := codes.map nv)) (fun i σ H1 => (∃ (v2 v3 v5 v6 : Option V) (y2 y3 : V), σ = [some (.ref kn), some (.ref ca), some y2, some y3, some (.ref D), v5, v6]) ∧ Same H H1 ∧ ∃ xs, H1 D = some (.lst xs) ∧ xs.length = i + 1) ⟨⟨none, none, none, none, _, _, rfl⟩, e3, _, upd_same, rfl⟩ (fun i σ H1 _ pv => pv.2.1.sqt hc) (fun i x σ H1 H2 hi pv y => ?_) (fun σ H1 pv => ?_)
  · obtain ⟨⟨_, _, v5, v6, y2, y3, rfl⟩, e4, xs, d4, hl⟩ := pv
    obtain ⟨rfl, hx⟩ := y
    rw [List.getElem?_map] at hx
    obtain ⟨c, hc2, rfl⟩ := Option.map_eq_some_iff.mp hx
    have hcc := hcl c (List.mem_of_getElem? hc2)
    have hi64 : i < 64 := by rw [List.length_map] at hi; omega
    -- the turn's end
    have fin : ∀ (y2 y3 : V) (v5 v6 : Option V) (H3 : Hp), Same H2 H3 → (tDrop (tBM K "list" rAppend (tVar 4) (tCons (tTup (tCons (tVar 2) (tCons (tVar 3) tNil))) tNil)))
        { nx := fun σ H1 => (∃ (v2 v3 v5 v6 : Option V) (y2 y3 : V), σ = [some (.ref kn), some (.ref ca), some y2, some y3, some (.ref D), v5, v6]) ∧ Same H H1 ∧ ∃ xs, H1 D = some (.lst xs) ∧ xs.length = (i + 1) + 1, rt := Q } [some (.ref kn), some (.ref ca), some y2, some y3, some (.ref D), v5, v6] H3 := by
      intro y2 y3 v5 v6 H3 e5
      have d5 := e5 _ _ d4
      refine ⟨_, rfl, .inl ⟨rfl, _, .inl (.inl d5)⟩, _, rfl, _, rfl, (show 2 ≤ sizeLine by decide), fun U hU => ?_⟩
      have e6 := Same.new (o := .tup [y2, y3]) hU
      exact ⟨D, _, _, rfl, rfl, e6 _ _ d5, by omega, ⟨none, none, _, _, _, _, rfl⟩, Same.mut ((e4.trans e5).trans e6) hD0, _, upd_same, by rw [List.length_append, hl]; rfl⟩
    refine ⟨_, rfl, _, rfl, kn, dx, fs, nv cnt, rfl, e4 _ _ k1, k2, _, _, rfl, rfl, _, rfl, ?_⟩
    by_cases z : c < cnt
    · rw [decide_eq_true (show (c : Int) < cnt by omega)]
      refine ⟨_, rfl, (show 1 ≤ sizeLine by decide), fun U hU => ?_⟩
      exact fin _ _ _ _ _ (Same.new hU)
    · rw [decide_eq_false (show ¬ (c : Int) < cnt by omega)]
      have ci : (c : Int) - cnt = ((c - cnt : Nat) : Int) := by omega
      have bat := bool_at (bs := List.replicate grp false) (i := c - cnt) (by rw [List.length_replicate]; omega)
      rw [rep_getD, ← ci] at bat
      have hf : fx[c - cnt]? = some (fx[c - cnt]'(by omega)) := List.getElem?_eq_getElem _
      have fat := atI_nat hf
      rw [← ci] at fat
      refine ⟨_, rfl, _, rfl, kn, dx, fs, nv cnt, rfl, e4 _ _ k1, k2, _, _, rfl, rfl, ?_⟩
      refine ⟨_, rfl, kn, dx, fs, .ref em, rfl, e4 _ _ k1, k3, _, rfl, em, _, _, _, rfl, rfl, e4.sqt k4', bat, _, rfl, ?_⟩
      refine ⟨_, rfl, kn, dx, fs, .ref ff, rfl, e4 _ _ k1, k5, _, rfl, ff, _, _, _, rfl, rfl, e4.sqt k6, fat, ?_⟩
      exact fin _ _ _ _ _ (Same.refl _)
  · obtain ⟨⟨_, _, v5, v6, y2, y3, rfl⟩, e4, xs, d4, hl⟩ := pv
    exact ⟨_, rfl, D, xs, rfl, .inl (.inl d4), fun p hp => q p _ (e4.trans (Same.new hp))⟩
/-! ### Beginnings -/
def sp_Beginnings_init (K : PySem.W.Frag) : Sp := fun vs H Q _ => ∃ (b dx hd pt : Addr) (cnt grp : Nat) (heads : List Nat) (parts : List (List Nat)) (H0 : Hp), vs = [.ref b, nv cnt, nv grp, .ref hd, .ref pt] ∧ H b = some (.ins (He.ga K "Beginnings") dx []) ∧ Same H0 H ∧ H0 b = none ∧
  SqT K H0 hd (heads.map nv) ∧ RowsAt K H0 pt parts ∧ grp ≤ 64 ∧ cnt ≤ 1000 ∧ parts.length ≤ 1000 ∧ (∀ h ∈ heads, h < grp) ∧ (∀ ps ∈ parts, ps ≠ [] ∧ ps.length < 64 ∧ ∀ c ∈ ps, c < cnt + grp) ∧ ∀ H', Same H0 H' → Q .non H'
theorem len_Beginnings_init {K : PySem.W.Frag} (vs : List V) (H : Hp) (Q : VK) (E : XK) (h : sp_Beginnings_init K vs H Q E) : vs.length = 5 := by
  obtain ⟨b, dx, hd, pt, cnt, grp, heads, parts, H0, rfl, _⟩ := h
  rfl
abbrev N_Beginnings_init : List Str := ["self", "count", "groups", "heads", "parts", "table", "line", "codes"]
def t_Beginnings_init (K : PySem.W.Frag) (P : Program) (w : World) : TS :=
  (tSeq (sF (He.ga K "Beginnings") (tVar 0) (tVar 1) "count")
    (tSeq (sF (He.ga K "Beginnings") (tVar 0) (tCB (rTupleOf K) (tCons (tCl (sp_empty_groups K) (tCons (tVar 1) (tCons (tVar 2) (tCons (tVar 3) (tCons (tVar 4) tNil))))) tNil)) "empty")
    (tSeq (tAsg (tCl (sp_first_table K) (tCons (tVar 0) (tCons (tVar 2) (tCons (tVar 3) (tCons (tVar 4) tNil))))) (gName 5))
    (tSeq (sF (He.ga K "Beginnings") (tVar 0) (tCB (rTupleOf K) (tCons (tLc (iSeq K (tVar 5)) (gName 6) tYes (tCl (sp_marked_ones K) (tCons (tVar 6) tNil)) [6]) tNil)) "first")
    (sF (He.ga K "Beginnings") (tVar 0) (tCB (rTupleOf K) (tCons (tLc (iSeq K (tVar 4)) (gName 7) tYes (tCl (sp_behind_dots K) (tCons (tVar 0) (tCons (tVar 7) tNil))) [7]) tNil)) "behind")))))
theorem pure_Beginnings_init {K : PySem.W.Frag} {P : Program} {w : World} (vs : List V) (H : Hp) (Q : VK) (E : XK) (h : sp_Beginnings_init K vs H Q E) : t_Beginnings_init K P w { nx := fun _ H' => Q .non H', rt := Q } (start N_Beginnings_init vs) H := by
  obtain ⟨b, dx, hd, pt, cnt, grp, heads, parts, H0, rfl, hb, e0, b0, hh, hrw, g64, c1k, pl, hlt, hps, q⟩ := h
  have s24 := sizeLine_eq
  refine ⟨_, rfl, _, rfl, b, dx, _, rfl, hb, by decide, ?_⟩
  have e1 : Same H0 (upd H b (.ins (He.ga K "Beginnings") dx [("count", nv cnt)])) := Same.mut e0 b0
  have b1 : (upd H b (.ins (He.ga K "Beginnings") dx [("count", nv cnt)])) b = some (.ins (He.ga K "Beginnings") dx [("count", nv cnt)]) := upd_same
  show tSeq _ _ _ _ (upd H b (.ins (He.ga K "Beginnings") dx [("count", nv cnt)]))
  generalize upd H b (.ins (He.ga K "Beginnings") dx [("count", nv cnt)]) = H1 at e1 b1
  -- the empty ones
  refine ⟨_, rfl, _, rfl, _, rfl, _, rfl, cnt, grp, hd, pt, heads, parts, rfl, e1.sqt hh, hrw.same e1, g64, hlt, hps, fun D H2 e2 d2 => ?_⟩
  refine ⟨D, _, rfl, .inl ⟨.inl (.inl d2), fun em hem => ?_⟩⟩
  have e3 : Same H1 (upd H2 em (.tup ((List.replicate grp false).map V.bl))) := e2.trans (Same.new hem)
  have m3 : (upd H2 em (.tup ((List.replicate grp false).map V.bl))) em = some (.tup ((List.replicate grp false).map V.bl)) := upd_same
  generalize upd H2 em (.tup ((List.replicate grp false).map V.bl)) = H3 at e3 m3
  refine ⟨_, rfl, b, dx, _, rfl, e3 _ _ b1, (show 1 < 1000 by decide), ?_⟩
  have e4 : Same H0 (upd H3 b (.ins (He.ga K "Beginnings") dx [("count", nv cnt), ("empty", .ref em)])) := Same.mut (e1.trans e3) b0
  have b4 : (upd H3 b (.ins (He.ga K "Beginnings") dx [("count", nv cnt), ("empty", .ref em)])) b = some (.ins (He.ga K "Beginnings") dx [("count", nv cnt), ("empty", .ref em)]) := upd_same
  have nem : em ≠ b := fun z => by
    rw [z, e3 _ _ b1] at m3
    cases m3
  have m4 : (upd H3 b (.ins (He.ga K "Beginnings") dx [("count", nv cnt), ("empty", .ref em)])) em = some (.tup ((List.replicate grp false).map V.bl)) := by
    rw [upd_ne nem]
    exact m3
  show tSeq _ _ _ _ (upd H3 b (.ins (He.ga K "Beginnings") dx [("count", nv cnt), ("empty", .ref em)]))
  generalize upd H3 b (.ins (He.ga K "Beginnings") dx [("count", nv cnt), ("empty", .ref em)]) = H4 at e4 b4 m4
  -- the first ones
  refine ⟨_, rfl, _, rfl, _, rfl, _, rfl, b, hd, pt, cnt, grp, heads, parts, rfl, ⟨dx, em, _, b4, rfl, rfl, .inl (.inl m4)⟩, e4.sqt hh, hrw.same e4, g64, c1k, hlt, fun ps h => (hps ps h).2, fun Dt las H5 e5 t5 hl5 => ?_⟩
  have hqt : Sq K true H5 Dt (las.map V.ref) := .inl (.inl t5.1)
  refine ⟨_, rfl, Dt, true, _, rfl, hqt, fun Dl hDl => ?_⟩
  refine comp_it (walk_sq (xs := las.map V.ref)) (fun i H6 => Same H5 H6 ∧ ∃ xs, H6 Dl = some (.lst xs) ∧ xs.length = i) ⟨Same.new hDl, [], upd_same, rfl⟩ (fun i H6 _ pv => pv.1.sq hqt) (fun i x Ha Hb hi pv y => ?_) (fun H6 pv => ?_)
  · obtain ⟨e6, xs, d6, hl6⟩ := pv
    obtain ⟨rfl, hx⟩ := y
    rw [List.getElem?_map] at hx
    obtain ⟨la, hla, rfl⟩ := Option.map_eq_some_iff.mp hx
    obtain ⟨c, v1, v2⟩ := t5.2 la (List.mem_of_getElem? hla)
    have hi64 : i < 64 := by rw [List.length_map] at hi; omega
    exact ⟨rfl, yes_goH ⟨_, rfl, la, c, rfl, e6 _ _ v1, by omega, fun p ms H7 e7 _ _ _ _ => ⟨_, e7 _ _ d6, by omega, Same.mut (e6.trans e7) hDl, _, upd_same, by rw [List.length_append, hl6]; rfl⟩⟩⟩
  obtain ⟨e6, fx, d6, hl6⟩ := pv
  rw [List.length_map, hl5] at hl6
  refine ⟨Dl, _, rfl, .inl ⟨.inl (.inl d6), fun ff hff => ?_⟩⟩
  have e7 : Same H4 (upd H6 ff (.tup fx)) := (e5.trans e6).trans (Same.new hff)
  have f7 : (upd H6 ff (.tup fx)) ff = some (.tup fx) := upd_same
  generalize upd H6 ff (.tup fx) = H7 at e7 f7
  refine ⟨_, rfl, b, dx, _, rfl, e7 _ _ b4, (show 2 < 1000 by decide), ?_⟩
  have e8 : Same H0 (upd H7 b (.ins (He.ga K "Beginnings") dx [("count", nv cnt), ("empty", .ref em), ("first", .ref ff)])) := Same.mut (e4.trans e7) b0
  have b8 : (upd H7 b (.ins (He.ga K "Beginnings") dx [("count", nv cnt), ("empty", .ref em), ("first", .ref ff)])) b = some (.ins (He.ga K "Beginnings") dx [("count", nv cnt), ("empty", .ref em), ("first", .ref ff)]) := upd_same
  have nff : ff ≠ b := fun z => by
    rw [z, e7 _ _ b4] at f7
    cases f7
  have m8 : (upd H7 b (.ins (He.ga K "Beginnings") dx [("count", nv cnt), ("empty", .ref em), ("first", .ref ff)])) em = some (.tup ((List.replicate grp false).map V.bl)) := by
    rw [upd_ne nem]
    exact e7 _ _ m4
  have f8 : (upd H7 b (.ins (He.ga K "Beginnings") dx [("count", nv cnt), ("empty", .ref em), ("first", .ref ff)])) ff = some (.tup fx) := by
    rw [upd_ne nff]
    exact f7
  rw [show putF "first" (V.ref ff) [(("count" : Str), nv cnt), (("empty" : Str), V.ref em)] = [(("count" : Str), nv cnt), (("empty" : Str), V.ref em), (("first" : Str), V.ref ff)] from rfl]
  generalize upd H7 b (.ins (He.ga K "Beginnings") dx [("count", nv cnt), ("empty", .ref em), ("first", .ref ff)]) = H8 at e8 b8 m8 f8
  -- behind the dots
  obtain ⟨as, ha, hal, hrow⟩ := hrw
  have hqa : Sq K false H0 pt (as.map V.ref) := ha
  refine ⟨_, rfl, pt, false, _, rfl, e8.sq hqa, fun Db hDb => ?_⟩
  refine comp_it (walk_sq (xs := as.map V.ref)) (fun i H9 => Same H8 H9 ∧ ∃ xs, H9 Db = some (.lst xs) ∧ xs.length = i) ⟨Same.new hDb, [], upd_same, rfl⟩ (fun i H9 _ pv => (e8.trans pv.1).sq hqa) (fun i x Ha Hb hi pv y => ?_) (fun H9 pv => ?_)
  · obtain ⟨e9, xs, d9, hl9⟩ := pv
    obtain ⟨rfl, hx⟩ := y
    rw [List.getElem?_map] at hx
    obtain ⟨ca, hca, rfl⟩ := Option.map_eq_some_iff.mp hx
    have hi2 : i < parts.length := by rw [← hal]; exact (List.getElem?_eq_some_iff.mp hca).1
    have hp : parts[i]? = some parts[i] := List.getElem?_eq_getElem hi2
    generalize parts[i] = ps at hp
    obtain ⟨pne, pl2, pc⟩ := hps ps (List.mem_of_getElem? hp)
    exact ⟨rfl, yes_goH ⟨_, rfl, _, rfl, b, ca, dx, em, ff, _, cnt, grp, ps, fx, rfl, e9 _ _ b8, rfl, rfl, .inl (.inl (e9 _ _ m8)), rfl, .inl (.inl (e9 _ _ f8)), hl6, (e8.trans e9).sqt (hrow i ca ps hca hp), by omega, pc, fun p H10 e10 => ⟨_, e10 _ _ d9, by omega, Same.mut (e9.trans e10) hDb, _, upd_same, by rw [List.length_append, hl9]; rfl⟩⟩⟩
  obtain ⟨e9, bx, d9, hl9⟩ := pv
  refine ⟨Db, _, rfl, .inl ⟨.inl (.inl d9), fun bb hbb => ?_⟩⟩
  have e10 : Same H8 (upd H9 bb (.tup bx)) := e9.trans (Same.new hbb)
  exact ⟨_, rfl, b, dx, _, rfl, e10 _ _ b8, (show 3 < 1000 by decide), q _ (Same.mut (e8.trans e10) b0)⟩
end M

/-! text: P25 -/
set_option Elab.async false
set_option linter.all false
set_option maxRecDepth 100000
set_option maxHeartbeats 4000000
namespace M
open PySem PySem.Spec PyProof.Rows L2
/-! ### the heap without the thing that is made -/
def mi (s : Addr) (H : Hp) : Hp := fun a => if a = s then none else H a
theorem mi_ne {s a : Addr} {H : Hp} (h : a ≠ s) : mi s H a = H a := if_neg h
theorem mi_at (s : Addr) (H : Hp) : mi s H s = none := if_pos rfl
theorem mi_le (s : Addr) (H : Hp) : Same (mi s H) H := fun a o h => by
  by_cases z : a = s
  · rw [z, mi_at] at h
    cases h
  · rwa [mi_ne z] at h
theorem mi_same {s : Addr} {H H' : Hp} (e : Same H H') : Same (mi s H) (mi s H') := fun a o h => by
  by_cases z : a = s
  · rw [z, mi_at] at h
    cases h
  · rw [mi_ne z] at h ⊢
    exact e a o h
theorem mi_eq {s : Addr} {H H' : Hp} (h : ∀ a, a ≠ s → H' a = H a) : mi s H' = mi s H := funext fun a => by
  by_cases z : a = s
  · rw [z, mi_at, mi_at]
  · rw [mi_ne z, mi_ne z, h a z]
theorem mi_new {s p : Addr} {H H' : Hp} {o u : HO} (hs : H s = some u) (hp : H p = none) (h : H' p = some o) : mi s H' p = some o := by
  rw [mi_ne (fun z => by rw [z, hs] at hp; cases hp)]
  exact h
theorem sF_go {C dx s : Addr} {f : Str} {y : V} {F F' : List (Str × V)} {H : Hp} {X : Hp → Prop} (hs : H s = some (.ins C dx F)) (hl : F.length < 1000) (hF : putF f y F = F') (k : ∀ H', H' s = some (.ins C dx F') → mi s H' = mi s H → X H') :
    ∃ a dx fs, V.ref s = .ref a ∧ H a = some (.ins C dx fs) ∧ fs.length < 1000 ∧ X (upd H a (.ins C dx (putF f y fs))) :=
  ⟨s, dx, F, rfl, hs, hl, hF ▸ k _ upd_same (mi_eq fun a h => upd_ne h)⟩
/-- tuple(xs) -/
theorem tup_of {K : PySem.W.Frag} {b : Bool} {H : Hp} {a s : Addr} {u : HO} {xs : List V} {Q : VK} (hs : H s = some u) (h : mi s H a = some (seqO b xs)) (k : ∀ p H', Same H H' → mi s H' p = some (.tup xs) → Q (.ref p) H') : rTupleOf K [.ref a] H Q := by
  have hH := mi_le s H a _ h
  cases b with
  | true => exact ⟨a, xs, rfl, .inl ⟨.inl (.inl hH), fun p hp => k p _ (Same.new hp) (mi_new hs hp upd_same)⟩⟩
  | false => exact ⟨a, xs, rfl, .inr ⟨.inl (.inl hH), k a H (Same.refl H) h⟩⟩
/-- self.f = tuple(te), te a list or tuple that stands -/
theorem sF_tup {K : PySem.W.Frag} {C dx s a : Addr} {σ : L2.St} {H : Hp} {F : List (Str × V)} {b : Bool} {xs : List V} {f : Str} {te : TE} {i : Nat} {D : Ends} {u : TS} (hi : σ[i]? = some (some (.ref s))) (hte : ∀ Q : VK, Q (.ref a) H → te σ H Q) (hs : H s = some (.ins C dx F)) (hl : F.length < 1000)
    (h : mi s H a = some (seqO b xs)) (k : ∀ p H', H' s = some (.ins C dx (putF f (.ref p) F)) → Same (mi s H) (mi s H') → mi s H' p = some (.tup xs) → u D σ H') : tSeq (sF C (tVar i) (tCB (rTupleOf K) (tCons te tNil)) f) u D σ H := by
  refine hte _ ?_
  show rTupleOf K [.ref a] H (fun y H1 => tVar i σ H1 fun x H2 => ∃ a dx fs, x = V.ref a ∧ H2 a = some (HO.ins C dx fs) ∧ fs.length < 1000 ∧ u D σ (upd H2 a (HO.ins C dx (putF f y fs))))
  refine tup_of hs h fun p H1 e1 f1 => ⟨_, hi, s, dx, F, rfl, e1 _ _ hs, hl, ?_⟩
  have q : mi s (upd H1 s (.ins C dx (putF f (.ref p) F))) = mi s H1 := mi_eq fun a z => upd_ne z
  exact k p _ upd_same (q ▸ mi_same e1) (by rw [q]; exact f1)
/-- self.f = tuple(te), te a new list -/
theorem sF_tupN {K : PySem.W.Frag} {C dx s : Addr} {σ : L2.St} {H : Hp} {F : List (Str × V)} {R : List V → Hp → Prop} {f : Str} {te : TE} {i : Nat} {D : Ends} {u : TS} (hi : σ[i]? = some (some (.ref s))) (hs : H s = some (.ins C dx F)) (hl : F.length < 1000)
    (hte : ∀ Q : VK, (∀ a H1 xs, Same H H1 → H1 a = some (.lst xs) → R xs H1 → Q (.ref a) H1) → te σ H Q)
    (k : ∀ p H1 H' xs, Same H H1 → R xs H1 → H' s = some (.ins C dx (putF f (.ref p) F)) → Same (mi s H1) (mi s H') → mi s H' p = some (.tup xs) → u D σ H') : tSeq (sF C (tVar i) (tCB (rTupleOf K) (tCons te tNil)) f) u D σ H := by
  refine hte _ fun a H1 xs e1 h1 r1 => ?_
  have s1 := e1 _ _ hs
  have na : a ≠ s := fun z => by
    rw [z, s1] at h1
    cases h1
  show rTupleOf K [.ref a] H1 (fun y H1 => tVar i σ H1 fun x H2 => ∃ a dx fs, x = V.ref a ∧ H2 a = some (HO.ins C dx fs) ∧ fs.length < 1000 ∧ u D σ (upd H2 a (HO.ins C dx (putF f y fs))))
  refine tup_of (b := true) s1 (by rw [mi_ne na]; exact h1) fun p H2 e2 f2 => ⟨_, hi, s, dx, F, rfl, e2 _ _ s1, hl, ?_⟩
  have q : mi s (upd H2 s (.ins C dx (putF f (.ref p) F))) = mi s H2 := mi_eq fun a z => upd_ne z
  exact k p H1 _ xs e1 r1 upd_same (q ▸ mi_same e2) (by rw [q]; exact f2)
def grF (t r g c h p ro b : Addr) : List (Str × V) := [("tokens", .ref t), ("rules", .ref r), ("groups", .ref g), ("codes", .ref c), ("heads", .ref h), ("parts", .ref p), ("rules_of", .ref ro), ("beginnings", .ref b), ("state_list", .non)]
def headsOf (cd : Str → Nat) (cnt : Nat) (rs : Rls) : List Nat := rs.map fun r => cd r.1 - cnt
def partsOf (cd : Str → Nat) (rs : Rls) : List (List Nat) := rs.map fun r => r.2.map cd
def gmOf (cd : Str → Nat) (toks : List Str) (rs : Rls) : Gm := ⟨toks.length, (groupsOf rs).length, headsOf cd toks.length rs, partsOf cd rs ++ [[toks.length]], rs.length⟩
/-- right tokens and rules (one rule, not empty) -/
structure RawOk (cd : Str → Nat) (toks : List Str) (rs : Rls) : Prop where
  tne : toks ≠ []
  tnd : toks.Nodup
  tnm : ∀ n ∈ toks, nameB n = true
  tfew : toks.length ≤ 1000
  one : rs.length = 1
  rok : ∀ r ∈ rs, nameB r.1 = true ∧ (∀ n ∈ r.2, nameB n = true) ∧ r.2.length ≤ 63 ∧ r.1 ∉ toks ∧ (∀ p ∈ r.2, p ∈ toks ∨ p ∈ rs.map (·.1)) ∧ r.2 ≠ []
  cdk : ∀ (i : Nat) (n : Str), (toks ++ groupsOf rs)[i]? = some n → cd n = i
  gin : ∀ r ∈ rs, r.1 ∈ groupsOf rs
  gpos : 0 < (groupsOf rs).length
  ok : RulesOk toks.length (groupsOf rs).length (headsOf cd toks.length rs) (partsOf cd rs)
  us : Useful toks.length (groupsOf rs).length (headsOf cd toks.length rs) (partsOf cd rs)
def sp_Grammar_init (K : PySem.W.Frag) : Sp := fun vs H Q _ => ∃ (s dx ta ra : Addr) (bt br : Bool) (cd : Str → Nat) (toks : List Str) (rs : Rls), vs = [.ref s, .ref ta, .ref ra] ∧ H s = some (.ins (He.ga K "Grammar") dx []) ∧ mi s H ta = some (seqO bt (toks.map V.str)) ∧ PairsAt K (mi s H) br ra rs ∧
  RawOk cd toks rs ∧ ∀ H', Same (mi s H) H' → GrmO K H' s (gmOf cd toks rs) → Q .non H'
theorem len_Grammar_init {K : PySem.W.Frag} (vs : List V) (H : Hp) (Q : VK) (E : XK) (h : sp_Grammar_init K vs H Q E) : vs.length = 3 := by
  obtain ⟨s, dx, ta, ra, bt, br, cd, toks, rs, rfl, _⟩ := h
  rfl
abbrev N_Grammar_init : List Str := ["self", "tokens", "rules", "count", "coded", "code", "name", "parts", "group", "part"]
def t_Grammar_init (K : PySem.W.Frag) (P : Program) (w : World) : TS :=
  (tSeq (tIfS (tNot (tB (tCl (sp_are_names K) (tCons (tVar 1) tNil)))) tNever tNext)
    (tSeq (tIfS (tNot (tB (tCl (sp_are_rules K) (tCons (tVar 1) (tCons (tVar 2) tNil))))) tNever tNext)
    (tSeq (sF (He.ga K "Grammar") (tVar 0) (tCB (rTupleOf K) (tCons (tVar 1) tNil)) "tokens")
    (tSeq (sF (He.ga K "Grammar") (tVar 0) (tCB (rTupleOf K) (tCons (tVar 2) tNil)) "rules")
    (tSeq (sF (He.ga K "Grammar") (tVar 0) (tCl (sp_groups_in K) (tCons (tF (He.ga K "Grammar") (tVar 0) "rules") tNil)) "groups")
    (tSeq (tAsg (tCB (rLenSeq K) (tCons (tF (He.ga K "Grammar") (tVar 0) "tokens") tNil)) (gName 3))
    (tSeq (sF (He.ga K "Grammar") (tVar 0) (tDc (iEnumT K (tCons (tOp (rCatA K) (tF (He.ga K "Grammar") (tVar 0) "tokens") (tF (He.ga K "Grammar") (tVar 0) "groups")) tNil)) (gTup K 2 (gCons (gName 5) (gCons (gName 6) gNil))) tYes (tVar 6) (tVar 5) [5, 6]) "codes")
    (tSeq (sF (He.ga K "Grammar") (tVar 0) (tCB (rTupleOf K) (tCons (tLc (iSeq K (tF (He.ga K "Grammar") (tVar 0) "rules")) (gTup K 2 (gCons (gName 6) (gCons (gName 7) gNil))) tYes (tOp rSubI (tDGet (tF (He.ga K "Grammar") (tVar 0) "codes") (tVar 6)) (tVar 3)) [6, 7]) tNil)) "heads")
    (tSeq (tAsg (tLc (iSeq K (tF (He.ga K "Grammar") (tVar 0) "rules")) (gTup K 2 (gCons (gName 6) (gCons (gName 7) gNil))) tYes (tCB (rTupleOf K) (tCons (tLc (iSeq K (tVar 7)) (gName 9) tYes (tDGet (tF (He.ga K "Grammar") (tVar 0) "codes") (tVar 9)) [9]) tNil)) [6, 7]) (gName 4))
    (tSeq (tIfS (tTru K (tCl (sp_useless_rules K) (tCons (tVar 3) (tCons (tCB (rLenSeq K) (tCons (tF (He.ga K "Grammar") (tVar 0) "groups") tNil)) (tCons (tF (He.ga K "Grammar") (tVar 0) "heads") (tCons (tVar 4) tNil)))))) tNever tNext)
    (tSeq (sF (He.ga K "Grammar") (tVar 0) (tCB (rTupleOf K) (tCons (tOp rCat (tVar 4) (tLst (tCons (tTup (tCons (tVar 3) tNil)) tNil))) tNil)) "parts")
    (tSeq (sF (He.ga K "Grammar") (tVar 0) (tCB (rTupleOf K) (tCons (tLc (iRng1 (tCons (tCB (rLenSeq K) (tCons (tF (He.ga K "Grammar") (tVar 0) "groups") tNil)) tNil)) (gName 8) tYes (tCl (sp_rules_with K) (tCons (tF (He.ga K "Grammar") (tVar 0) "heads") (tCons (tVar 8) tNil))) [8]) tNil)) "rules_of")
    (tSeq (sF (He.ga K "Grammar") (tVar 0) (tMk (He.ga K "Beginnings") (sp_Beginnings_init K) (tCons (tVar 3) (tCons (tCB (rLenSeq K) (tCons (tF (He.ga K "Grammar") (tVar 0) "groups") tNil)) (tCons (tF (He.ga K "Grammar") (tVar 0) "heads") (tCons (tF (He.ga K "Grammar") (tVar 0) "parts") tNil))))) "beginnings")
    (sF (He.ga K "Grammar") (tVar 0) (tC .non) "state_list"))))))))))))))
theorem pure_Grammar_init {K : PySem.W.Frag} {P : Program} {w : World} (vs : List V) (H : Hp) (Q : VK) (E : XK) (h : sp_Grammar_init K vs H Q E) : t_Grammar_init K P w { nx := fun _ H' => Q .non H', rt := Q } (start N_Grammar_init vs) H := by
  obtain ⟨s, dx, ta, ra, bt, br, cd, toks, rs, rfl, hs, ht, hr, ok, q⟩ := h
  have s24 := sizeLine_eq
  have t1k := ok.tfew
  have one := ok.one
  -- the names are right
  refine ⟨_, rfl, ta, bt, toks, rfl, mi_le s H _ _ ht, ok.tne, ok.tnd, ok.tnm, t1k, fun H1 e1 => ⟨_, rfl, ?_⟩⟩
  have m1 := mi_same (s := s) e1
  have s1 := e1 _ _ hs
  -- the rules are right
  refine ⟨_, rfl, _, rfl, ta, ra, bt, br, toks, rs, rfl, mi_le s H1 _ _ (m1 _ _ ht), (hr.same m1).same (mi_le s H1), one, t1k, fun r hm => ?_, fun H2 e2 => ⟨_, rfl, ?_⟩⟩
  · obtain ⟨o1, o2, o3, o4, o5, _⟩ := ok.rok r hm
    exact ⟨o1, o2, by omega, o4, o5⟩
  have m2 := m1.trans (mi_same (s := s) e2)
  have s2 := e2 _ _ s1
  -- tokens
  refine iteF ?_
  dsimp only [tNext]
  refine sF_tup (b := bt) ?_ ?_ s2 ?_ (m2 _ _ ht) fun t H4 s4 m4' f4 => ?_
  · rfl
  · exact fun Q q => ⟨_, rfl, q⟩
  · exact (show 0 < 1000 by decide)
  have m4 := m2.trans m4'
  have s4 : H4 s = some (.ins (He.ga K "Grammar") dx ((grF t 0 0 0 0 0 0 0).take 1)) := s4
  -- rules
  obtain ⟨qs, hq0, hql, hqp⟩ := hr
  refine sF_tup (b := br) ?_ ?_ s4 ?_ (m4 _ _ hq0) fun r H6 s6 m6 f6 => ?_
  · rfl
  · exact fun Q q => ⟨_, rfl, q⟩
  · exact (show 1 < 1000 by decide)
  have s6 : H6 s = some (.ins (He.ga K "Grammar") dx ((grF t r 0 0 0 0 0 0).take 2)) := s6
  have m06 := m4.trans m6
  have pr6 : PairsAt K (mi s H6) false r rs := ⟨qs, f6, hql, fun i qa r' a b => (hqp i qa r' a b).same m06⟩
  -- groups
  refine ⟨_, rfl, s, dx, _, .ref r, rfl, s6, rfl, r, rs, rfl, pr6.same (mi_le s H6), by omega, fun g H7 e7 f7 => ?_⟩
  have ngs : g ≠ s := fun z => by
    rw [z, e7 _ _ s6] at f7
    cases f7
  refine ⟨_, rfl, sF_go (F' := (grF t r g 0 0 0 0 0).take 3) (e7 _ _ s6) (show 2 < 1000 by decide) rfl fun H8 s8 q8 => ?_⟩
  have m8 : Same (mi s H6) (mi s H8) := q8 ▸ mi_same e7
  have f8 : mi s H8 g = some (.tup ((groupsOf rs).map V.str)) := by
    rw [q8, mi_ne ngs]
    exact f7
  clear q8 f7 e7
  have t8 := m8 _ _ (m6 _ _ f4)
  -- count
  refine ⟨_, rfl, s, dx, _, .ref t, rfl, s8, rfl, t, _, rfl, .inr (.inl (.inl (mi_le s H8 _ _ t8))), ?_⟩
  rw [List.length_map]
  have hcnt := ok.ok.cfew
  have g64 := ok.ok.gfew
  have gl : (groupsOf rs).length ≤ rs.length := groups_len rs
  -- codes
  refine ⟨_, rfl, s, dx, _, .ref t, rfl, s8, rfl, _, rfl, s, dx, _, .ref g, rfl, s8, rfl, t, g, _, _, rfl, rfl, .inl (.inl (mi_le s H8 _ _ t8)), .inl (.inl (mi_le s H8 _ _ f8)), by rw [List.length_map, List.length_map]; omega, fun z => absurd (List.map_eq_nil_iff.mp z) ok.tne, fun _ z => ?_, fun _ _ pc hpc => ?_⟩
  · have := List.map_eq_nil_iff.mp z
    have gp := ok.gpos
    rw [this] at gp
    exact absurd gp (Nat.lt_irrefl _)
  have e9 := Same.new (o := .tup (toks.map V.str ++ (groupsOf rs).map V.str)) hpc
  have c9 : (upd H8 pc (.tup (toks.map V.str ++ (groupsOf rs).map V.str))) pc = some (.tup ((toks ++ groupsOf rs).map V.str)) := by rw [upd_same, List.map_append]
  generalize upd H8 pc (.tup (toks.map V.str ++ (groupsOf rs).map V.str)) = H9 at e9 c9
  have s9 := e9 _ _ s8
  obtain ⟨L, hL⟩ : ∃ L, L = toks ++ groupsOf rs := ⟨_, rfl⟩
  have cdk := ok.cdk
  rw [← hL] at c9 cdk
  have Ll : L.length ≤ 1064 := by rw [hL, List.length_append]; omega
  refine ⟨pc, _, rfl, .inl (.inl c9), fun c hc => ?_⟩
  refine comp_it (walk_enumT (xs := L.map V.str)) (fun i H' => Same H9 H' ∧ ∃ kvs : List (Key × V), H' c = some (.dK kvs) ∧ kvs.length ≤ i ∧ ∀ n ∈ L.take i, valV kvs (Sum.inr n) = some (nv (cd n))) ⟨Same.new hc, [], upd_same, Nat.le_refl _, fun n z => nomatch z⟩ (fun i H' _ pv => .inl (.inl (pv.1 _ _ c9))) (fun i x Ha Hb hi pv y => ?_) (fun H10 pv => ?_)
  · obtain ⟨e10, kvs, hk, hkl, hkn⟩ := pv
    obtain ⟨U, x1, x2, rfl, hU, rfl, hx1, hx2⟩ := y
    cases hx1
    replace hx2 : (L.map V.str)[i]? = some x2 := hx2
    rw [List.getElem?_map] at hx2
    obtain ⟨n, hn, rfl⟩ := Option.map_eq_some_iff.mp hx2
    have hi2 : i < L.length := by rw [List.length_map] at hi; exact hi
    have e11 := Same.new (o := .tup [.int (i : Nat), .str n]) hU
    refine ⟨U, _, rfl, .inl (.inl upd_same), rfl, _, _, rfl, _, _, rfl, rfl, rfl, yes_goH ⟨_, rfl, _, rfl, kvs, Sum.inr n, rfl, e11 _ _ hk, by omega, Same.mut (e10.trans e11) hc, _, upd_same, by have := length_putK kvs (Sum.inr n : Key) (.int (i : Nat)); omega, fun n' hn' => ?_⟩⟩
    rw [valV_put]
    by_cases z : n' = n
    · rw [if_pos (by rw [z]), z, cdk i n hn]
    · rw [if_neg (fun y => z (Sum.inr.inj y))]
      rw [List.take_succ, hn] at hn'
      rcases List.mem_append.mp hn' with y | y
      · exact hkn n' y
      · exact absurd (by simpa using y) z
  obtain ⟨e10, kvs, hk10, _, hkn⟩ := pv
  rw [List.length_map, List.take_length] at hkn
  have s10 := e10 _ _ s9
  have ncs : c ≠ s := fun z => by
    rw [z, s9] at hc
    cases hc
  refine ⟨_, rfl, sF_go (F' := (grF t r g c 0 0 0 0).take 4) s10 (show 3 < 1000 by decide) rfl fun H11 s11 q11 => ?_⟩
  have m11 : Same (mi s H8) (mi s H11) := q11 ▸ (mi_same e9).trans (mi_same e10)
  have c11 : mi s H11 c = some (.dK kvs) := by
    rw [q11, mi_ne ncs]
    exact hk10
  have m0_11 := (m06.trans m8).trans m11
  have r11 := m11 _ _ (m8 _ _ f6)
  have pr11 : PairsAt K (mi s H11) false r rs := pr6.same (m8.trans m11)
  clear q11
  -- heads
  have inL : ∀ n, n ∈ toks ∨ n ∈ rs.map (·.1) → n ∈ L := fun n h => by
    rw [hL]
    rcases h with h | h
    · exact List.mem_append_left _ h
    · obtain ⟨r', hr', rfl⟩ := List.mem_map.mp h
      exact List.mem_append_right _ (ok.gin r' hr')
  have cdg : ∀ r' ∈ rs, toks.length ≤ cd r'.1 := fun r' hr' => by
    obtain ⟨j, hj⟩ := List.mem_iff_getElem?.mp (ok.gin r' hr')
    have : L[toks.length + j]? = some r'.1 := by
      rw [hL, List.getElem?_append_right (Nat.le_add_right _ _), Nat.add_sub_cancel_left]
      exact hj
    rw [cdk _ _ this]
    exact Nat.le_add_right _ _
  dsimp only
  refine sF_tupN (R := fun xs _ => xs = (headsOf cd toks.length rs).map nv) ?_ s11 ?_ ?_ fun p H12 H13 xs e12 hxs s13 m13 f13 => ?_
  · rfl
  · exact (show 4 < 1000 by decide)
  · intro Q q
    refine ⟨_, rfl, s, dx, _, .ref r, rfl, s11, rfl, r, false, _, rfl, .inl (.inl (mi_le s H11 _ _ r11)), fun D hD => ?_⟩
    refine lc_pure (walk_sq (b := false) (xs := qs.map V.ref)) (by rw [List.length_map]; omega) (fun _ => true) (fun i => nv ((headsOf cd toks.length rs).getD i 0)) hD (fun H' e' => .inl (.inl (e' _ _ (mi_le s H11 _ _ r11)))) (fun i x Ha Hb hi e2 y => ?_) (fun H2 e2 h2 => ?_)
    · obtain ⟨rfl, hx⟩ := y
      rw [List.getElem?_map] at hx
      obtain ⟨qa, hqa, rfl⟩ := Option.map_eq_some_iff.mp hx
      have hi2 : i < rs.length := by rw [List.length_map] at hi; omega
      have hr' : rs[i]? = some rs[i] := List.getElem?_eq_getElem hi2
      generalize rs[i] = r' at hr'
      have hm := List.mem_of_getElem? hr'
      obtain ⟨pr, g1, g2⟩ := ((hqp i qa r' hqa hr').same m0_11).same ((mi_le s H11).trans e2)
      have hd : (headsOf cd toks.length rs).getD i 0 = cd r'.1 - toks.length := by
        unfold headsOf
        rw [List.getD_eq_getElem?_getD, List.getElem?_map, hr']
        rfl
      intro Q2 QF k1 k2
      have k1 := k1 rfl Hb (Same.refl _)
      rw [hd] at k1
      have dg := DGet.k (k := (Sum.inr r'.1 : Key)) (e2 _ _ (mi_le s H11 _ _ c11))
      rw [hkn r'.1 (inL _ (.inr (List.mem_map_of_mem hm)))] at dg
      have := cdg r' hm
      refine ⟨qa, _, rfl, .inl (.inl g1), rfl, _, _, rfl, _, _, rfl, rfl, rfl, yes_go ⟨_, rfl, s, dx, _, .ref c, rfl, e2 _ _ s11, rfl, _, rfl, c, _, rfl, dg, _, rfl, _, _, rfl, rfl, ?_⟩⟩
      exact q_to k1 (congrArg V.int (by omega))
    · rw [kept_all] at h2
      refine q D H2 _ e2 h2 ?_
      rw [List.length_map, hql, ← List.length_map (f := fun r : Str × List Str => cd r.1 - toks.length) (as := rs)]
      exact range_map (headsOf cd toks.length rs) _ _ fun i x hx => by rw [List.getD_eq_getElem?_getD, hx]; rfl
  subst hxs
  have s13 : H13 s = some (.ins (He.ga K "Grammar") dx ((grF t r g c p 0 0 0).take 5)) := s13
  have m13 := (mi_same (s := s) e12).trans m13
  have m0_13 := m0_11.trans m13
  have r13 := m13 _ _ r11
  have c13 := m13 _ _ c11
  have g13 := (m11.trans m13) _ _ f8
  clear e12
  -- the coded rules
  refine ⟨_, rfl, s, dx, _, .ref r, rfl, s13, rfl, r, false, _, rfl, .inl (.inl (mi_le s H13 _ _ r13)), fun D hD => ?_⟩
  refine comp_it (walk_sq (b := false) (xs := qs.map V.ref)) (fun i H' => Same H13 H' ∧ ∃ as : List Addr, H' D = some (.lst (as.map V.ref)) ∧ as.length = i ∧ ∀ (j : Nat) (b : Addr) (ps : List Nat), as[j]? = some b → (partsOf cd rs)[j]? = some ps → H' b = some (.tup (ps.map nv)) ∧ b ≠ D)
    ⟨Same.new hD, [], upd_same, rfl, fun j b ps z => nomatch z⟩ (fun i H' _ pv => .inl (.inl (pv.1 _ _ (mi_le s H13 _ _ r13)))) (fun i x Ha Hb hi pv y => ?_) (fun H14 pv => ?_)
  · obtain ⟨e14, as, hDa, hal, hab⟩ := pv
    obtain ⟨rfl, hx⟩ := y
    rw [List.getElem?_map] at hx
    obtain ⟨qa, hqa, rfl⟩ := Option.map_eq_some_iff.mp hx
    have hi2 : i < rs.length := by rw [List.length_map] at hi; omega
    have hr' : rs[i]? = some rs[i] := List.getElem?_eq_getElem hi2
    generalize rs[i] = r' at hr'
    have hm := List.mem_of_getElem? hr'
    obtain ⟨o1, o2, o3, o4, o5, o6⟩ := ok.rok r' hm
    obtain ⟨pr, g1, g2⟩ := ((hqp i qa r' hqa hr').same m0_13).same ((mi_le s H13).trans e14)
    have hps : Sq K false Hb pr (r'.2.map V.str) := .inl (.inl g2)
    refine ⟨qa, _, rfl, .inl (.inl g1), rfl, _, _, rfl, _, _, rfl, rfl, rfl, yes_goH ⟨_, rfl, pr, false, _, rfl, hps, fun E hE => ?_⟩⟩
    refine lc_pure (walk_sq (b := false) (xs := r'.2.map V.str)) (by rw [List.length_map]; omega) (fun _ => true) (fun j => nv ((r'.2.map cd).getD j 0)) hE (fun H' e' => e'.sq hps) (fun j x Ha2 Hb2 hj e2 y => ?_) (fun H2 e2 h2 => ?_)
    · obtain ⟨rfl, hx⟩ := y
      rw [List.getElem?_map] at hx
      obtain ⟨n, hn, rfl⟩ := Option.map_eq_some_iff.mp hx
      have hd : (r'.2.map cd).getD j 0 = cd n := by
        rw [List.getD_eq_getElem?_getD, List.getElem?_map, hn]
        rfl
      intro Q2 QF k1 k2
      have k1 := k1 rfl Hb2 (Same.refl _)
      rw [hd] at k1
      have e15 := e14.trans e2
      have dg := DGet.k (k := (Sum.inr n : Key)) (e15 _ _ (mi_le s H13 _ _ c13))
      rw [hkn n (inL n (o5 n (List.mem_of_getElem? hn)))] at dg
      exact ⟨rfl, yes_go ⟨_, rfl, s, dx, _, .ref c, rfl, e15 _ _ s13, rfl, _, rfl, c, _, rfl, dg, k1⟩⟩
    · rw [kept_all] at h2
      have h2' : H2 E = some (.lst ((r'.2.map cd).map nv)) := by
        rw [h2, List.length_map, ← List.length_map (f := cd) (as := r'.2)]
        congr 2
        exact range_map (r'.2.map cd) _ _ fun i x hx => by rw [List.getD_eq_getElem?_getD, hx]; rfl
      refine ⟨E, _, rfl, .inl ⟨.inl (.inl h2'), fun b hb => ?_⟩⟩
      have e3 := e2.trans (Same.new (o := .tup ((r'.2.map cd).map nv)) hb)
      have hbD : b ≠ D := fun z => by
        rw [z, e2 _ _ hDa] at hb
        cases hb
      refine ⟨_, e3 _ _ hDa, by rw [List.length_map]; omega, Same.mut (e14.trans e3) hD, as ++ [b], by rw [upd_same, List.map_append]; rfl, by rw [List.length_append, hal]; rfl, fun j b' ps h3 h4 => ?_⟩
      rcases Nat.lt_or_ge j as.length with z | z
      · rw [List.getElem?_append_left z] at h3
        obtain ⟨v1, v2⟩ := hab j b' ps h3 h4
        refine ⟨?_, v2⟩
        rw [upd_ne v2]
        exact e3 _ _ v1
      · rw [List.getElem?_append_right z] at h3
        have hj0 : j = i := by
          have := (List.getElem?_eq_some_iff.mp h3).1
          simp only [List.length_cons, List.length_nil] at this
          omega
        subst hj0
        rw [hal, Nat.sub_self] at h3
        cases h3
        unfold partsOf at h4
        rw [List.getElem?_map, hr'] at h4
        cases h4
        refine ⟨?_, hbD⟩
        rw [upd_ne hbD]
        exact upd_same
  obtain ⟨e14, as, hDa, hal, hab⟩ := pv
  rw [List.length_map] at hal
  have nDs : D ≠ s := fun z => by
    rw [z, s13] at hD
    cases hD
  have s14 := e14 _ _ s13
  have m14 := mi_same (s := s) e14
  have D14 : mi s H14 D = some (.lst (as.map V.ref)) := by
    rw [mi_ne nDs]
    exact hDa
  have hpl : (partsOf cd rs).length = rs.length := List.length_map ..
  have rows14 : RowsL K H14 D (partsOf cd rs) := ⟨as, hDa, by omega, fun j b ps h1 h2 => .inl (.inl (hab j b ps h1 h2).1)⟩
  have p14 := m14 _ _ f13
  have g14 := m14 _ _ g13
  have r14 := m14 _ _ r13
  have m0_14 := m0_13.trans m14
  have t14 := m14 _ _ (m13 _ _ (m11 _ _ t8))
  have gdl : ((groupsOf rs).map V.str).length = (groupsOf rs).length := List.length_map ..
  have hdl : (headsOf cd toks.length rs).length = rs.length := List.length_map ..
  -- no rule is useless
  refine ⟨_, rfl, _, rfl, s, dx, _, .ref g, rfl, s14, rfl, g, _, rfl, .inr (.inl (.inl (mi_le s H14 _ _ g14))), _, rfl, s, dx, _, .ref p, rfl, s14, rfl, _, rfl, ?_⟩
  refine ⟨toks.length, (groupsOf rs).length, p, D, headsOf cd toks.length rs, partsOf cd rs, ?_, .inl (.inl (mi_le s H14 _ _ p14)), rows14, ok.ok, ok.gpos, ok.us, fun Du H15 e15 d15 => ⟨false, .inl ⟨[], .inl (.inl d15), rfl⟩, ?_⟩⟩
  · rw [gdl]
    rfl
  refine iteF ?_
  dsimp only [tNext]
  have s15 := e15 _ _ s14
  have m15 := mi_same (s := s) e15
  have D15 := m15 _ _ D14
  have g15 := m15 _ _ g14
  have p15 := m15 _ _ p14
  have r15 := m15 _ _ r14
  have t15 := m15 _ _ t14
  have m0_15 := m0_14.trans m15
  have rows15 : ∀ (j : Nat) (b : Addr) (ps : List Nat), as[j]? = some b → (partsOf cd rs)[j]? = some ps → mi s H15 b = some (.tup (ps.map nv)) := fun j b ps h1 h2 => by
    have v := (hab j b ps h1 h2).1
    have nb : b ≠ s := fun z => by
      rw [z, s14] at v
      cases v
    exact m15 _ _ (by rw [mi_ne nb]; exact v)
  clear e15
  -- parts
  refine sF_tupN (R := fun xs H' => ∃ z : Addr, xs = (as ++ [z]).map V.ref ∧ mi s H' z = some (.tup [nv toks.length])) ?_ s15 ?_ ?_ fun pp H16 H17 xs e16 hxs s17 m17 f17 => ?_
  · rfl
  · exact (show 5 < 1000 by decide)
  · intro Q q
    refine ⟨_, rfl, _, rfl, (show 1 ≤ sizeLine by decide), fun z hz => ⟨(show 1 ≤ sizeLine by decide), fun l hl => ?_⟩⟩
    have e1 := Same.new (o := .tup [nv toks.length]) hz
    have e2 := Same.new (o := .lst [.ref z]) hl
    refine ⟨D, l, _, _, rfl, rfl, (e1.trans e2) _ _ (mi_le s H15 _ _ D15), upd_same, by rw [List.length_map]; show _ + 1 ≤ _; omega, fun l2 hl2 => ?_⟩
    have e3 := Same.new (o := .lst (as.map V.ref ++ [.ref z])) hl2
    refine q l2 _ _ ((e1.trans e2).trans e3) upd_same ⟨z, by rw [List.map_append]; rfl, ?_⟩
    exact mi_new s15 hz ((e2.trans e3) _ _ upd_same)
  obtain ⟨z, rfl, hz⟩ := hxs
  have s17 : H17 s = some (.ins (He.ga K "Grammar") dx ((grF t r g c p pp 0 0).take 6)) := s17
  have m17' := (mi_same (s := s) e16).trans m17
  have m0_17 := m0_15.trans m17'
  have rowsP : RowsAt K (mi s H17) pp (partsOf cd rs ++ [[toks.length]]) := by
    refine ⟨as ++ [z], .inl (.inl f17), by rw [List.length_append, List.length_append, hpl, hal, hql]; rfl, fun j b ps h1 h2 => .inl (.inl ?_)⟩
    rcases Nat.lt_or_ge j as.length with y | y
    · rw [List.getElem?_append_left y] at h1
      rw [List.getElem?_append_left (by omega)] at h2
      exact m17' _ _ (rows15 j b ps h1 h2)
    · rw [List.getElem?_append_right y] at h1
      rw [List.getElem?_append_right (by omega)] at h2
      have hj0 : j - as.length = 0 := by
        have := (List.getElem?_eq_some_iff.mp h1).1
        simp only [List.length_cons, List.length_nil] at this
        omega
      rw [hj0] at h1
      rw [show j - (partsOf cd rs).length = 0 by omega] at h2
      cases h1
      cases h2
      exact m17 _ _ hz
  have g17 := m17' _ _ g15
  have p17 := m17' _ _ p15
  have r17 := m17' _ _ r15
  have t17 := m17' _ _ t15
  clear e16 m17
  -- rules_of
  refine sF_tupN (R := fun _ _ => True) ?_ s17 ?_ ?_ fun ro H18 H19 xs e18 _ s19 m19 f19 => ?_
  · rfl
  · exact (show 6 < 1000 by decide)
  · intro Q q
    refine ⟨_, rfl, s, dx, _, .ref g, rfl, s17, rfl, g, _, rfl, .inr (.inl (.inl (mi_le s H17 _ _ g17))), _, rfl, by omega, by omega, fun W hW => ?_⟩
    rw [Int.toNat_natCast, gdl]
    refine comp_it walk_range (fun i H' => Same H17 H' ∧ ∃ xs, H' W = some (.lst xs) ∧ xs.length = i) ⟨Same.new hW, [], upd_same, rfl⟩ (fun _ _ _ _ => trivial) (fun i x Ha Hb hi pv y => ?_) (fun H' pv => ?_)
    · obtain ⟨e18, xs, hx, hxl⟩ := pv
      obtain ⟨rfl, rfl⟩ := y
      refine ⟨rfl, yes_goH ⟨_, rfl, s, dx, _, .ref p, rfl, e18 _ _ s17, rfl, _, rfl, p, i, headsOf cd toks.length rs, ?_, .inl (.inl (e18 _ _ (mi_le s H17 _ _ p17))), ok.ok.few, fun b H20 e20 _ => ⟨_, e20 _ _ hx, by omega, Same.mut (e18.trans e20) hW, _, upd_same, by rw [List.length_append, hxl]; rfl⟩⟩⟩
      show [V.ref p, V.int (0 + (i : Nat))] = _
      rw [Int.zero_add]
    · obtain ⟨e18, xs, hx, hxl⟩ := pv
      exact q W H' xs e18 hx trivial
  have s19 : H19 s = some (.ins (He.ga K "Grammar") dx ((grF t r g c p pp ro 0).take 7)) := s19
  have m19' := (mi_same (s := s) e18).trans m19
  have m0_19 := m0_17.trans m19'
  have g19 := m19' _ _ g17
  have p19 := m19' _ _ p17
  have r19 := m19' _ _ r17
  have t19 := m19' _ _ t17
  have rows19 := rowsP.same m19'
  clear e18 m19 f19
  -- the beginnings
  refine ⟨_, rfl, _, rfl, s, dx, _, .ref g, rfl, s19, rfl, g, _, rfl, .inr (.inl (.inl (mi_le s H19 _ _ g19))), _, rfl, s, dx, _, .ref p, rfl, s19, rfl, _, rfl, s, dx, _, .ref pp, rfl, s19, rfl, fun bg dxb hbg hdb hne => ?_⟩
  have nbs : s ≠ bg := ne_of_none s19 hbg
  refine ⟨bg, dxb, p, pp, toks.length, (groupsOf rs).length, headsOf cd toks.length rs, partsOf cd rs ++ [[toks.length]], H19, ?_, upd_same, Same.mut (Same.new hdb) hbg, hbg, .inl (.inl (mi_le s H19 _ _ p19)), rows19.same (mi_le s H19), g64, hcnt, by rw [List.length_append, hpl]; show _ + 1 ≤ _; omega, ok.ok.hd, fun ps hps => ?_, fun H20 e20 => ⟨rfl, ?_⟩⟩
  · rw [gdl]
    rfl
  · rcases List.mem_append.mp hps with y | y
    · refine ⟨?_, ok.ok.pl ps y, ok.ok.cd ps y⟩
      obtain ⟨r', hr', rfl⟩ := List.mem_map.mp y
      obtain ⟨_, _, _, _, _, o6⟩ := ok.rok r' hr'
      exact fun z => o6 (List.map_eq_nil_iff.mp z)
    · rw [List.mem_singleton.mp y]
      have gp := ok.gpos
      exact ⟨by simp, (show 1 < 64 by decide), fun c hc => by rw [List.mem_singleton.mp hc]; omega⟩
  have s20 := e20 _ _ s19
  have m20 := mi_same (s := s) e20
  refine ⟨_, rfl, sF_go (F' := (grF t r g c p pp ro bg).take 8) s20 (show 7 < 1000 by decide) rfl fun H21 s21 q21 => ?_⟩
  refine ⟨_, rfl, sF_go (F' := grF t r g c p pp ro bg) s21 (show 8 < 1000 by decide) rfl fun H22 s22 q22 => ?_⟩
  have mF : Same (mi s H19) (mi s H22) := by
    rw [q22, q21]
    exact m20
  have lF := mi_le s H22
  refine q H22 ((m0_19.trans mF).trans lF) ⟨dx, _, s22, ⟨t, _, rfl, .inl (.inl (lF _ _ (mF _ _ t19))), List.length_map ..⟩, ⟨r, _, rfl, .inl (.inl (lF _ _ (mF _ _ r19))), by rw [List.length_map]; exact hql⟩, ⟨g, _, rfl, .inl (.inl (lF _ _ (mF _ _ g19))), gdl⟩, ⟨p, rfl, .inl (.inl (lF _ _ (mF _ _ p19)))⟩, ⟨pp, rfl, (rows19.same mF).same lF⟩⟩
end M

/-! text: P26 -/
set_option Elab.async false
set_option linter.all false
set_option maxRecDepth 100000
set_option maxHeartbeats 4000000
namespace M
open PySem PySem.Spec PyProof.Rows L2
/-! ### the law's box -/
def BoxO (H : Hp) (B g : Addr) : Prop := ∃ (sd c n : Int) (i : Nat) (gs : List Int), H B = some (.lst [.int sd, .ref g, nv i, .int c, .int n]) ∧ H g = some (.lst (gs.map V.int)) ∧ g ≠ B ∧ i ≤ gs.length ∧ 0 ≤ c ∧ 0 ≤ n ∧ 0 ≤ sd ∧ sd < 2147483647 ∧ ∀ x ∈ gs, 0 ≤ x
theorem BoxO.ne {H : Hp} {B g : Addr} (h : BoxO H B g) : ∃ xs, H B = some (.lst xs) := by
  obtain ⟨sd, c, n, i, gs, h, _⟩ := h
  exact ⟨_, h⟩
theorem BoxO.same {H H' : Hp} {B g : Addr} (h : BoxO H B g) (e : Same H H') : BoxO H' B g := by
  obtain ⟨sd, c, n, i, gs, h1, h2, r⟩ := h
  exact ⟨sd, c, n, i, gs, e _ _ h1, e _ _ h2, r⟩
def sp_law_box (K : PySem.W.Frag) : Sp := fun vs H Q _ => ∃ (a : Addr) (ns : List Int), vs = [.ref a] ∧ SqL K H a (ns.map V.int) ∧ ns.length ≤ 1000 ∧ ∀ B g H', Same H H' → H B = none → H g = none → BoxO H' B g → Q (.ref B) H'
theorem len_law_box {K : PySem.W.Frag} (vs : List V) (H : Hp) (Q : VK) (E : XK) (h : sp_law_box K vs H Q E) : vs.length = 1 := by
  obtain ⟨a, ns, rfl, _⟩ := h
  rfl
abbrev N_law_box : List Str := ["script", "seed", "great", "cell"]
def t_law_box (K : PySem.W.Frag) (P : Program) (w : World) : TS :=
  (tSeq (tAsg (tC (.int 7)) (gName 1))
    (tSeq (tAsg (tLst tNil) (gName 2))
    (tSeq (tFor (iSeq K (tVar 0)) (gName 3) (tSeq (tIfS (tTest (tOp rGeI (tVar 3) (tC (.int 1000000000000000000)))) (tDrop (tBM K "list" rAppend (tVar 2) (tCons (tVar 3) tNil))) tNext)
    (tAsg (tOp rModI (tCB rInt1 (tCons (tOp rAddI (tOp rAddI (tOp rMulI (tVar 1) (tC (.int 48271))) (tOp rModI (tCB rInt1 (tCons (tVar 3) tNil)) (tC (.int 2147483629)))) (tC (.int 12345))) tNil)) (tC (.int 2147483647))) (gName 1))))
    (tRet (tLst (tCons (tVar 1) (tCons (tVar 2) (tCons (tC (.int 0)) (tCons (tC (.int 0)) (tCons (tC (.int 0)) tNil))))))))))
theorem pure_law_box {K : PySem.W.Frag} {P : Program} {w : World} (vs : List V) (H : Hp) (Q : VK) (E : XK) (h : sp_law_box K vs H Q E) : t_law_box K P w { nx := fun _ H' => Q .non H', rt := Q } (start N_law_box vs) H := by
  obtain ⟨a, ns, rfl, hS, hz, q⟩ := h
  have hq : Sq K true H a (ns.map V.int) := hS
  refine ⟨by decide, fun G hG => ⟨_, rfl, a, true, _, rfl, (Same.new hG).sq hq, ?_⟩⟩
  refine for_it (walk_sq (b := true) (xs := ns.map V.int)) (fun i σ H1 => (∃ (v3 : Option V) (sd : Int) , σ = [some (.ref a), some (.int sd), some (.ref G), v3] ∧ 0 ≤ sd ∧ sd < 2147483647) ∧ Same H H1 ∧ ∃ gs : List Int, H1 G = some (.lst (gs.map V.int)) ∧ gs.length ≤ i ∧ ∀ x ∈ gs, 0 ≤ x)
    ⟨⟨none, 7, rfl, by decide, by decide⟩, Same.new hG, [], upd_same, Nat.le_refl _, fun x z => nomatch z⟩ (fun i σ H1 _ pv => pv.2.1.sq hq) (fun i x σ H1 H2 hi pv y => ?_) (fun σ H1 pv => ?_)
  · obtain ⟨⟨v3, sd, rfl, s1, s2⟩, e1, gs, hg, hgl, hgn⟩ := pv
    obtain ⟨rfl, hx⟩ := y
    rw [List.getElem?_map] at hx
    obtain ⟨c, hc, rfl⟩ := Option.map_eq_some_iff.mp hx
    have hi2 : i < 1000 := by rw [List.length_map] at hi; omega
    have seed : ∀ (gs' : List Int) (H3 : Hp), Same H H3 → H3 G = some (.lst (gs'.map V.int)) → gs'.length ≤ i + 1 → (∀ x ∈ gs', 0 ≤ x) →
        (tAsg (tOp rModI (tCB rInt1 (tCons (tOp rAddI (tOp rAddI (tOp rMulI (tVar 1) (tC (.int 48271))) (tOp rModI (tCB rInt1 (tCons (tVar 3) tNil)) (tC (.int 2147483629)))) (tC (.int 12345))) tNil)) (tC (.int 2147483647))) (gName 1))
        { nx := fun σ H1 => (∃ (v3 : Option V) (sd : Int) , σ = [some (.ref a), some (.int sd), some (.ref G), v3] ∧ 0 ≤ sd ∧ sd < 2147483647) ∧ Same H H1 ∧ ∃ gs : List Int, H1 G = some (.lst (gs.map V.int)) ∧ gs.length ≤ i + 1 ∧ ∀ x ∈ gs, 0 ≤ x, rt := Q } [some (.ref a), some (.int sd), some (.ref G), some (.int c)] H3 := by
      intro gs' H3 e3 hg3 hl3 hn3
      refine ⟨_, rfl, _, _, rfl, rfl, .inl ⟨by omega, by omega⟩, _, rfl, .inl ⟨_, rfl, _, _, rfl, rfl, (show (0 : Int) < 2147483629 by decide), _, _, rfl, rfl, _, _, rfl, rfl, .inl ⟨_, rfl, _, _, rfl, rfl, (show (0 : Int) < 2147483647 by decide), ?_⟩⟩⟩
      exact ⟨⟨_, _, rfl, Int.emod_nonneg _ (by decide), Int.emod_lt_of_pos _ (by decide)⟩, e3, gs', hg3, hl3, hn3⟩
    refine ⟨_, rfl, _, _, rfl, rfl, _, rfl, ?_⟩
    by_cases z : (1000000000000000000 : Int) ≤ c
    · rw [decide_eq_true z]
      refine ⟨_, rfl, .inl ⟨rfl, _, .inl (.inl hg)⟩, _, rfl, G, _, _, rfl, rfl, hg, by rw [List.length_map, sizeLine_eq]; omega, ?_⟩
      refine seed (gs ++ [c]) _ (Same.mut e1 hG) (by rw [upd_same, List.map_append]; rfl) (by rw [List.length_append]; show _ + 1 ≤ _; omega) fun x hx => ?_
      rcases List.mem_append.mp hx with y | y
      · exact hgn x y
      · rw [List.mem_singleton.mp y]
        omega
    · rw [decide_eq_false z]
      exact seed gs _ e1 hg (by omega) hgn
  · obtain ⟨⟨v3, sd, rfl, s1, s2⟩, e1, gs, hg, hgl, hgn⟩ := pv
    refine ⟨_, rfl, _, rfl, (show 5 ≤ sizeLine by decide), fun B hB => ?_⟩
    have e2 := Same.new (o := .lst [.int sd, .ref G, .int 0, .int 0, .int 0]) hB
    exact q B G _ (e1.trans e2) (e1.fresh hB) hG ⟨sd, 0, 0, 0, gs, upd_same, e2 _ _ hg, ne_of_none hg hB, Nat.zero_le _, by omega, by omega, s1, s2, hgn⟩
def sp_law_draw (K : PySem.W.Frag) : Sp := fun vs H Q _ => ∃ (B g : Addr) (m : Nat), vs = [.ref B, nv m] ∧ 1 ≤ m ∧ m ≤ 1000000 ∧ BoxO H B g ∧ ∀ (v : Nat) H', v < m → BoxO H' B g → But [B] H H' → Q (nv v) H'
theorem len_law_draw {K : PySem.W.Frag} (vs : List V) (H : Hp) (Q : VK) (E : XK) (h : sp_law_draw K vs H Q E) : vs.length = 2 := by
  obtain ⟨B, g, m, rfl, _⟩ := h
  rfl
abbrev N_law_draw : List Str := ["box", "many", "mixed", "told"]
def t_law_draw (K : PySem.W.Frag) (P : Program) (w : World) : TS :=
  (C8.tCut (tIfS (tAnd (tTest (tOp rEq (tOp (rIxL K) (tVar 0) (tC (.int 4))) (tC (.int 0)))) (tTest (tOp rLtI (tOp (rIxL K) (tVar 0) (tC (.int 2))) (tCB (rLenSeq K) (tCons (tOp (rIxL K) (tVar 0) (tC (.int 1))) tNil))))) (tSeq (tAsg (tOp (rIxL K) (tOp (rIxL K) (tVar 0) (tC (.int 1))) (tOp (rIxL K) (tVar 0) (tC (.int 2)))) (gSub (tVar 0) (tC (.int 3)) rSetL))
    (tSeq (tAsg (tOp rAddI (tOp (rIxL K) (tVar 0) (tC (.int 2))) (tC (.int 1))) (gSub (tVar 0) (tC (.int 2)) rSetL))
    (tAsg (tC (.int 60)) (gSub (tVar 0) (tC (.int 4)) rSetL)))) tNext)
    (tSeq (tIfS (tTest (tOp rGtI (tOp (rIxL K) (tVar 0) (tC (.int 4))) (tC (.int 0)))) (tSeq (tAsg (tOp rModI (tCB rInt1 (tCons (tOp (rIxL K) (tVar 0) (tC (.int 3))) tNil)) (tVar 1)) (gName 3))
    (tSeq (tAsg (tOp rDivI (tOp (rIxL K) (tVar 0) (tC (.int 3))) (tVar 1)) (gSub (tVar 0) (tC (.int 3)) rSetL))
    (tSeq (tAsg (tOp rSubI (tOp (rIxL K) (tVar 0) (tC (.int 4))) (tC (.int 1))) (gSub (tVar 0) (tC (.int 4)) rSetL))
    (tSeq (tIfS (tTest (tOp rEq (tOp (rIxL K) (tVar 0) (tC (.int 3))) (tC (.int 0)))) (tAsg (tC (.int 0)) (gSub (tVar 0) (tC (.int 4)) rSetL)) tNext)
    (tRet (tVar 3)))))) tNext)
    (tSeq (tAsg (tOp rModI (tCB rInt1 (tCons (tOp rAddI (tOp rMulI (tOp (rIxL K) (tVar 0) (tC (.int 0))) (tC (.int 48271))) (tC (.int 69621))) tNil)) (tC (.int 2147483647))) (gSub (tVar 0) (tC (.int 0)) rSetL))
    (tSeq (tAsg (tOp rModI (tCB rInt1 (tCons (tOp rMulI (tOp rDivI (tOp (rIxL K) (tVar 0) (tC (.int 0))) (tC (.int 16))) (tOp rAddI (tOp rDivI (tOp (rIxL K) (tVar 0) (tC (.int 0))) (tC (.int 4096))) (tC (.int 3)))) tNil)) (tC (.int 2147483629))) (gName 2))
    (tRet (tOp rModI (tCB rInt1 (tCons (tOp rDivI (tVar 2) (tC (.int 8))) tNil)) (tVar 1)))))))
theorem pure_law_draw {K : PySem.W.Frag} {P : Program} {w : World} (vs : List V) (H : Hp) (Q : VK) (E : XK) (h : sp_law_draw K vs H Q E) : t_law_draw K P w { nx := fun _ H' => Q .non H', rt := Q } (start N_law_draw vs) H := by
  obtain ⟨B, g, m, rfl, m1, m2, hB, q⟩ := h
  refine ⟨fun σ H1 => σ = start N_law_draw [.ref B, nv m] ∧ BoxO H1 B g ∧ But [B] H H1, ?_, fun σ H1 pv => ?_⟩
  · obtain ⟨sd, c, n, i, gs, h1, h2, ngB, h3, h4, h5, h6, h7, h8⟩ := id hB
    refine ⟨_, rfl, B, _, 4, .int n, rfl, rfl, .inl (.inl h1), rfl, rfl, _, rfl, ?_⟩
    by_cases z : n = 0
    · subst z
      rw [decide_eq_true rfl]
      refine ⟨_, rfl, B, _, 2, nv i, rfl, rfl, .inl (.inl h1), rfl, _, rfl, B, _, 1, .ref g, rfl, rfl, .inl (.inl h1), rfl, g, _, rfl, .inl (.inl (.inl h2)), _, _, rfl, rfl, _, rfl, ?_⟩
      rw [List.length_map]
      by_cases y : i < gs.length
      · rw [decide_eq_true (show (i : Int) < (gs.length : Nat) by omega)]
        have hgi : gs[i]? = some gs[i] := List.getElem?_eq_getElem y
        have hx0 := h8 _ (List.getElem_mem y)
        generalize gs[i] = x at hgi hx0
        have hat : atI (gs.map V.int) (i : Int) = some (.int x) := atI_nat (by rw [List.getElem?_map, hgi]; rfl)
        refine ⟨_, rfl, B, _, 1, .ref g, rfl, rfl, .inl (.inl h1), rfl, _, rfl, B, _, 2, nv i, rfl, rfl, .inl (.inl h1), rfl, g, _, _, .int x, rfl, rfl, .inl (.inl h2), hat, _, rfl, B, _, 3, 3, rfl, rfl, h1, rfl, ?_⟩
        have b1 : But [B] H (upd H B (.lst [.int sd, .ref g, nv i, .int x, .int 0])) := (But.refl _ H).put (by simp)
        have s1 : (upd H B (.lst [.int sd, .ref g, nv i, .int x, .int 0])) B = some (.lst [.int sd, .ref g, nv i, .int x, .int 0]) := upd_same
        show tSeq _ _ _ _ (upd H B (.lst [.int sd, .ref g, nv i, .int x, .int 0]))
        generalize upd H B (.lst [.int sd, .ref g, nv i, .int x, .int 0]) = H1 at b1 s1
        refine ⟨_, rfl, B, _, 2, nv i, rfl, rfl, .inl (.inl s1), rfl, _, _, rfl, rfl, _, rfl, B, _, 2, 2, rfl, rfl, s1, rfl, ?_⟩
        have b2 : But [B] H (upd H1 B (.lst [.int sd, .ref g, .int ((i : Int) + 1), .int x, .int 0])) := b1.put (by simp)
        have s2 : (upd H1 B (.lst [.int sd, .ref g, .int ((i : Int) + 1), .int x, .int 0])) B = some (.lst [.int sd, .ref g, .int ((i : Int) + 1), .int x, .int 0]) := upd_same
        show (tAsg (tC (.int 60)) (gSub (tVar 0) (tC (.int 4)) rSetL)) _ _ (upd H1 B (.lst [.int sd, .ref g, .int ((i : Int) + 1), .int x, .int 0]))
        generalize upd H1 B (.lst [.int sd, .ref g, .int ((i : Int) + 1), .int x, .int 0]) = H2 at b2 s2
        refine ⟨_, rfl, B, _, 4, 4, rfl, rfl, s2, rfl, rfl, ⟨sd, x, 60, i + 1, gs, upd_same, ?_, ngB, y, hx0, by decide, h6, h7, h8⟩, b2.put (by simp)⟩
        rw [upd_ne ngB]
        exact b2 _ _ h2 (by simpa using ngB)
      · rw [decide_eq_false (show ¬ (i : Int) < (gs.length : Nat) by omega)]
        exact ⟨rfl, hB, But.refl _ H⟩
    · rw [decide_eq_false (fun e => z (V.int.inj e))]
      exact ⟨rfl, hB, But.refl _ H⟩
  · obtain ⟨rfl, ⟨sd, c, n, i, gs, h1, h2, ngB, h3, h4, h5, h6, h7, h8⟩, bt⟩ := pv
    have mB : B ∈ [B] := by simp
    have ngm : g ∉ [B] := by simpa using ngB
    refine ⟨_, rfl, B, _, 4, .int n, rfl, rfl, .inl (.inl h1), rfl, _, _, rfl, rfl, _, rfl, ?_⟩
    by_cases z : 0 < n
    · rw [decide_eq_true z]
      refine ⟨_, rfl, B, _, 3, .int c, rfl, rfl, .inl (.inl h1), rfl, .inl ⟨_, rfl, _, rfl, _, _, rfl, rfl, (show (0 : Int) < m by omega), ?_⟩⟩
      refine ⟨_, rfl, B, _, 3, .int c, rfl, rfl, .inl (.inl h1), rfl, _, rfl, _, _, rfl, rfl, ⟨by omega, by omega⟩, _, rfl, B, _, 3, 3, rfl, rfl, h1, rfl, ?_⟩
      have b1 : But [B] H (upd H1 B (.lst [.int sd, .ref g, nv i, .int (c / m), .int n])) := bt.put mB
      have s1 : (upd H1 B (.lst [.int sd, .ref g, nv i, .int (c / m), .int n])) B = some (.lst [.int sd, .ref g, nv i, .int (c / m), .int n]) := upd_same
      have g1 : (upd H1 B (.lst [.int sd, .ref g, nv i, .int (c / m), .int n])) g = some (.lst (gs.map V.int)) := by
        rw [upd_ne ngB]
        exact h2
      show tSeq _ _ _ _ (upd H1 B (.lst [.int sd, .ref g, nv i, .int (c / m), .int n]))
      generalize upd H1 B (.lst [.int sd, .ref g, nv i, .int (c / m), .int n]) = H2 at b1 s1 g1
      refine ⟨_, rfl, B, _, 4, .int n, rfl, rfl, .inl (.inl s1), rfl, _, _, rfl, rfl, _, rfl, B, _, 4, 4, rfl, rfl, s1, rfl, ?_⟩
      have b2 : But [B] H (upd H2 B (.lst [.int sd, .ref g, nv i, .int (c / m), .int (n - 1)])) := b1.put mB
      have s2 : (upd H2 B (.lst [.int sd, .ref g, nv i, .int (c / m), .int (n - 1)])) B = some (.lst [.int sd, .ref g, nv i, .int (c / m), .int (n - 1)]) := upd_same
      have g2 : (upd H2 B (.lst [.int sd, .ref g, nv i, .int (c / m), .int (n - 1)])) g = some (.lst (gs.map V.int)) := by
        rw [upd_ne ngB]
        exact g1
      show tSeq _ _ _ _ (upd H2 B (.lst [.int sd, .ref g, nv i, .int (c / m), .int (n - 1)]))
      generalize upd H2 B (.lst [.int sd, .ref g, nv i, .int (c / m), .int (n - 1)]) = H3 at b2 s2 g2
      have cd0 : 0 ≤ c / (m : Int) := Int.ediv_nonneg h4 (by omega)
      have vm : c % (m : Int) = ((c % (m : Int)).toNat : Int) := by
        have := Int.emod_nonneg c (show (m : Int) ≠ 0 by omega)
        omega
      have vlt : (c % (m : Int)).toNat < m := by
        have := Int.emod_lt_of_pos c (show (0 : Int) < m by omega)
        have := Int.emod_nonneg c (show (m : Int) ≠ 0 by omega)
        omega
      refine ⟨_, rfl, B, _, 3, .int (c / m), rfl, rfl, .inl (.inl s2), rfl, rfl, _, rfl, ?_⟩
      by_cases y : (V.int (c / (m : Int))) = V.int 0
      · rw [decide_eq_true y]
        refine ⟨_, rfl, B, _, 4, 4, rfl, rfl, s2, rfl, ?_⟩
        refine ⟨_, rfl, q_to (q _ _ vlt ⟨sd, c / m, 0, i, gs, upd_same, by rw [upd_ne ngB]; exact g2, ngB, h3, cd0, by decide, h6, h7, h8⟩ (b2.put mB)) (congrArg V.int vm.symm)⟩
      · rw [decide_eq_false y]
        exact ⟨_, rfl, q_to (q _ _ vlt ⟨sd, c / m, n - 1, i, gs, s2, g2, ngB, h3, cd0, by omega, h6, h7, h8⟩ b2) (congrArg V.int vm.symm)⟩
    · rw [decide_eq_false z]
      have sx : 0 ≤ (sd * 48271 + 69621) % 2147483647 ∧ (sd * 48271 + 69621) % 2147483647 < 2147483647 := ⟨Int.emod_nonneg _ (by decide), Int.emod_lt_of_pos _ (by decide)⟩
      refine ⟨_, rfl, B, _, 0, .int sd, rfl, rfl, .inl (.inl h1), rfl, _, _, rfl, rfl, .inl ⟨by omega, by omega⟩, _, _, rfl, rfl, .inl ⟨_, rfl, _, _, rfl, rfl, (show (0 : Int) < 2147483647 by decide), _, rfl, B, _, 0, 0, rfl, rfl, h1, rfl, ?_⟩⟩
      obtain ⟨sn, hsn⟩ : ∃ sn, sn = (sd * 48271 + 69621) % 2147483647 := ⟨_, rfl⟩
      rw [← hsn] at sx
      have b1 : But [B] H (upd H1 B (.lst [.int sn, .ref g, nv i, .int c, .int n])) := bt.put mB
      have s1 : (upd H1 B (.lst [.int sn, .ref g, nv i, .int c, .int n])) B = some (.lst [.int sn, .ref g, nv i, .int c, .int n]) := upd_same
      have g1 : (upd H1 B (.lst [.int sn, .ref g, nv i, .int c, .int n])) g = some (.lst (gs.map V.int)) := by
        rw [upd_ne ngB]
        exact h2
      show tSeq _ _ _ _ (upd H1 B (.lst [.int ((sd * 48271 + 69621) % 2147483647), .ref g, nv i, .int c, .int n]))
      rw [← hsn]
      generalize upd H1 B (.lst [.int sn, .ref g, nv i, .int c, .int n]) = H2 at b1 s1 g1
      have d1 : 0 ≤ sn / 16 := Int.ediv_nonneg sx.1 (by decide)
      have d2 : sn / 16 < 2147483647 := by omega
      refine ⟨_, rfl, B, _, 0, .int sn, rfl, rfl, .inl (.inl s1), rfl, _, _, rfl, rfl, ⟨by decide, by decide⟩, _, rfl, B, _, 0, .int sn, rfl, rfl, .inl (.inl s1), rfl, _, _, rfl, rfl, ⟨by decide, by decide⟩, _, _, rfl, rfl, _, _, rfl, rfl, .inl ⟨by omega, by omega⟩, .inl ⟨_, rfl, _, _, rfl, rfl, (show (0 : Int) < 2147483629 by decide), ?_⟩⟩
      refine ⟨_, rfl, _, _, rfl, rfl, ⟨by decide, by decide⟩, .inl ⟨_, rfl, _, rfl, _, _, rfl, rfl, (show (0 : Int) < m by omega), ?_⟩⟩
      obtain ⟨u, hu⟩ : ∃ u, u = (sn / 16 * (sn / 4096 + 3)) % 2147483629 / 8 := ⟨_, rfl⟩
      have vm : u % (m : Int) = ((u % (m : Int)).toNat : Int) := by
        have := Int.emod_nonneg u (show (m : Int) ≠ 0 by omega)
        omega
      have vlt : (u % (m : Int)).toNat < m := by
        have := Int.emod_lt_of_pos u (show (0 : Int) < m by omega)
        have := Int.emod_nonneg u (show (m : Int) ≠ 0 by omega)
        omega
      refine q_to (q _ _ vlt ⟨sn, c, n, i, gs, s1, g1, ngB, h3, h4, h5, sx.1, sx.2, h8⟩ b1) ?_
      show nv _ = V.int ((sn / 16 * (sn / 4096 + 3)) % 2147483629 / 8 % (m : Int))
      rw [← hu, vm]
      rfl
end M

/-! text: P27 -/
set_option Elab.async false
set_option linter.all false
set_option maxRecDepth 100000
set_option maxHeartbeats 4000000
namespace M
open PySem PySem.Spec PyProof.Rows L2
/-! ### law_same: two ints -/
def sp_law_same (K : PySem.W.Frag) : Sp := fun vs H Q _ => ∃ u d : Int, vs = [.int u, .int d] ∧ Q (.bl (decide (u = d))) H
theorem len_law_same {K : PySem.W.Frag} (vs : List V) (H : Hp) (Q : VK) (E : XK) (h : sp_law_same K vs H Q E) : vs.length = 2 := by
  obtain ⟨u, d, rfl, _⟩ := h
  rfl
abbrev N_law_same : List Str := ["told", "due", "k"]
def t_law_same (K : PySem.W.Frag) (P : Program) (w : World) : TS :=
  (tSeq (tIfS (tB (tCB rIs1 (tCons (tVar 1) (tCons (tC (.ty "tuple")) tNil)))) tNever tNext)
    (tSeq (tIfS (tB (tCB rIs1 (tCons (tVar 1) (tCons (tC (.ty "bool")) tNil)))) (tRet (tAndV (tCB rIs1 (tCons (tVar 0) (tCons (tC (.ty "bool")) tNil))) (tOp (rEqD K) (tVar 0) (tVar 1)))) tNext)
    (tSeq (tIfS (tB (tCB rIs1 (tCons (tVar 1) (tCons (tC (.ty "int")) tNil)))) (tRet (tAndV (tCB rIs1 (tCons (tVar 0) (tCons (tC (.ty "int")) tNil))) (tAndV (tNotV (tCB rIs1 (tCons (tVar 0) (tCons (tC (.ty "bool")) tNil)))) (tOp (rEqD K) (tVar 0) (tVar 1))))) tNext)
    (tSeq (tIfS (tB (tCB rIs1 (tCons (tVar 1) (tCons (tC (.ty "str")) tNil)))) (tRet (tAndV (tCB rIs1 (tCons (tVar 0) (tCons (tC (.ty "str")) tNil))) (tOp (rEqD K) (tVar 0) (tVar 1)))) tNext)
    (tRet (tOp rIsNon (tVar 0) (tC .non)))))))
theorem pure_law_same {K : PySem.W.Frag} {P : Program} {w : World} (vs : List V) (H : Hp) (Q : VK) (E : XK) (h : sp_law_same K vs H Q E) : t_law_same K P w { nx := fun _ H' => Q .non H', rt := Q } (start N_law_same vs) H := by
  obtain ⟨u, d, rfl, q⟩ := h
  refine ⟨_, rfl, _, "tuple", _, rfl, .int d, by decide, _, rfl, ?_⟩
  refine ⟨_, rfl, _, "bool", _, rfl, .int d, by decide, _, rfl, ?_⟩
  refine ⟨_, rfl, _, "int", _, rfl, .int d, by decide, _, rfl, ?_⟩
  refine ⟨_, rfl, _, "int", _, rfl, .int u, by decide, _, rfl, ?_⟩
  refine ⟨_, rfl, _, "bool", _, rfl, .int u, by decide, _, rfl, ?_⟩
  refine ⟨_, rfl, _, rfl, _, rfl, PyData.int u, PyData.int d, .int u, .int d, rfl, rfl, ?_⟩
  refine q_to q (congrArg V.bl ?_)
  show decide (u = d) = (u == d)
  exact Bool.eq_iff_iff.mpr (by simp)
/-! ### the costs of a token, two ways -/
theorem costI_pos (ns : List Nat) (b t : Nat) (h : b ≠ 0) : costI ns 0 b t = (b : Int) - 1 + (if t ∈ ns.take b then 0 else 1) := by
  unfold costI
  rw [if_neg (Ne.symm h), Nat.sub_zero, List.drop_zero]
  congr 1
  try omega
theorem costI_zero (ns : List Nat) (t : Nat) : costI ns 0 0 t = 1 := by
  unfold costI
  rw [if_pos rfl]
theorem costI_succ (ns : List Nat) (b t : Nat) (x : Nat) (h : ns[b]? = some x) : costI ns 0 (b + 1) t = min (min ((b : Int) + (if x = t then 0 else 1)) ((b : Int) + 2)) (costI ns 0 b t + 1) := by
  have M : t ∈ ns.take (b + 1) ↔ t ∈ ns.take b ∨ t = x := by
    rw [List.take_succ, h, List.mem_append]
    simp
  rw [costI_pos ns (b + 1) t (Nat.succ_ne_zero _)]
  by_cases z : x = t
  · rw [if_pos z, if_pos (M.mpr (.inr z.symm))]
    by_cases e : b = 0
    · subst e
      rw [costI_zero]
      omega
    · rw [costI_pos ns b t e]
      split <;> omega
  · rw [if_neg z]
    by_cases e : b = 0
    · subst e
      rw [costI_zero, if_neg (fun m => (M.mp m).elim (fun m => by simp at m) fun m => z m.symm)]
      omega
    · rw [costI_pos ns b t e]
      by_cases y : t ∈ ns.take b
      · rw [if_pos y, if_pos (M.mpr (.inl y))]
        omega
      · rw [if_neg y, if_neg (fun m => (M.mp m).elim y fun m => z m.symm)]
        omega
def sp_law_costs (K : PySem.W.Frag) : Sp := fun vs H Q _ => ∃ (r wd : Addr) (ns : List Nat) (t : Nat), vs = [.ref r, .ref wd] ∧ H r = some (.lst (ns.map nv)) ∧ H wd = some (.tup [nv t]) ∧ ns.length ≤ 1000 ∧
  ∀ p H', Same H H' → H' p = some (.lst ((List.range (ns.length + 1)).map fun b => .int (costI ns 0 b t))) → Q (.ref p) H'
theorem len_law_costs {K : PySem.W.Frag} (vs : List V) (H : Hp) (Q : VK) (E : XK) (h : sp_law_costs K vs H Q E) : vs.length = 2 := by
  obtain ⟨r, wd, ns, t, rfl, _⟩ := h
  rfl
abbrev N_law_costs : List Str := ["row", "word", "costs", "token", "newer", "b"]
def t_law_costs (K : PySem.W.Frag) (P : Program) (w : World) : TS :=
  (tSeq (tAsg (tLstRg (tRg1 (tOp rAddI (tCB (rLenSeq K) (tCons (tVar 0) tNil)) (tC (.int 1))))) (gName 2))
    (tSeq (tFor (iSeq K (tVar 1)) (gName 3) (tSeq (tAsg (tLst (tCons (tOp rAddI (tOp (rIxL K) (tVar 2) (tC (.int 0))) (tC (.int 1))) tNil)) (gName 4))
    (tSeq (tFor (iRng1 (tCons (tCB (rLenSeq K) (tCons (tVar 0) tNil)) tNil)) (gName 5) (tDrop (tBM K "list" rAppend (tVar 4) (tCons (tCB (rMin K) (tCons (tLst (tCons (tOp rAddI (tOp (rIxL K) (tVar 2) (tVar 5)) (tCB rInt1 (tCons (tOp rNe (tOp (rIxL K) (tVar 0) (tVar 5)) (tVar 3)) tNil))) (tCons (tOp rAddI (tOp (rIxL K) (tVar 2) (tOp rAddI (tVar 5) (tC (.int 1)))) (tC (.int 1))) (tCons (tOp rAddI (tOp (rIxL K) (tVar 4) (tVar 5)) (tC (.int 1))) tNil)))) tNil)) tNil))))
    (tAsg (tVar 4) (gName 2)))))
    (tRet (tVar 2))))
theorem pure_law_costs {K : PySem.W.Frag} {P : Program} {w : World} (vs : List V) (H : Hp) (Q : VK) (E : XK) (h : sp_law_costs K vs H Q E) : t_law_costs K P w { nx := fun _ H' => Q .non H', rt := Q } (start N_law_costs vs) H := by
  obtain ⟨r, wd, ns, t, rfl, hr, hw, hz, q⟩ := h
  have s24 := sizeLine_eq
  have hlen : (ns.map nv).length = ns.length := List.length_map ..
  refine ⟨_, rfl, r, _, rfl, .inl (.inl (.inl hr)), _, _, rfl, rfl, _, rfl, RgOk.of_le (by omega) (by omega) (by omega) (by omega), fun C hC => ?_⟩
  have e1 := Same.new (o := .lst (rgV 0 (((ns.map nv).length : Int) + 1))) hC
  have c1 : (upd H C (.lst (rgV 0 (((ns.map nv).length : Int) + 1)))) C = some (.lst (rgV 0 (((ns.map nv).length : Int) + 1))) := upd_same
  generalize upd H C (.lst (rgV 0 (((ns.map nv).length : Int) + 1))) = H1 at e1 c1
  have cat : ∀ b : Nat, b < ns.length + 1 → (rgV 0 (((ns.map nv).length : Int) + 1))[b]? = some (nv b) := fun b hb => by
    unfold rgV
    rw [List.getElem?_map, List.getElem?_range (by omega)]
    show some (V.int (0 + (b : Int))) = _
    rw [Int.zero_add]
  have hwq : Sq K false H wd [nv t] := .inl (.inl hw)
  refine ⟨_, rfl, wd, false, _, rfl, e1.sq hwq, ?_⟩
  refine for_it (walk_sq (b := false) (xs := [nv t])) (fun i σ H2 => Same H1 H2 ∧ ((i = 0 ∧ σ = [some (.ref r), some (.ref wd), some (.ref C), none, none, none]) ∨ (i = 1 ∧ ∃ p v3 v4 v5, σ = [some (.ref r), some (.ref wd), some (.ref p), v3, v4, v5] ∧ H2 p = some (.lst ((List.range (ns.length + 1)).map fun b => .int (costI ns 0 b t))))))
    ⟨Same.refl _, .inl ⟨rfl, rfl⟩⟩ (fun i σ H2 _ pv => (e1.trans pv.1).sq hwq) (fun i x σ H2 H3 hi pv y => ?_) (fun σ H2 pv => ?_)
  · have hi0 : i = 0 := by
      have : ([nv t] : List V).length = 1 := rfl
      omega
    subst hi0
    obtain ⟨e2, pv⟩ := pv
    rcases pv with ⟨_, rfl⟩ | ⟨f, _⟩
    · obtain ⟨rfl, hx⟩ := y
      cases hx
      have c2 := e2 _ _ c1
      have r2 := (e1.trans e2) _ _ hr
      have cz : (rgV 0 (((ns.map nv).length : Int) + 1))[0]? = some (nv 0) := cat 0 (by omega)
      refine ⟨_, rfl, C, _, 0, nv 0, rfl, rfl, .inl (.inl c2), atI_nat cz, _, _, rfl, rfl, (show 1 ≤ sizeLine by decide), fun W hW => ?_⟩
      have e3 := Same.new (o := .lst [V.int (((0 : Nat) : Int) + 1)]) hW
      have hW1 : H1 W = none := e2.fresh hW
      refine ⟨_, rfl, r, _, rfl, .inl (.inl (.inl (e3 _ _ r2))), _, rfl, by omega, by omega, ?_⟩
      rw [Int.toNat_natCast, hlen]
      refine for_it walk_range (fun b σ H4 => Same H1 H4 ∧ (∃ v5, σ = [some (.ref r), some (.ref wd), some (.ref C), some (nv t), some (.ref W), v5]) ∧ H4 W = some (.lst ((List.range (b + 1)).map fun b => .int (costI ns 0 b t)))) ⟨e2.trans e3, ⟨none, rfl⟩, upd_same⟩ (fun _ _ _ _ _ => trivial) (fun b x σ H4 H5 hb pv y => ?_) (fun σ H4 pv => ?_)
      · obtain ⟨e4, ⟨v5, rfl⟩, w4⟩ := pv
        obtain ⟨rfl, rfl⟩ := y
        have c4 := e4 _ _ c1
        have r4 := (e1.trans e4) _ _ hr
        obtain ⟨x, hx⟩ : ∃ x, ns[b]? = some x := ⟨ns[b], List.getElem?_eq_getElem hb⟩
        have i0 : (0 : Int) + (b : Nat) = ((b : Nat) : Int) := Int.zero_add _
        have ra : atI (ns.map nv) (0 + (b : Nat)) = some (nv x) := by
          rw [i0]
          exact atI_nat (by rw [List.getElem?_map, hx]; rfl)
        have ca : atI (rgV 0 (((ns.map nv).length : Int) + 1)) (0 + (b : Nat)) = some (nv b) := by
          rw [i0]
          exact atI_nat (cat b (by omega))
        have ca2 : atI (rgV 0 (((ns.map nv).length : Int) + 1)) (0 + (b : Nat) + 1) = some (nv (b + 1)) := by
          rw [i0]
          exact atI_nat (j := b + 1) (cat (b + 1) (by omega))
        have wa : atI ((List.range (b + 1)).map fun b => V.int (costI ns 0 b t)) (0 + (b : Nat)) = some (.int (costI ns 0 b t)) := by
          rw [i0]
          exact atI_nat (by rw [List.getElem?_map, List.getElem?_range (by omega)]; rfl)
        refine ⟨_, rfl, .inl ⟨rfl, _, .inl (.inl w4)⟩, ?_⟩
        refine ⟨_, rfl, _, rfl, C, _, _, _, rfl, rfl, .inl (.inl c4), ca, _, rfl, _, rfl, r, _, _, _, rfl, rfl, .inl (.inl r4), ra, _, rfl, rfl, .inr ⟨_, rfl, _, _, rfl, rfl, ?_⟩⟩
        refine ⟨_, rfl, _, rfl, _, _, rfl, rfl, C, _, _, _, rfl, rfl, .inl (.inl c4), ca2, _, _, rfl, rfl, _, rfl, _, rfl, W, _, _, _, rfl, rfl, .inl (.inl w4), wa, _, _, rfl, rfl, (show 3 ≤ sizeLine by decide), fun M hM => ?_⟩
        have e5 := Same.new (o := .lst [V.int ((b : Int) + (if (!decide (nv x = nv t)) then 1 else 0)), V.int (((b + 1 : Nat) : Int) + 1), V.int (costI ns 0 b t + 1)]) hM
        refine ⟨M, [(b : Int) + (if (!decide (nv x = nv t)) then 1 else 0), ((b + 1 : Nat) : Int) + 1, costI ns 0 b t + 1], rfl, .inl (.inl upd_same), (show 0 < 3 by decide), fun m hm hle => ?_⟩
        have w5 := e5 _ _ w4
        refine ⟨W, _, _, rfl, rfl, w5, by rw [List.length_map, List.length_range]; omega, Same.mut (e4.trans e5) hW1, ⟨_, rfl⟩, ?_⟩
        rw [upd_same, List.range_succ (n := b + 1), List.map_append]
        congr 3
        show [V.int m] = [V.int (costI ns 0 (b + 1) t)]
        rw [costI_succ ns b t x hx]
        have g1 := hle _ List.mem_cons_self
        have g2 := hle _ (List.mem_cons_of_mem _ List.mem_cons_self)
        have g3 := hle _ (List.mem_cons_of_mem _ (List.mem_cons_of_mem _ List.mem_cons_self))
        have hne : (if (!decide (nv x = nv t)) then (1 : Int) else 0) = if x = t then 0 else 1 := by
          by_cases z : x = t
          · subst z
            simp
          · rw [if_neg z, if_pos (by rw [decide_eq_false (fun y => z (by have := V.int.inj y; omega))]; rfl)]
        rw [hne] at g1 hm
        simp only [List.mem_cons, List.not_mem_nil, or_false] at hm
        congr 2
        omega
      · obtain ⟨e4, ⟨v5, rfl⟩, w4⟩ := pv
        exact ⟨_, rfl, e4, .inr ⟨rfl, W, _, _, _, rfl, w4⟩⟩
    · omega
  · obtain ⟨e2, pv⟩ := pv
    rcases pv with ⟨f, _⟩ | ⟨_, p, v3, v4, v5, rfl, hp⟩
    · cases f
    · exact ⟨_, rfl, q p H2 (e1.trans e2) hp⟩
def sp_law_by_places (K : PySem.W.Frag) : Sp := fun vs H Q _ => ∃ (r : Addr) (ns : List Nat) (t : Nat), vs = [.ref r, nv t] ∧ H r = some (.lst (ns.map nv)) ∧ ns.length ≤ 1000 ∧ ∀ H', Same H H' → Q (.int (costI ns 0 ns.length t)) H'
theorem len_law_by_places {K : PySem.W.Frag} (vs : List V) (H : Hp) (Q : VK) (E : XK) (h : sp_law_by_places K vs H Q E) : vs.length = 2 := by
  obtain ⟨r, ns, t, rfl, _⟩ := h
  rfl
abbrev N_law_by_places : List Str := ["row", "token", "there"]
def t_law_by_places (K : PySem.W.Frag) (P : Program) (w : World) : TS :=
  (tSeq (tIfS (tTest (tOp rEq (tCB (rLenSeq K) (tCons (tVar 0) tNil)) (tC (.int 0)))) (tRet (tC (.int 1))) tNext)
    (tRet (tCB (rMin K) (tCons (tLc (iSeq K (tVar 0)) (gName 2) tYes (tOp rAddI (tOp rSubI (tCB (rLenSeq K) (tCons (tVar 0) tNil)) (tC (.int 1))) (tCB rInt1 (tCons (tOp rNe (tVar 2) (tVar 1)) tNil))) [2]) tNil))))
theorem pure_law_by_places {K : PySem.W.Frag} {P : Program} {w : World} (vs : List V) (H : Hp) (Q : VK) (E : XK) (h : sp_law_by_places K vs H Q E) : t_law_by_places K P w { nx := fun _ H' => Q .non H', rt := Q } (start N_law_by_places vs) H := by
  obtain ⟨r, ns, t, rfl, hr, hz, q⟩ := h
  have hlen : (ns.map nv).length = ns.length := List.length_map ..
  have hq : Sq K true H r (ns.map nv) := .inl (.inl hr)
  refine ⟨_, rfl, r, _, rfl, .inl hq, rfl, _, rfl, ?_⟩
  rw [hlen]
  by_cases z : ns.length = 0
  · rw [z]
    have : decide (V.int ((0 : Nat) : Int) = V.int 0) = true := by decide
    rw [this]
    have q := q H (Same.refl H)
    unfold costI at q
    rw [if_pos (by rw [z])] at q
    exact q
  · rw [decide_eq_false (fun e => z (by have := V.int.inj e; omega))]
    refine ⟨_, rfl, r, true, _, rfl, hq, fun D hD => ?_⟩
    refine lc_pure (walk_sq (b := true) (xs := ns.map nv)) (by omega) (fun _ => true) (fun i => .int ((ns.length : Int) - 1 + (if ns.getD i 0 = t then 0 else 1))) hD (fun H' e' => e'.sq hq) (fun i x Ha Hb hi e2 y => ?_) (fun H2 e2 h2 => ?_)
    · obtain ⟨rfl, hx⟩ := y
      rw [List.getElem?_map] at hx
      obtain ⟨c, hc, rfl⟩ := Option.map_eq_some_iff.mp hx
      have hd : ns.getD i 0 = c := by rw [List.getD_eq_getElem?_getD, hc]; rfl
      intro Q2 QF k1 k2
      have k1 := k1 rfl Hb (Same.refl _)
      rw [hd] at k1
      refine ⟨rfl, yes_go ⟨_, rfl, r, _, rfl, .inl (e2.sq hq), _, _, rfl, rfl, _, rfl, _, rfl, rfl, .inr ⟨_, rfl, _, _, rfl, rfl, ?_⟩⟩⟩
      refine q_to k1 (congrArg V.int ?_)
      rw [hlen]
      congr 1
      by_cases y : c = t
      · subst y
        simp
      · rw [if_neg y, if_pos (by rw [decide_eq_false (fun e => y (by have := V.int.inj e; omega))]; rfl)]
    · rw [kept_all, hlen] at h2
      have e3 : (List.range ns.length).map (fun i => V.int ((ns.length : Int) - 1 + (if ns.getD i 0 = t then 0 else 1))) = (ns.map fun c => (ns.length : Int) - 1 + (if c = t then 0 else 1)).map V.int := by
        rw [List.map_map]
        refine range_map ns _ _ fun i x hx => ?_
        rw [List.getD_eq_getElem?_getD, hx]
        rfl
      rw [e3] at h2
      refine ⟨D, _, rfl, .inl (.inl h2), by rw [List.length_map]; omega, fun m hm hle => ?_⟩
      refine q_to (q H2 e2) (congrArg V.int ?_)
      obtain ⟨c, hc, rfl⟩ := List.mem_map.mp hm
      unfold costI
      rw [if_neg (by omega), Nat.sub_zero, List.drop_zero, List.take_length]
      by_cases y : t ∈ ns
      · have := hle _ (List.mem_map.mpr ⟨t, y, rfl⟩)
        rw [if_pos rfl] at this
        rw [if_pos y]
        split
        · omega
        · rename_i z2
          rw [if_neg z2] at this
          omega
      · rw [if_neg y, if_neg (fun e => y (by rw [← e]; exact hc))]
        try omega
end M

/-! text: P28 -/
set_option Elab.async false
set_option linter.all false
set_option maxRecDepth 100000
set_option maxHeartbeats 4000000
namespace M
open PySem PySem.Spec PyProof.Rows L2 TL
/-! ### the law's names -/
theorem str_ext {a b : Str} (h : a.cps.toList = b.cps.toList) : a = b := by
  obtain ⟨x⟩ := a
  obtain ⟨y⟩ := b
  have : x = y := Array.toList_inj.mp h
  rw [this]
theorem cps_append (a b : Str) : (a ++ b).cps.toList = a.cps.toList ++ b.cps.toList := by
  show (a.cps ++ b.cps).toList = _
  rw [Array.toList_append]
theorem len_cps (a : Str) : a.length = a.cps.toList.length := by
  show a.cps.size = _
  rw [Array.length_toList]
abbrev letS : Str := "abcdefghijklmnopqrstuvwxyz"
theorem let_list : letS.cps.toList = (List.range 26).map fun e => 97 + e := by decide +kernel
theorem az_all : ((List.range 26).all fun e => azB (97 + e)) = true := by decide +kernel
theorem az_e {e : Nat} (h : e < 26) : azB (97 + e) = true := List.all_eq_true.mp az_all e (List.mem_range.mpr h)
theorem let_at {e : Nat} (h : e < 26) : atI letS.cps.toList (e : Int) = some (97 + e) := by
  rw [let_list]
  exact atI_nat (by rw [List.getElem?_map, List.getElem?_range h]; rfl)
theorem let_len : letS.length ≤ sizeLine := by
  rw [len_cps, let_list, List.length_map, List.length_range, sizeLine_eq]
  decide
theorem nameB_of {s : Str} {l : List Nat} (h : s.cps.toList = l) (h1 : 1 ≤ l.length) (h2 : l.length ≤ 12) (h3 : ∀ c ∈ l, azB c = true) : nameB s = true := by
  unfold nameB
  rw [len_cps, h, decide_eq_true h1, decide_eq_true h2]
  exact List.all_eq_true.mpr h3
def nmS (cs : List Nat) (at_ e : Nat) : Str := ⟨(cs.take at_ ++ [97 + e] ++ cs.drop at_).toArray⟩
theorem nmS_l (cs : List Nat) (at_ e : Nat) : (nmS cs at_ e).cps.toList = cs.take at_ ++ [97 + e] ++ cs.drop at_ := rfl
theorem nmS_inj {cs : List Nat} {at_ e e' : Nat} (h : nmS cs at_ e = nmS cs at_ e') : e = e' := by
  have := congrArg (fun s : Str => s.cps.toList) h
  simp only [nmS_l, List.append_assoc] at this
  have := List.append_cancel_left this
  simp at this
  exact this
theorem nmS_len (cs : List Nat) (at_ e : Nat) : (cs.take at_ ++ [97 + e] ++ cs.drop at_).length = cs.length + 1 := by
  rw [List.length_append, List.length_append, List.length_take, List.length_drop]
  show min at_ cs.length + 1 + _ = _
  omega
theorem nmS_az {cs : List Nat} {at_ e : Nat} (h : ∀ c ∈ cs, azB c = true) (he : e < 26) : ∀ c ∈ cs.take at_ ++ [97 + e] ++ cs.drop at_, azB c = true := fun c hc => by
  rcases List.mem_append.mp hc with y | y
  · rcases List.mem_append.mp y with y | y
    · exact h c (List.mem_of_mem_take y)
    · rw [List.mem_singleton.mp y]
      exact az_e he
  · exact h c (List.mem_of_mem_drop y)
theorem join_nil : ∀ L : List (List Nat), joinL [] L = L.flatten
  | [] => rfl
  | [p] => by simp [joinL]
  | p :: q :: r => by
    show p ++ ([] ++ joinL [] (q :: r)) = p ++ (q :: r).flatten
    rw [join_nil (q :: r)]
    rfl
theorem join_one (cs : List Nat) : (Txt.join ("" : Str) (cs.map fun c => ⟨#[c]⟩)).cps.toList = cs := by
  have h := tl_join "" (cs.map fun c => (⟨#[c]⟩ : Str))
  rw [join_eq]
  have e : tl (Str.join "" (cs.map fun c => (⟨#[c]⟩ : Str))) = cs := by
    rw [h, show tl ("" : Str) = [] from rfl, join_nil, List.map_map]
    induction cs with
    | nil => rfl
    | cons c r ih =>
      have ih := ih (tl_join "" _)
      show [c] ++ (r.map _).flatten = c :: r
      rw [ih]
      rfl
  exact e
def sp_law_names (K : PySem.W.Frag) : Sp := fun vs H Q _ => ∃ (B g : Addr) (m : Nat), vs = [.ref B, nv m] ∧ m ≤ 26 ∧ BoxO H B g ∧ ∀ (p : Addr) (names : List Str) H', names.length = m → names.Nodup → (∀ n ∈ names, nameB n = true) → BoxO H' B g → But [B] H H' → H p = none → H' p = some (.lst (names.map V.str)) → Q (.ref p) H'
theorem len_law_names {K : PySem.W.Frag} (vs : List V) (H : Hp) (Q : VK) (E : XK) (h : sp_law_names K vs H Q E) : vs.length = 2 := by
  obtain ⟨B, g, m, rfl, _⟩ := h
  rfl
abbrev N_law_names : List Str := ["box", "many", "letters", "base", "at", "off", "names", "k", "name"]
def t_law_names (K : PySem.W.Frag) (P : Program) (w : World) : TS :=
  (tSeq (tAsg (tC (.str "abcdefghijklmnopqrstuvwxyz")) (gName 2))
    (tSeq (tAsg (tM1j K (tC (.str "")) (tLc (iRng1 (tCons (tCl (sp_law_draw K) (tCons (tVar 0) (tCons (tC (.int 11)) tNil))) tNil)) (gName 7) tYes (tOp rIxS (tVar 2) (tCl (sp_law_draw K) (tCons (tVar 0) (tCons (tC (.int 26)) tNil)))) [7])) (gName 3))
    (tSeq (tAsg (tCl (sp_law_draw K) (tCons (tVar 0) (tCons (tOp rAddI (tCB rLenStr (tCons (tVar 3) tNil)) (tC (.int 1))) tNil))) (gName 4))
    (tSeq (tAsg (tCl (sp_law_draw K) (tCons (tVar 0) (tCons (tC (.int 26)) tNil))) (gName 5))
    (tSeq (tAsg (tLc (iRng1 (tCons (tVar 1) tNil)) (gName 7) tYes (tOp rAddStr (tOp rAddStr (tSl rSlS (tVar 3) tNoPart (tPart (tVar 4))) (tOp rIxS (tVar 2) (tOp rModI (tCB rInt1 (tCons (tOp rAddI (tVar 5) (tOp rMulI (tVar 7) (tC (.int 7)))) tNil)) (tC (.int 26))))) (tSl rSlS (tVar 3) (tPart (tVar 4)) tNoPart)) [7]) (gName 6))
    (C8.tCut (tIfS (tTest (tOp (rIn K false) (tC (.str "stray")) (tVar 6))) (tAsg (tLc (iSeq K (tVar 6)) (gName 8) tYes (tOp rAddStr (tVar 8) (tC (.str "s"))) [8]) (gName 6)) tNext)
    (tRet (tVar 6))))))))
theorem BoxO.notin {H : Hp} {B g p : Addr} (h : BoxO H B g) (hp : H p = none) : p ≠ B ∧ p ≠ g ∧ p ∉ [B] := by
  obtain ⟨sd, c, n, i, gs, h1, h2, r⟩ := h
  have a : p ≠ B := fun z => by
    rw [z, h1] at hp
    cases hp
  exact ⟨a, (fun z => by rw [z, h2] at hp; cases hp), by simpa using a⟩
theorem BoxO.put {H : Hp} {B g p : Addr} {o : HO} (h : BoxO H B g) (n1 : p ≠ B) (n2 : p ≠ g) : BoxO (upd H p o) B g := by
  obtain ⟨sd, c, n, i, gs, h1, h2, r⟩ := h
  exact ⟨sd, c, n, i, gs, by rw [upd_ne (Ne.symm n1)]; exact h1, by rw [upd_ne (Ne.symm n2)]; exact h2, r⟩
theorem pure_law_names {K : PySem.W.Frag} {P : Program} {w : World} (vs : List V) (H : Hp) (Q : VK) (E : XK) (h : sp_law_names K vs H Q E) : t_law_names K P w { nx := fun _ H' => Q .non H', rt := Q } (start N_law_names vs) H := by
  obtain ⟨B, g, m, rfl, hm, hB, q⟩ := h
  have s24 := sizeLine_eq
  -- the base
  refine ⟨⟨_, rfl⟩, ?_⟩
  refine ⟨_, rfl, B, g, 11, rfl, by omega, by omega, hB, fun v H1 hv hB1 bt1 => ⟨_, rfl, by omega, by omega, fun D hD => ?_⟩⟩
  rw [Int.toNat_natCast]
  obtain ⟨nDB, nDg, nDi⟩ := hB1.notin hD
  have hD0 : H D = none := bt1.fresh hD nDi
  refine comp_it walk_range (fun i H2 => BoxO H2 B g ∧ But [B] H H2 ∧ ∃ cs : List Nat, H2 D = some (.lst ((cs.map fun c => (⟨#[c]⟩ : Str)).map V.str)) ∧ cs.length = i ∧ ∀ c ∈ cs, azB c = true) ⟨hB1.put nDB nDg, bt1.mut hD0, [], upd_same, rfl, fun c z => nomatch z⟩ (fun _ _ _ _ => trivial) (fun i x Ha Hb hi pv y => ?_) (fun H2 pv => ?_)
  · obtain ⟨hb, bt, cs, hcs, hl, haz⟩ := pv
    obtain ⟨rfl, rfl⟩ := y
    refine ⟨rfl, yes_goH ⟨_, rfl, _, rfl, B, g, 26, rfl, by omega, by omega, hb, fun e H3 he hb3 bt3 => ⟨letS, _, 97 + e, rfl, rfl, let_len, let_at he, ?_⟩⟩⟩
    have d3 := bt3 _ _ hcs nDi
    refine ⟨_, d3, by rw [List.length_map, List.length_map]; omega, hb3.put nDB nDg, (bt.trans bt3).mut hD0, cs ++ [97 + e], ?_, by rw [List.length_append, hl]; rfl, fun c hc => ?_⟩
    · rw [upd_same, List.map_append, List.map_append]
      rfl
    · rcases List.mem_append.mp hc with y | y
      · exact haz c y
      · rw [List.mem_singleton.mp y]
        exact az_e he
  obtain ⟨hb2, bt2, cs, hcs, hl, haz⟩ := pv
  have hsum : ((cs.map fun c => (⟨#[c]⟩ : Str)).map (·.length)).sum ≤ cs.length := by
    clear hcs hl haz
    induction cs with
    | nil => exact Nat.le_refl _
    | cons c r ih =>
      show 1 + _ ≤ _
      rw [List.length_cons]
      have : ((r.map fun c => (⟨#[c]⟩ : Str)).map (·.length)).sum ≤ r.length := ih
      show 1 + ((r.map fun c => (⟨#[c]⟩ : Str)).map (·.length)).sum ≤ _
      omega
  refine ⟨_, D, cs.map fun c => (⟨#[c]⟩ : Str), rfl, rfl, .inl (.inl (.inl hcs)), ?_, ?_⟩
  · have : ("" : Str).length = 0 := by decide
    rw [this]
    omega
  obtain ⟨b, hb⟩ : ∃ b, b = Txt.join ("" : Str) (cs.map fun c => (⟨#[c]⟩ : Str)) := ⟨_, rfl⟩
  have bl : b.cps.toList = cs := by rw [hb, join_one]
  have blen : b.length = v := by rw [len_cps, bl, hl]
  show tSeq _ _ _ (List.set _ 3 (some (V.str (Txt.join ("" : Str) (cs.map fun c => (⟨#[c]⟩ : Str)))))) H2
  rw [← hb]
  -- the place, the step
  refine ⟨_, rfl, _, rfl, b, rfl, by omega, _, _, rfl, rfl, ?_⟩
  refine ⟨B, g, v + 1, by show [V.ref B, V.int ((b.length : Int) + 1)] = _; rw [blen]; rfl, by omega, by omega, hb2, fun a H3 ha hb3 bt3 => ?_⟩
  refine ⟨_, rfl, B, g, 26, rfl, by omega, by omega, hb3, fun off H4 hoff hb4 bt4 => ?_⟩
  have bt04 := (bt2.trans bt3).trans bt4
  -- the names
  refine ⟨_, rfl, _, rfl, by omega, by omega, fun N hN => ?_⟩
  obtain ⟨nNB, nNg, nNi⟩ := hb4.notin hN
  have hN0 : H N = none := bt04.fresh hN nNi
  rw [Int.toNat_natCast]
  refine lc_pure walk_range (by omega) (fun _ => true) (fun k => .str (nmS cs a ((off + k * 7) % 26))) hN (fun _ _ => trivial) (fun k x Ha Hb hk e2 y => ?_) (fun H5 e5 h5 => ?_)
  · obtain ⟨rfl, rfl⟩ := y
    intro Q2 QF k1 k2
    have k1 := k1 rfl Hb (Same.refl _)
    have hlt : (off + k * 7) % 26 < 26 := Nat.mod_lt _ (by decide)
    refine ⟨rfl, yes_go ⟨_, rfl, _, rfl, _, rfl, b, rfl, by omega, _, rfl, _, rfl, _, rfl, _, _, rfl, rfl, .inl ⟨by omega, by omega⟩, _, _, rfl, rfl, .inl ⟨_, rfl, _, _, rfl, rfl, (show (0 : Int) < 26 by decide), ?_⟩⟩⟩
    refine ⟨letS, ((off + k * 7) % 26 : Nat), 97 + (off + k * 7) % 26, rfl, ?_, let_len, let_at hlt, ?_⟩
    · show V.int (((off : Int) + (0 + (k : Nat)) * 7) % 26) = _
      congr 1
      omega
    have la : (cutS b none (some (a : Int))).cps.toList = cs.take a := by
      show ((b.cps.toList.drop (HT.sIx b.length 0 none)).take (HT.sIx b.length b.length (some (a : Int)) - HT.sIx b.length 0 none)) = _
      rw [bl, HT.sIx_nat]
      show (cs.drop 0).take (min a b.length - 0) = _
      rw [List.drop_zero, Nat.sub_zero, blen, Nat.min_eq_left (by omega)]
    have lb : (cutS b (some (a : Int)) none).cps.toList = cs.drop a := by
      show ((b.cps.toList.drop (HT.sIx b.length 0 (some (a : Int)))).take (HT.sIx b.length b.length none - HT.sIx b.length 0 (some (a : Int)))) = _
      rw [bl, HT.sIx_nat, blen, Nat.min_eq_left (show a ≤ v by omega)]
      show (cs.drop a).take (v - a) = _
      rw [← hl, ← List.length_drop, List.take_length]
    have lla : (cutS b none (some (a : Int))).length ≤ 12 := by
      rw [len_cps, la, List.length_take]
      omega
    have llb : (cutS b (some (a : Int)) none).length ≤ 12 := by
      rw [len_cps, lb, List.length_drop]
      omega
    refine ⟨_, _, rfl, rfl, by show _ + 1 ≤ _; omega, _, rfl, _, rfl, _, rfl, b, rfl, by omega, _, _, rfl, rfl, ?_, ?_⟩
    · rw [len_cps, cps_append, List.length_append, ← len_cps]
      show _ + 1 + _ ≤ _
      omega
    · refine q_to k1 (congrArg V.str (str_ext ?_))
      rw [cps_append, cps_append, la, lb]
      rfl
  rw [kept_all] at h5
  have hal : ∀ k : Nat, (off + k * 7) % 26 < 26 := fun k => Nat.mod_lt _ (by decide)
  obtain ⟨nms, hnms⟩ : ∃ nms : List Str, nms = (List.range m).map fun k => nmS cs a ((off + k * 7) % 26) := ⟨_, rfl⟩
  have h5' : H5 N = some (.lst (nms.map V.str)) := by
    rw [h5, hnms, List.map_map]
    rfl
  have nl : nms.length = m := by rw [hnms, List.length_map, List.length_range]
  have nnd : nms.Nodup := by
    rw [hnms]
    refine nodup_map_on (fun x hx y hy e => ?_) List.nodup_range
    have := nmS_inj e
    have := List.mem_range.mp hx
    have := List.mem_range.mp hy
    omega
  have nok : ∀ n ∈ nms, ∃ l : List Nat, n.cps.toList = l ∧ l.length = v + 1 ∧ ∀ c ∈ l, azB c = true := fun n hn => by
    rw [hnms] at hn
    obtain ⟨k, hk, rfl⟩ := List.mem_map.mp hn
    exact ⟨_, nmS_l .., by rw [nmS_len, hl], nmS_az haz (hal k)⟩
  have hb5 := hb4.same e5
  have bt05 := bt04.trans (But.of e5)
  -- no stray one
  refine ⟨fun σ H6 => ∃ (p : Addr) (names : List Str) (a0 a1 a2 a3 a4 a5 a7 a8 : Option V), σ = [a0, a1, a2, a3, a4, a5, some (.ref p), a7, a8] ∧ names.length = m ∧ names.Nodup ∧ (∀ n ∈ names, nameB n = true) ∧ BoxO H6 B g ∧ But [B] H H6 ∧ H p = none ∧ H6 p = some (.lst (names.map V.str)), ?_, fun σ H6 pv => ?_⟩
  · refine ⟨_, rfl, N, _, rfl, .inl (.inl (.inl h5')), rfl, flat_strs _, _, rfl, ?_⟩
    simp only [Bool.false_eq_true, if_false, inV_str]
    by_cases z : ("stray" : Str) ∈ nms
    · rw [decide_eq_true z]
      refine ⟨_, rfl, N, true, _, rfl, .inl (.inl h5'), fun M hM => ?_⟩
      obtain ⟨nMB, nMg, nMi⟩ := hb5.notin hM
      refine lc_pure (walk_sq (b := true) (xs := nms.map V.str)) (by rw [List.length_map]; omega) (fun _ => true) (fun i => .str ((nms.getD i default) ++ ("s" : Str))) hM (fun H' e' => .inl (.inl (e' _ _ h5'))) (fun i x Ha Hb hi e2 y => ?_) (fun H6 e6 h6 => ?_)
      · obtain ⟨rfl, hx⟩ := y
        rw [List.getElem?_map] at hx
        obtain ⟨n, hn, rfl⟩ := Option.map_eq_some_iff.mp hx
        have hd : nms.getD i default = n := by rw [List.getD_eq_getElem?_getD, hn]; rfl
        intro Q2 QF k1 k2
        have k1 := k1 rfl Hb (Same.refl _)
        rw [hd] at k1
        obtain ⟨l, l1, l2, _⟩ := nok n (List.mem_of_getElem? hn)
        refine ⟨rfl, yes_go ⟨_, rfl, _, _, rfl, rfl, ?_, k1⟩⟩
        rw [len_cps n, l1, l2]
        have : ("s" : Str).length = 1 := by decide
        rw [this]
        omega
      · rw [kept_all, List.length_map] at h6
        have h6' : H6 M = some (.lst ((nms.map fun n => n ++ ("s" : Str)).map V.str)) := by
          rw [h6, List.map_map]
          congr 2
          exact range_map nms _ _ fun i x hx => by rw [List.getD_eq_getElem?_getD, hx]; rfl
        refine ⟨M, nms.map fun n => n ++ ("s" : Str), _, _, _, _, _, _, _, _, rfl, by rw [List.length_map, nl], nodup_map (fun x y e => str_ext ?_) nnd, fun n hn => ?_, hb5.same e6, bt05.trans (But.of e6), bt05.fresh hM nMi, h6'⟩
        · have := congrArg (fun s : Str => s.cps.toList) e
          simp only [cps_append] at this
          exact List.append_cancel_right this
        · obtain ⟨n', hn', rfl⟩ := List.mem_map.mp hn
          obtain ⟨l, l1, l2, l3⟩ := nok n' hn'
          refine nameB_of (l := l ++ [115]) (by rw [cps_append, l1]; rfl) (by rw [List.length_append]; omega) (by rw [List.length_append]; show _ + 1 ≤ _; omega) fun c hc => ?_
          rcases List.mem_append.mp hc with y | y
          · exact l3 c y
          · rw [List.mem_singleton.mp y]
            exact az_e (e := 18) (by decide)
    · rw [decide_eq_false z]
      refine ⟨N, nms, _, _, _, _, _, _, _, _, rfl, nl, nnd, fun n hn => ?_, hb5, bt05, hN0, h5'⟩
      obtain ⟨l, l1, l2, l3⟩ := nok n hn
      exact nameB_of l1 (by omega) (by omega) l3
  · obtain ⟨p, names, _, _, _, _, _, _, _, _, rfl, c1, c2, c3, c4, c5, c6, c7⟩ := pv
    exact ⟨_, rfl, q p names H6 c1 c2 c3 c4 c5 c6 c7⟩
end M

/-! text: P29 -/
set_option Elab.async false
set_option linter.all false
set_option maxRecDepth 100000
set_option maxHeartbeats 4000000
namespace M
open PySem PySem.Spec PyProof.Rows L2
/-! ### lists of ints compared -/
abbrev pdN (n : Nat) : PyData := .int (n : Int)
theorem canLay_ints : ∀ ns : List Nat, PyData.canLayAll0 (ns.map pdN) = true
  | [] => rfl
  | n :: r => by
    have := canLay_ints r
    simp only [List.map_cons, PyData.canLayAll0, PyData.canLay0, this]
    try rfl
theorem shaped_nats (ns : List Nat) : SeqAt.shaped (.list (ns.map pdN)) = true := by
  have h := canLay_ints ns
  have d0 := depth_ints (ns.map fun n : Nat => (n : Int))
  rw [List.map_map] at d0
  unfold SeqAt.shaped
  rw [Bool.and_eq_true, decide_eq_true_eq]
  refine ⟨by simpa [PyData.canLay0] using h, ?_⟩
  have d : PyData.depthAll (ns.map pdN) ≤ 1 := d0
  simp only [PyData.depth]
  omega
theorem dp_nats {K : PySem.W.Frag} {H : Hp} {a : Addr} {ns : List Nat} (h : H a = some (.lst (ns.map nv))) : Dp K H (.ref a) (.list (ns.map pdN)) := by
  have d := dp_ints (K := K) (H := H) (ns.map fun n : Nat => (n : Int))
  rw [List.map_map, List.map_map] at d
  exact .lst (.inl (.inl h)) d
theorem eqv_nats (ns : List Nat) : PyData.eqv (.list (ns.map pdN)) (.list (ns.map pdN)) = true := by
  have h := shaped_nats ns
  unfold SeqAt.shaped at h
  exact SeqAt.eqv_refl _ (Bool.and_eq_true_iff.mp h).1
/-! ### the grammar of one token -/
theorem one_low (cnt t : Nat) (ns : List Nat) (ht : t < cnt) (n : Nat) : Low (some (costI ns 0 ns.length t)) (Der ⟨cnt, 1, [0], [[t], [cnt]], 1⟩ ns 0 0 ns.length) := by
  constructor
  · refine der_cl _ ns 0 0 [t] 0 ns.length _ (show 0 < 1 by decide) rfl rfl (Nat.zero_le _) (Nat.le_refl _) ?_
    unfold RuleX
    rw [if_neg (by simp)]
    refine ⟨0, 0, _, Nat.le_refl _, Nat.zero_le _, ⟨rfl, rfl⟩, ⟨t, rfl, ?_⟩, (Int.zero_add _).symm⟩
    unfold PrX
    rw [if_pos ht]
  · intro v d
    have := d (fun g a b v => v = costI ns a b t) (fun r g ps a b v hr hg hp hab hb q => by
      have r0 : r = 0 := by
        have : r < 1 := hr
        omega
      subst r0
      cases hg
      have hp : some [t] = some ps := hp
      cases hp
      unfold RuleX at q
      rw [if_neg (by simp)] at q
      obtain ⟨x, u, w, h1, h2, ⟨h3, h4⟩, ⟨code, h5, h6⟩, h7⟩ := q
      cases h5
      unfold PrX at h6
      rw [if_pos ht] at h6
      subst h3
      rw [h7, h4, h6, Int.zero_add])
    rw [this]
    exact Int.le_refl _
/-- the names of such a grammar are right -/
theorem raw_one {names : List Str} {k t : Nat} (hl : names.length = k + 1) (nd : names.Nodup) (ok : ∀ n ∈ names, nameB n = true) (hk : 1 ≤ k) (hk2 : k ≤ 1000) (ht : t < k) {h p : Str} (hh : names[k]? = some h) (hp : names[t]? = some p) :
    RawOk (fun s => names.idxOf s) (names.take k) [(h, [p])] ∧ gmOf (fun s => names.idxOf s) (names.take k) [(h, [p])] = ⟨k, 1, [0], [[t], [k]], 1⟩ := by
  have tl : (names.take k).length = k := by rw [List.length_take]; omega
  have ix : ∀ (i : Nat) (n : Str), names[i]? = some n → names.idxOf n = i := fun i n hi => by
    obtain ⟨h1, h2⟩ := List.getElem?_eq_some_iff.mp hi
    rw [← h2]
    exact nd.idxOf_getElem _ h1
  have go : groupsOf [(h, [p])] = [h] := rfl
  have all : names.take k ++ [h] = names := by
    have : names.take (k + 1) = names := List.take_of_length_le (by omega)
    rw [List.take_succ, hh] at this
    exact this
  have hout : h ∉ names.take k := fun m => by
    obtain ⟨i, hi⟩ := List.mem_iff_getElem?.mp m
    have hik : i < k := by
      have := (List.getElem?_eq_some_iff.mp hi).1
      omega
    rw [List.getElem?_take_of_lt hik] at hi
    have := ix i h hi
    have := ix k h hh
    omega
  have pin : p ∈ names.take k := List.mem_of_getElem? (i := t) (by rw [List.getElem?_take_of_lt ht]; exact hp)
  have ho : headsOf (fun s => names.idxOf s) k [(h, [p])] = [0] := by
    show [names.idxOf h - k] = [0]
    rw [ix k h hh, Nat.sub_self]
  have po : partsOf (fun s => names.idxOf s) [(h, [p])] = [[t]] := by
    show [[names.idxOf p]] = [[t]]
    rw [ix t p hp]
  refine ⟨⟨fun z => by rw [z] at tl; simp at tl; omega, nd.sublist (List.take_sublist _ _), fun n hn => ok n (List.mem_of_mem_take hn), by omega, rfl, fun r hr => ?_, fun i n hi => ?_, fun r hr => ?_, by rw [go]; show 0 < 1; decide, ?_, ?_⟩, ?_⟩
  · rw [List.mem_singleton.mp hr]
    exact ⟨ok h (List.mem_of_getElem? hh), fun n hn => by rw [List.mem_singleton.mp hn]; exact ok p (List.mem_of_getElem? hp), (show 1 ≤ 63 by decide), hout, fun q hq => by rw [List.mem_singleton.mp hq]; exact .inl pin, by simp⟩
  · rw [go, all] at hi
    exact ix i n hi
  · rw [List.mem_singleton.mp hr, go]
    exact List.mem_singleton_self _
  · rw [tl, go, ho, po]
    exact ⟨rfl, (show 1 ≤ 64 by decide), (show 1 ≤ 64 by decide), by omega, fun x hx => by rw [List.mem_singleton.mp hx]; show 0 < 1; decide, fun ps hps c hc => by rw [List.mem_singleton.mp hps] at hc; rw [List.mem_singleton.mp hc]; show t < k + 1; omega, fun ps hps => by rw [List.mem_singleton.mp hps]; show 1 < 64; decide⟩
  · rw [tl, go, ho, po]
    refine ⟨⟨fun _ => 0, fun x hx => ?_⟩, fun S s0 _ x hx => ?_⟩
    · have : x < 1 := hx
      have : x = 0 := by omega
      subst this
      exact ⟨0, [t], rfl, rfl, fun c hc => by rw [List.mem_singleton.mp hc]; exact .inl ht⟩
    · have : x < 1 := hx
      have : x = 0 := by omega
      subst this
      exact s0
  · unfold gmOf
    rw [tl, go, ho, po]
    rfl
end M

/-! text: P30 -/
set_option Elab.async false
set_option linter.all false
set_option maxRecDepth 100000
set_option maxHeartbeats 4000000
namespace M
open PySem PySem.Spec PyProof.Rows L2
def sp_law (K : PySem.W.Frag) : Sp := fun vs H Q _ => ∃ (a : Addr) (ns : List Int), vs = [.ref a] ∧ SqL K H a (ns.map V.int) ∧ ns.length ≤ 1000 ∧ ∀ H', Q (.bl true) H'
theorem len_law {K : PySem.W.Frag} (vs : List V) (H : Hp) (Q : VK) (E : XK) (h : sp_law K vs H Q E) : vs.length = 1 := by
  obtain ⟨a, ns, rfl, _⟩ := h
  rfl
abbrev N_law : List Str := ["script", "box", "kinds", "size", "row", "token", "due", "handed", "tokens", "names", "grammar", "k"]
def t_law (K : PySem.W.Frag) (P : Program) (w : World) : TS :=
  (tSeq (tAsg (tCl (sp_law_box K) (tCons (tVar 0) tNil)) (gName 1))
    (tSeq (tAsg (tOp rAddI (tC (.int 1)) (tCl (sp_law_draw K) (tCons (tVar 1) (tCons (tC (.int 4)) tNil)))) (gName 2))
    (C8.tCut (tIfS (tTest (tOp rEq (tCl (sp_law_draw K) (tCons (tVar 1) (tCons (tC (.int 3)) tNil))) (tC (.int 0)))) (tAsg (tOp rAddI (tC (.int 1)) (tCl (sp_law_draw K) (tCons (tVar 1) (tCons (tC (.int 900)) tNil)))) (gName 2)) tNext)
    (tSeq (tAsg (tCl (sp_law_draw K) (tCons (tVar 1) (tCons (tC (.int 8)) tNil))) (gName 3))
    (C8.tCut (tIfS (tTest (tOp rEq (tCl (sp_law_draw K) (tCons (tVar 1) (tCons (tC (.int 5)) tNil))) (tC (.int 0)))) (tAsg (tCl (sp_law_draw K) (tCons (tVar 1) (tCons (tC (.int 91)) tNil))) (gName 3)) tNext)
    (tSeq (tAsg (tLc (iRng1 (tCons (tVar 3) tNil)) (gName 11) tYes (tCl (sp_law_draw K) (tCons (tVar 1) (tCons (tVar 2) tNil))) [11]) (gName 4))
    (tSeq (tAsg (tCl (sp_law_draw K) (tCons (tVar 1) (tCons (tOp rAddI (tVar 2) (tC (.int 1))) tNil))) (gName 5))
    (C8.tCut (tIfS (tAnd (tTest (tOp rGtI (tVar 3) (tC (.int 0)))) (tTest (tOp rEq (tCl (sp_law_draw K) (tCons (tVar 1) (tCons (tC (.int 2)) tNil))) (tC (.int 0))))) (tAsg (tOp (rIxL K) (tVar 4) (tCl (sp_law_draw K) (tCons (tVar 1) (tCons (tVar 3) tNil)))) (gName 5)) tNext)
    (tSeq (tAsg (tOp (rIxL K) (tCl (sp_law_costs K) (tCons (tVar 4) (tCons (tTup (tCons (tVar 5) tNil)) tNil))) (tUn (rU fun i => .int (-i)) (tC (.int 1)))) (gName 6))
    (tSeq (tIfS (tTest (tOp rNe (tVar 6) (tCl (sp_law_by_places K) (tCons (tVar 4) (tCons (tVar 5) tNil))))) (tRet (tC (.bl false))) tNext)
    (tSeq (tAsg (tCB (rListOf K) (tCons (tVar 4) tNil)) (gName 7))
    (tSeq (tIfS (tOr (tNot (tB (tCl (sp_law_same K) (tCons (tCl (sp_token_changes K) (tCons (tVar 7) (tCons (tVar 5) tNil))) (tCons (tVar 6) tNil))))) (tTest (tOp (rNeD K) (tVar 7) (tVar 4)))) (tRet (tC (.bl false))) tNext)
    (tSeq (tDrop (tBM K "list" rAppend (tVar 7) (tCons (tVar 5) tNil)))
    (tSeq (tIfS (tNot (tB (tCl (sp_law_same K) (tCons (tCl (sp_token_changes K) (tCons (tVar 7) (tCons (tVar 5) tNil))) (tCons (tCl (sp_law_by_places K) (tCons (tVar 7) (tCons (tVar 5) tNil))) tNil))))) (tRet (tC (.bl false))) tNext)
    (tSeq (tIfS (tNot (tB (tCl (sp_law_same K) (tCons (tCl (sp_token_changes K) (tCons (tCB (rTupleOf K) (tCons (tVar 4) tNil)) (tCons (tVar 5) tNil))) (tCons (tVar 6) tNil))))) (tRet (tC (.bl false))) tNext)
    (tSeq (tAsg (tOp rAddI (tCB (rMax K) (tCons (tOp rCat (tVar 4) (tLst (tCons (tVar 5) tNil))) tNil)) (tC (.int 1))) (gName 8))
    (tSeq (tIfS (tOr (tTest (tOp rGtI (tCB (rLenSeq K) (tCons (tVar 4) tNil)) (tC (.int 6)))) (tTest (tOp rGtI (tVar 8) (tC (.int 5))))) (tRet (tC (.bl true))) tNext)
    (tSeq (tAsg (tCl (sp_law_names K) (tCons (tVar 1) (tCons (tOp rAddI (tVar 8) (tC (.int 2))) tNil))) (gName 9))
    (tSeq (tAsg (tMk (He.ga K "Grammar") (sp_Grammar_init K) (tCons (tSl (rSlL K) (tVar 9) tNoPart (tPart (tOp rAddI (tVar 8) (tC (.int 1))))) (tCons (tLst (tCons (tTup (tCons (tOp (rIxL K) (tVar 9) (tOp rAddI (tVar 8) (tC (.int 1)))) (tCons (tTup (tCons (tOp (rIxL K) (tVar 9) (tVar 5)) tNil)) tNil))) tNil)) tNil))) (gName 10))
    (tRet (tCl (sp_law_same K) (tCons (tCl (sp_least_changes K) (tCons (tVar 10) (tCons (tCB (rTupleOf K) (tCons (tVar 4) tNil)) tNil))) (tCons (tVar 6) tNil)))))))))))))))))))))))
theorem same_yes {u d : Int} (h : u = d) : decide (u = d) = true := decide_eq_true h
theorem pure_law {K : PySem.W.Frag} {P : Program} {w : World} (vs : List V) (H : Hp) (Q : VK) (E : XK) (h : sp_law K vs H Q E) : t_law K P w { nx := fun _ H' => Q .non H', rt := Q } (start N_law vs) H := by
  obtain ⟨a, ns0, rfl, hS, hz, q⟩ := h
  have s24 := sizeLine_eq
  refine ⟨_, rfl, a, ns0, rfl, hS, hz, fun B g H1 e1 hB0 hg0 hb1 => ?_⟩
  refine ⟨_, rfl, B, g, 4, rfl, by omega, by omega, hb1, fun v H2 hv hb2 _ => ⟨_, _, rfl, rfl, ?_⟩⟩
  -- kinds
  refine ⟨fun σ H' => ∃ kinds : Nat, 1 ≤ kinds ∧ kinds ≤ 900 ∧ σ = [some (.ref a), some (.ref B), some (nv kinds), none, none, none, none, none, none, none, none, none] ∧ BoxO H' B g, ?_, ?_⟩
  · refine ⟨_, rfl, B, g, 3, rfl, by omega, by omega, hb2, fun v3 H3 hv3 hb3 _ => ⟨rfl, _, rfl, ?_⟩⟩
    refine ite2 (fun _ => ?_) (fun _ => ?_)
    · refine ⟨_, rfl, B, g, 900, rfl, by omega, by omega, hb3, fun v4 H4 hv4 hb4 _ => ⟨_, _, rfl, rfl, v4 + 1, by omega, by omega, ?_, hb4⟩⟩
      show List.set _ 2 (some (V.int (1 + (v4 : Int)))) = _
      rw [show (1 : Int) + v4 = ((v4 + 1 : Nat) : Int) by omega]
      rfl
    · refine ⟨v + 1, by omega, by omega, ?_, hb3⟩
      show List.set _ 2 (some (V.int (1 + (v : Int)))) = _
      rw [show (1 : Int) + v = ((v + 1 : Nat) : Int) by omega]
      rfl
  rintro _ H3 ⟨kinds, k1, k2, rfl, hb3⟩
  refine ⟨_, rfl, B, g, 8, rfl, by omega, by omega, hb3, fun sz H4 hsz hb4 _ => ?_⟩
  -- size
  refine ⟨fun σ H' => ∃ size : Nat, size ≤ 90 ∧ σ = [some (.ref a), some (.ref B), some (nv kinds), some (nv size), none, none, none, none, none, none, none, none] ∧ BoxO H' B g, ?_, ?_⟩
  · refine ⟨_, rfl, B, g, 5, rfl, by omega, by omega, hb4, fun v3 H5 hv3 hb5 _ => ⟨rfl, _, rfl, ?_⟩⟩
    refine ite2 (fun _ => ?_) (fun _ => ?_)
    · exact ⟨_, rfl, B, g, 91, rfl, by omega, by omega, hb5, fun v4 H6 hv4 hb6 _ => ⟨v4, by omega, rfl, hb6⟩⟩
    · exact ⟨sz, by omega, rfl, hb5⟩
  rintro _ H5 ⟨size, z1, rfl, hb5⟩
  -- the row
  refine ⟨_, rfl, _, rfl, by omega, by omega, fun D hD => ?_⟩
  obtain ⟨nDB, nDg, nDi⟩ := hb5.notin hD
  rw [Int.toNat_natCast]
  refine comp_it walk_range (fun i H' => BoxO H' B g ∧ ∃ ns : List Nat, H' D = some (.lst (ns.map nv)) ∧ ns.length = i ∧ ∀ x ∈ ns, x < kinds) ⟨hb5.put nDB nDg, [], upd_same, rfl, fun x z => nomatch z⟩ (fun _ _ _ _ => trivial) (fun i x Ha Hb hi pv y => ?_) (fun H6 pv => ?_)
  · obtain ⟨hb, ns, hns, hl, hlt⟩ := pv
    obtain ⟨rfl, rfl⟩ := y
    refine ⟨rfl, yes_goH ⟨_, rfl, _, rfl, B, g, kinds, rfl, by omega, by omega, hb, fun v H7 hv7 hb7 bt7 => ?_⟩⟩
    have d7 := bt7 _ _ hns nDi
    refine ⟨_, d7, by rw [List.length_map]; omega, hb7.put nDB nDg, ns ++ [v], by rw [upd_same, List.map_append]; rfl, by rw [List.length_append, hl]; rfl, fun x hx => ?_⟩
    rcases List.mem_append.mp hx with y | y
    · exact hlt x y
    · rw [List.mem_singleton.mp y]
      exact hv7
  obtain ⟨hb6, ns, hns, hl, hlt⟩ := pv
  refine ⟨_, rfl, _, rfl, _, _, rfl, rfl, ?_⟩
  refine ⟨B, g, kinds + 1, rfl, by omega, by omega, hb6, fun tk H7 htk hb7 bt7 => ?_⟩
  have d7 := bt7 _ _ hns nDi
  -- the token
  refine ⟨fun σ H' => ∃ t : Nat, t ≤ 900 ∧ σ = [some (.ref a), some (.ref B), some (nv kinds), some (nv size), some (.ref D), some (nv t), none, none, none, none, none, none] ∧ BoxO H' B g ∧ H' D = some (.lst (ns.map nv)), ?_, ?_⟩
  · refine ⟨_, rfl, _, _, rfl, rfl, _, rfl, ?_⟩
    by_cases zs : (0 : Int) < size
    · rw [decide_eq_true zs]
      refine ⟨_, rfl, B, g, 2, rfl, by omega, by omega, hb7, fun v3 H8 hv3 hb8 bt8 => ⟨rfl, _, rfl, ?_⟩⟩
      have d8 := bt8 _ _ d7 nDi
      refine ite2 (fun _ => ?_) (fun _ => ?_)
      · refine ⟨_, rfl, _, rfl, _, rfl, B, g, size, rfl, by omega, by omega, hb8, fun v4 H9 hv4 hb9 bt9 => ?_⟩
        have d9 := bt9 _ _ d8 nDi
        have hx : ns[v4]? = some (ns[v4]'(by omega)) := List.getElem?_eq_getElem _
        have hm := hlt _ (List.getElem_mem (show v4 < ns.length by omega))
        generalize ns[v4]'(by omega) = x at hx hm
        exact ⟨D, _, _, nv x, rfl, rfl, .inl (.inl d9), atI_nat (by rw [List.getElem?_map, hx]; rfl), x, by omega, rfl, hb9, d9⟩
      · exact ⟨tk, by omega, rfl, hb8, d8⟩
    · rw [decide_eq_false zs]
      exact ⟨tk, by omega, rfl, hb7, d7⟩
  rintro _ H8 ⟨t, t9, rfl, hb8, d8⟩
  have hlen : (ns.map nv).length = ns.length := List.length_map ..
  -- due
  refine ⟨_, rfl, _, rfl, (show 1 ≤ sizeLine by decide), fun W hW => ?_⟩
  have e9 := Same.new (o := .tup [nv t]) hW
  refine ⟨D, W, ns, t, rfl, e9 _ _ d8, upd_same, by omega, fun C H9 e9' hC => ?_⟩
  have e89 := e9.trans e9'
  have hC' : H9 C = some (.lst ((List.range ns.length).map (fun b => V.int (costI ns 0 b t)) ++ [V.int (costI ns 0 ns.length t)])) := by
    rw [hC, List.range_succ, List.map_append]
    rfl
  refine ⟨_, rfl, C, _, -1, _, rfl, rfl, .inl (.inl hC'), atI_last _ _, ?_⟩
  have d9 := e89 _ _ d8
  have hb9 := hb8.same e89
  -- by places
  refine ⟨_, rfl, _, rfl, _, rfl, D, ns, t, rfl, d9, by omega, fun H10 e10 => ⟨rfl, _, rfl, ?_⟩⟩
  rw [decide_eq_true rfl]
  have d10 := e10 _ _ d9
  have hb10 := hb9.same e10
  -- handed
  refine ⟨_, rfl, D, _, rfl, .inl (.inl (.inl d10)), fun hd hhd => ?_⟩
  have e11 := Same.new (o := .lst (ns.map nv)) hhd
  have h11 : (upd H10 hd (.lst (ns.map nv))) hd = some (.lst (ns.map nv)) := upd_same
  have nhD : D ≠ hd := ne_of_none d10 hhd
  generalize upd H10 hd (.lst (ns.map nv)) = H11 at e11 h11
  have d11 := e11 _ _ d10
  have hb11 := hb10.same e11
  have nhB := (hb10.notin hhd)
  refine ⟨_, rfl, _, rfl, hd, true, ns, t, rfl, .inl (.inl h11), fun H12 e12 => ⟨_, rfl, _, _, rfl, _, rfl, ?_⟩⟩
  rw [same_yes rfl]
  have h12 := e12 _ _ h11
  have d12 := e12 _ _ d11
  have hb12 := hb11.same e12
  refine ⟨_, rfl, _, rfl, _, _, dp_nats h12, dp_nats d12, shaped_nats ns, shaped_nats ns, _, rfl, ?_⟩
  rw [eqv_nats]
  -- handed.append
  refine ⟨_, rfl, .inl ⟨rfl, _, .inl (.inl h12)⟩, _, rfl, hd, _, _, rfl, rfl, h12, by omega, ?_⟩
  have h13 : (upd H12 hd (.lst (ns.map nv ++ [nv t]))) hd = some (.lst ((ns ++ [t]).map nv)) := by
    rw [upd_same, List.map_append]
    rfl
  have d13 : (upd H12 hd (.lst (ns.map nv ++ [nv t]))) D = some (.lst (ns.map nv)) := by
    rw [upd_ne nhD]
    exact d12
  have hb13 : BoxO (upd H12 hd (.lst (ns.map nv ++ [nv t]))) B g := hb12.put nhB.1 nhB.2.1
  generalize upd H12 hd (.lst (ns.map nv ++ [nv t])) = H13 at h13 d13 hb13
  have hlt1 : (ns ++ [t]).length ≤ 1000 := by
    rw [List.length_append]
    show _ + 1 ≤ _
    omega
  refine ⟨_, rfl, _, rfl, hd, true, ns ++ [t], t, rfl, .inl (.inl h13), fun H14 e14 => ⟨_, rfl, _, rfl, hd, ns ++ [t], t, rfl, e14 _ _ h13, hlt1, fun H15 e15 => ⟨_, _, rfl, _, rfl, ?_⟩⟩⟩
  rw [same_yes rfl]
  have e135 := e14.trans e15
  have d15 := e135 _ _ d13
  have hb15 := hb13.same e135
  -- as a tuple
  refine ⟨_, rfl, D, _, rfl, .inl ⟨.inl (.inl d15), fun tp htp => ?_⟩⟩
  have e16 := Same.new (o := .tup (ns.map nv)) htp
  refine ⟨_, rfl, tp, false, ns, t, rfl, .inl (.inl upd_same), fun H17 e17 => ⟨_, rfl, _, _, rfl, _, rfl, ?_⟩⟩
  rw [same_yes rfl]
  have e157 := e16.trans e17
  have d17 := e157 _ _ d15
  have hb17 := hb15.same e157
  -- tokens
  refine ⟨_, rfl, _, rfl, (show 1 ≤ sizeLine by decide), fun l1 hl1 => ?_⟩
  have e18 := Same.new (o := .lst [nv t]) hl1
  refine ⟨D, l1, _, _, rfl, rfl, e18 _ _ d17, upd_same, by rw [hlen]; show _ + 1 ≤ _; omega, fun l2 hl2 => ?_⟩
  have e19 := e18.trans (Same.new (o := .lst (ns.map nv ++ [nv t])) hl2)
  refine ⟨l2, (ns ++ [t]).map fun n : Nat => (n : Int), rfl, .inl (.inl ?_), by rw [List.length_map, List.length_append]; show 0 < _ + 1; omega, fun mx hmx hle => ?_⟩
  · rw [upd_same, List.map_map, List.map_append]
    rfl
  obtain ⟨m, hm, rfl⟩ := List.mem_map.mp hmx
  have hmle : ∀ y ∈ ns ++ [t], y ≤ m := fun y hy => by
    have := hle _ (List.mem_map.mpr ⟨y, hy, rfl⟩)
    omega
  have htm : t ≤ m := hmle t (by simp)
  refine ⟨_, _, rfl, rfl, ?_⟩
  have d19 := e19 _ _ d17
  have hb19 := hb17.same e19
  generalize upd (upd H17 l1 (.lst [nv t])) l2 (.lst (ns.map nv ++ [nv t])) = H19 at d19 hb19
  refine ⟨_, rfl, D, _, rfl, .inl (.inl (.inl d19)), _, _, rfl, rfl, _, rfl, ?_⟩
  rw [hlen]
  by_cases c1 : (6 : Int) < (ns.length : Nat)
  · rw [decide_eq_true c1]
    exact q H19
  rw [decide_eq_false c1]
  refine ⟨_, rfl, _, _, rfl, rfl, _, rfl, ?_⟩
  by_cases c2 : (5 : Int) < (m : Int) + 1
  · rw [decide_eq_true c2]
    exact q H19
  rw [decide_eq_false c2]
  -- the names
  refine ⟨_, rfl, _, rfl, _, _, rfl, rfl, B, g, m + 3, ?_, by omega, hb19, fun p names H20 nl nd nok hb20 bt20 hp0 hp20 => ?_⟩
  · show [V.ref B, V.int ((m : Int) + 1 + 2)] = _
    rw [show (m : Int) + 1 + 2 = ((m + 3 : Nat) : Int) by omega]
  have d20 := bt20 _ _ d19 (by simpa using nDB)
  obtain ⟨hn, hhn⟩ : ∃ s, names[m + 2]? = some s := ⟨names[m + 2]'(by omega), List.getElem?_eq_getElem _⟩
  obtain ⟨pn, hpn⟩ : ∃ s, names[t]? = some s := ⟨names[t]'(by omega), List.getElem?_eq_getElem _⟩
  obtain ⟨raw, gm⟩ := raw_one (k := m + 2) (t := t) nl nd nok (by omega) (by omega) (by omega) hhn hpn
  have at1 : atI (names.map V.str) ((m : Int) + 1 + 1) = some (.str hn) := by
    rw [show (m : Int) + 1 + 1 = ((m + 2 : Nat) : Int) by omega]
    exact atI_nat (by rw [List.getElem?_map, hhn]; rfl)
  have at2 : atI (names.map V.str) (t : Int) = some (.str pn) := atI_nat (by rw [List.getElem?_map, hpn]; rfl)
  have cut : cutV (names.map V.str) none (some ((m : Int) + 1 + 1)) = (names.take (m + 2)).map V.str := by
    unfold cutV
    rw [show (m : Int) + 1 + 1 = ((m + 2 : Nat) : Int) by omega, HT.sIx_nat, List.length_map, Nat.min_eq_left (by omega)]
    show ((names.map V.str).drop 0).take (m + 2 - 0) = _
    rw [List.drop_zero, Nat.sub_zero, List.map_take]
  -- the grammar
  refine ⟨_, rfl, _, rfl, _, _, rfl, rfl, _, rfl, p, _, rfl, .inl (.inl hp20), fun ta hta => ?_⟩
  rw [cut]
  have e21 := Same.new (o := .lst ((names.take (m + 2)).map V.str)) hta
  refine ⟨_, rfl, _, rfl, _, _, rfl, rfl, p, _, _, .str hn, rfl, rfl, .inl (.inl (e21 _ _ hp20)), at1, _, rfl, _, rfl, p, _, _, .str pn, rfl, rfl, .inl (.inl (e21 _ _ hp20)), at2, (show 1 ≤ sizeLine by decide), fun pr hpr => ?_⟩
  have e22 := e21.trans (Same.new (o := .tup [.str pn]) hpr)
  refine ⟨(show 2 ≤ sizeLine by decide), fun qa hqa => ?_⟩
  have e23 := Same.new (o := .tup [.str hn, .ref pr]) hqa
  refine ⟨(show 1 ≤ sizeLine by decide), fun ra hra => ?_⟩
  have e24 := Same.new (o := .lst [.ref qa]) hra
  have fta : (upd (upd (upd (upd H20 ta (.lst ((names.take (m + 2)).map V.str))) pr (.tup [.str pn])) qa (.tup [.str hn, .ref pr])) ra (.lst [.ref qa])) ta = some (.lst ((names.take (m + 2)).map V.str)) := (e23.trans e24) _ _ (Same.new hpr _ _ upd_same)
  have fpr : (upd (upd (upd (upd H20 ta (.lst ((names.take (m + 2)).map V.str))) pr (.tup [.str pn])) qa (.tup [.str hn, .ref pr])) ra (.lst [.ref qa])) pr = some (.tup [.str pn]) := (e23.trans e24) _ _ upd_same
  have fqa : (upd (upd (upd (upd H20 ta (.lst ((names.take (m + 2)).map V.str))) pr (.tup [.str pn])) qa (.tup [.str hn, .ref pr])) ra (.lst [.ref qa])) qa = some (.tup [.str hn, .ref pr]) := e24 _ _ upd_same
  have fra : (upd (upd (upd (upd H20 ta (.lst ((names.take (m + 2)).map V.str))) pr (.tup [.str pn])) qa (.tup [.str hn, .ref pr])) ra (.lst [.ref qa])) ra = some (.lst [.ref qa]) := upd_same
  have d24 := ((e22.trans e23).trans e24) _ _ d20
  generalize upd (upd (upd (upd H20 ta (.lst ((names.take (m + 2)).map V.str))) pr (.tup [.str pn])) qa (.tup [.str hn, .ref pr])) ra (.lst [.ref qa]) = H24 at fta fpr fqa fra d24
  intro gs dx hgs hdx hne
  have e25 : Same H24 (upd (upd H24 dx (.own gs)) gs (.ins (He.ga K "Grammar") dx [])) := Same.mut (Same.new hdx) hgs
  have m25 : Same H24 (mi gs (upd (upd H24 dx (.own gs)) gs (.ins (He.ga K "Grammar") dx []))) := fun x o hx => by
    rw [mi_ne (ne_of_none hx hgs)]
    exact e25 x o hx
  refine ⟨gs, dx, ta, ra, true, true, _, _, _, rfl, upd_same, m25 _ _ fta, ⟨[qa], m25 _ _ fra, rfl, fun i q2 r h1 h2 => ?_⟩, raw, fun H26 e26 grm => ⟨rfl, ?_⟩⟩
  · cases i with
    | zero =>
      cases h1
      cases h2
      exact ⟨pr, m25 _ _ fqa, m25 _ _ fpr⟩
    | succ i => cases h1
  rw [gm] at grm
  have d26 := (m25.trans e26) _ _ d24
  refine ⟨_, rfl, _, rfl, D, _, rfl, .inl ⟨.inl (.inl d26), fun tq htq => ?_⟩⟩
  have e27 := Same.new (o := .tup (ns.map nv)) htq
  refine ⟨gs, tq, false, _, ns, costI ns 0 ns.length t, rfl, grm.same e27, upd_same, fun i hi => ?_, ⟨(show 1 ≤ 64 by decide), by omega, fun ps hps => ?_, (show 1 ≤ 64 by decide), (show 1 ≤ 64 by decide), fun x hx => ?_, rfl, (show 1 ≤ 2 by decide)⟩, one_low (m + 2) t ns (by omega) 0, fun H28 _ => ⟨_, rfl, _, _, rfl, ?_⟩⟩
  · have := hmle i (List.mem_append_left _ hi)
    show i < m + 2
    omega
  · have hps : ps ∈ [[t], [m + 2]] := hps
    simp only [List.mem_cons, List.not_mem_nil, or_false] at hps
    rcases hps with rfl | rfl
    · show 1 < 64
      decide
    · show 1 < 64
      decide
  · have hx : x ∈ [0] := hx
    rw [List.mem_singleton.mp hx]
    show 0 < 1
    decide
  · rw [same_yes rfl]
    exact q H28
end M

/-! text: D63 -/
set_option Elab.async false
set_option linter.all false
set_option maxRecDepth 100000
set_option maxHeartbeats 4000000
namespace M
open PySem PySem.Spec PyProof.Rows L2
/-- the scope of the comprehension that the k-th statement assigns, as its block has it -/
def nestSc (s : Stmt) (k : Nat) : Scope := match (defBody s).getD k s with
  | .Assign _ (.ListComp _ _ sc _) _ => relabel sc { (default : Env) with scope := defScope s }
  | _ => defScope s
theorem sc_is_integer : FnScope N_is_integer ["value"] (defScope s_is_integer) := ⟨rfl, rfl, rfl, by decide +kernel, rfl, by decide +kernel, by decide +kernel⟩
theorem ok_is_integer {P : Program} {w : World} {K : PySem.W.Frag} {mg : Str → Option Value} {base : Heap} (T : Txt K mg)  : Okd P w K mg base 1 ("is_integer", none) ["value"] (sp_is_integer K) := by
  obtain ⟨fd, F⟩ := f_is_integer T
  refine okd_mk F sc_is_integer len_is_integer (fun _ _ _ _ _ _ us hl => match us, hl with | [_], _ => rfl) (fun cdv A outer s H E hr => ?_) (pure_is_integer (P := P) (w := w))
  have nd := sc_is_integer.nd
  exact (pss_one (ps_ret (pe_and (pe_callB cr_is1 (by rfl) (b_isinstance T) boot_isinstance (pa_cons (pv 0) (pa_cons (pe_bltn (by rfl) (b_int T) boot_int rfl) pa_nil))) (pe_one (pe_not (pe_callB cr_is1 (by rfl) (b_isinstance T) boot_isinstance (pa_cons (pv 0) (pa_cons (pe_bltn (by rfl) (b_bool T) boot_bool rfl) pa_nil))))))))
theorem sc_is_below : FnScope N_is_below ["value", "bound"] (defScope s_is_below) := ⟨rfl, rfl, rfl, by decide +kernel, rfl, by decide +kernel, by decide +kernel⟩
theorem ok_is_below {P : Program} {w : World} {K : PySem.W.Frag} {mg : Str → Option Value} {base : Heap} (T : Txt K mg) (G_is_integer : Okd P w K mg base 1 ("is_integer", none) ["value"] (sp_is_integer K)) : Okd P w K mg base 2 ("is_below", none) ["value", "bound"] (sp_is_below K) := by
  obtain ⟨fd, F⟩ := f_is_below T
  refine okd_mk F sc_is_below len_is_below (fun _ _ _ _ _ _ us hl => match us, hl with | [_, _], _ => rfl) (fun cdv A outer s H E hr => ?_) (pure_is_below (P := P) (w := w))
  have nd := sc_is_below.nd
  exact (pss_one (ps_ret (pe_and (peCall G_is_integer hr (g_is_integer T) (pa_cons (pv 0) pa_nil)) (pe_one (pe_chain op_le op_lt pe_int (pv 0) (pv 1))))))
theorem sc_is_sequence : FnScope N_is_sequence ["value"] (defScope s_is_sequence) := ⟨rfl, rfl, rfl, by decide +kernel, rfl, by decide +kernel, by decide +kernel⟩
theorem ok_is_sequence {P : Program} {w : World} {K : PySem.W.Frag} {mg : Str → Option Value} {base : Heap} (T : Txt K mg)  : Okd P w K mg base 1 ("is_sequence", none) ["value"] (sp_is_sequence K) := by
  obtain ⟨fd, F⟩ := f_is_sequence T
  refine okd_mk F sc_is_sequence len_is_sequence (fun _ _ _ _ _ _ us hl => match us, hl with | [_], _ => rfl) (fun cdv A outer s H E hr => ?_) (pure_is_sequence (P := P) (w := w))
  have nd := sc_is_sequence.nd
  exact (pss_one (ps_ret (pe_callB cr_is2 (by rfl) (b_isinstance T) boot_isinstance (pa_cons (pv 0) (pa_cons (pe_tup (pa_cons (pe_bltn (by rfl) (b_list T) boot_list rfl) (pa_cons (pe_bltn (by rfl) (b_tuple T) boot_tuple rfl) pa_nil))) pa_nil)))))
theorem sc_is_name : FnScope N_is_name ["value"] (defScope s_is_name) := ⟨rfl, rfl, rfl, by decide +kernel, rfl, by decide +kernel, by decide +kernel⟩
theorem ok_is_name {P : Program} {w : World} {K : PySem.W.Frag} {mg : Str → Option Value} {base : Heap} (T : Txt K mg)  : Okd P w K mg base 1 ("is_name", none) ["value"] (sp_is_name K) := by
  obtain ⟨fd, F⟩ := f_is_name T
  refine okd_mk F sc_is_name len_is_name (fun _ _ _ _ _ _ us hl => match us, hl with | [_], _ => rfl) (fun cdv A outer s H E hr => ?_) (pure_is_name (P := P) (w := w))
  have nd := sc_is_name.nd
  exact (pss_cons (ps_if (PW.pt (pw_or (pt_not (pt_val (pe_callB cr_is1 (by rfl) (b_isinstance T) boot_isinstance (pa_cons (pv 0) (pa_cons (pe_bltn (by rfl) (b_str T) boot_str rfl) pa_nil))))) (pw_or1 (pt_not (pt_chain op_le op_le pe_int (pe_callB call_len_str (by rfl) (b_len T) boot_len (pa_cons (pv 0) pa_nil)) (peInt (v_LONGEST T))))))) (pss_one (ps_ret pe_bl)) pss_nil)
    (pss_one (ps_ret (pe_callB (cr_all rfl) (by rfl) (b_all T) boot_all (pa_cons (pe_lc (own := [("sign", 1)]) rfl nd (pi_str (pv 0)) (blkOk_by (N := N_is_name) (sc := defScope s_is_name) (by decide +kernel)) (fun _ _ _ _ _ => (pg_name (i := 1) nd rfl (Or.inl rfl))) (fun _ _ _ _ _ => pts_nil) (fun _ _ _ _ _ => (pe_cmpR op_in_sg (pv 1) (peStr (v_LETTERS T)) rfl))) pa_nil)))))
theorem sc_are_names : FnScope N_are_names ["value"] (defScope s_are_names) := ⟨rfl, rfl, rfl, by decide +kernel, rfl, by decide +kernel, by decide +kernel⟩
theorem ok_are_names {P : Program} {w : World} {K : PySem.W.Frag} {mg : Str → Option Value} {base : Heap} (T : Txt K mg) (G_is_sequence : Okd P w K mg base 1 ("is_sequence", none) ["value"] (sp_is_sequence K)) (G_is_name : Okd P w K mg base 1 ("is_name", none) ["value"] (sp_is_name K)) : Okd P w K mg base 2 ("are_names", none) ["value"] (sp_are_names K) := by
  obtain ⟨fd, F⟩ := f_are_names T
  refine okd_mk F sc_are_names len_are_names (fun _ _ _ _ _ _ us hl => match us, hl with | [_], _ => rfl) (fun cdv A outer s H E hr => ?_) (pure_are_names (P := P) (w := w))
  have nd := sc_are_names.nd
  exact (pss_cons (ps_if (PW.pt (pw_or (pt_not (pt_val (peCall G_is_sequence hr (g_is_sequence T) (pa_cons (pv 0) pa_nil)))) (pw_or1 (pt_cmpR op_eq (pe_callB call_len_seq (by rfl) (b_len T) boot_len (pa_cons (pv 0) pa_nil)) pe_int (nomark _))))) (pss_one (ps_ret pe_bl)) pss_nil)
    (pss_cons (ps_if (pt_not (pt_val (pe_callB (cr_all rfl) (by rfl) (b_all T) boot_all (pa_cons (pe_lc (own := [("name", 1)]) rfl nd (pi_seq (pv 0)) (blkOk_by (N := N_are_names) (sc := defScope s_are_names) (by decide +kernel)) (fun _ _ _ _ _ => (pg_name (i := 1) nd rfl (Or.inl rfl))) (fun _ _ _ _ _ => pts_nil) (fun _ _ _ _ _ => (peCall G_is_name hr (g_is_name T) (pa_cons (pv 1) pa_nil)))) pa_nil)))) (pss_one (ps_ret pe_bl)) pss_nil)
    (pss_one (ps_ret (pe_cmpR op_eq (pe_callB cr_lenSet (by rfl) (b_len T) boot_len (pa_cons (pe_callTy (cr_setOf rfl) (by rfl) (b_set T) boot_set (pa_cons (pv 0) pa_nil)) pa_nil)) (pe_callB call_len_seq (by rfl) (b_len T) boot_len (pa_cons (pv 0) pa_nil)) (nomark _))))))
theorem sc_stretch_cost : FnScope N_stretch_cost ["row", "start", "end", "token"] (defScope s_stretch_cost) := ⟨rfl, rfl, rfl, by decide +kernel, rfl, by decide +kernel, by decide +kernel⟩
theorem ok_stretch_cost {P : Program} {w : World} {K : PySem.W.Frag} {mg : Str → Option Value} {base : Heap} (T : Txt K mg)  : Okd P w K mg base 1 ("stretch_cost", none) ["row", "start", "end", "token"] (sp_stretch_cost K) := by
  obtain ⟨fd, F⟩ := f_stretch_cost T
  refine okd_mk F sc_stretch_cost len_stretch_cost (fun _ _ _ _ _ _ us hl => match us, hl with | [_, _, _, _], _ => rfl) (fun cdv A outer s H E hr => ?_) (pure_stretch_cost (P := P) (w := w))
  have nd := sc_stretch_cost.nd
  exact (pss_cons (ps_if (pt_cmpR op_eq (pv 1) (pv 2) (nomark _)) (pss_one (ps_ret pe_int)) pss_nil)
    (pss_cons (ps_set (i := 4) nd rfl (Or.inl rfl) (pe_op op_sub (pe_op op_sub (pv 2) (pv 1)) pe_int))
    (pss_one (ps_ret (pe_ifExp (pt_cmpR op_in_seq (pv 3) (pe_slice sl_both (pv 0) (po_some (pv 1)) (po_some (pv 2))) rfl) (pv 4) (pe_op op_add (pv 4) pe_int))))))
theorem sc_token_changes : FnScope N_token_changes ["row", "token"] (defScope s_token_changes) := ⟨rfl, rfl, rfl, by decide +kernel, rfl, by decide +kernel, by decide +kernel⟩
theorem ok_token_changes {P : Program} {w : World} {K : PySem.W.Frag} {mg : Str → Option Value} {base : Heap} (T : Txt K mg) (G_stretch_cost : Okd P w K mg base 1 ("stretch_cost", none) ["row", "start", "end", "token"] (sp_stretch_cost K)) : Okd P w K mg base 2 ("token_changes", none) ["row", "token"] (sp_token_changes K) := by
  obtain ⟨fd, F⟩ := f_token_changes T
  refine okd_mk F sc_token_changes len_token_changes (fun _ _ _ _ _ _ us hl => match us, hl with | [_, _], _ => rfl) (fun cdv A outer s H E hr => ?_) (pure_token_changes (P := P) (w := w))
  have nd := sc_token_changes.nd
  exact (pss_one (ps_ret (peCall G_stretch_cost hr (g_stretch_cost T) (pa_cons (pv 0) (pa_cons pe_int (pa_cons (pe_callB call_len_seq (by rfl) (b_len T) boot_len (pa_cons (pv 0) pa_nil)) (pa_cons (pv 1) pa_nil)))))))
theorem sc_is_row : FnScope N_is_row ["grammar", "value"] (defScope s_is_row) := ⟨rfl, rfl, rfl, by decide +kernel, rfl, by decide +kernel, by decide +kernel⟩
theorem ok_is_row {P : Program} {w : World} {K : PySem.W.Frag} {mg : Str → Option Value} {base : Heap} (T : Txt K mg) (G_is_sequence : Okd P w K mg base 1 ("is_sequence", none) ["value"] (sp_is_sequence K)) (G_is_below : Okd P w K mg base 2 ("is_below", none) ["value", "bound"] (sp_is_below K)) : Okd P w K mg base 3 ("is_row", none) ["grammar", "value"] (sp_is_row K) := by
  obtain ⟨fd, F⟩ := f_is_row T
  refine okd_mk F sc_is_row len_is_row (fun _ _ _ _ _ _ us hl => match us, hl with | [_, _], _ => rfl) (fun cdv A outer s H E hr => ?_) (pure_is_row (P := P) (w := w))
  have nd := sc_is_row.nd
  exact (pss_cons (ps_if (pt_not (pt_val (peCall G_is_sequence hr (g_is_sequence T) (pa_cons (pv 1) pa_nil)))) (pss_one (ps_ret pe_bl)) pss_nil)
    (pss_cons (ps_set (i := 2) nd rfl (Or.inr rfl) (pe_callB call_len_seq (by rfl) (b_len T) boot_len (pa_cons (peF (cl_Grammar T) (n_Grammar_tokens T) (pv 0)) pa_nil)))
    (pss_one (ps_ret (pe_callB (cr_all rfl) (by rfl) (b_all T) boot_all (pa_cons (pe_lc (own := [("token", 3)]) rfl nd (pi_seq (pv 1)) (blkOk_by (N := N_is_row) (sc := defScope s_is_row) (by decide +kernel)) (fun _ _ _ _ _ => (pg_name (i := 3) nd rfl (Or.inl rfl))) (fun _ _ _ _ _ => pts_nil) (fun _ _ _ _ _ => (peCall G_is_below hr (g_is_below T) (pa_cons (pv 3) (pa_cons (pv 2) pa_nil))))) pa_nil))))))
theorem sc_row_asked : FnScope N_row_asked ["grammar", "row"] (defScope s_row_asked) := ⟨rfl, rfl, rfl, by decide +kernel, rfl, by decide +kernel, by decide +kernel⟩
theorem ok_row_asked {P : Program} {w : World} {K : PySem.W.Frag} {mg : Str → Option Value} {base : Heap} (T : Txt K mg) (G_is_row : Okd P w K mg base 3 ("is_row", none) ["grammar", "value"] (sp_is_row K)) : Okd P w K mg base 4 ("row_asked", none) ["grammar", "row"] (sp_row_asked K) := by
  obtain ⟨fd, F⟩ := f_row_asked T
  refine okd_mk F sc_row_asked len_row_asked (fun _ _ _ _ _ _ us hl => match us, hl with | [_, _], _ => rfl) (fun cdv A outer s H E hr => ?_) (pure_row_asked (P := P) (w := w))
  have nd := sc_row_asked.nd
  exact (pss_cons (ps_if (pt_not (pt_val (peCall G_is_row hr (g_is_row T) (pa_cons (pv 0) (pa_cons (pv 1) pa_nil))))) (pss_one ps_never) pss_nil)
    (pss_one (ps_ret (pe_callTy call_tuple_of (by rfl) (b_tuple T) boot_tuple (pa_cons (pv 1) pa_nil)))))
theorem sc_Prices_init : FnScope N_Prices_init ["self", "grammar", "row", "numbers"] (defScope s_Prices_init) := ⟨rfl, rfl, rfl, by decide +kernel, rfl, by decide +kernel, by decide +kernel⟩
theorem ok_Prices_init {P : Program} {w : World} {K : PySem.W.Frag} {mg : Str → Option Value} {base : Heap} (T : Txt K mg)  : Okd P w K mg base 1 ("Prices", some "__init__") ["self", "grammar", "row", "numbers"] (sp_Prices_init K) := by
  obtain ⟨fd, F⟩ := f_Prices_init T
  refine okd_mk F sc_Prices_init len_Prices_init (fun _ _ _ _ _ _ us hl => match us, hl with | [_, _, _, _], _ => rfl) (fun cdv A outer s H E hr => ?_) (pure_Prices_init (P := P) (w := w))
  have nd := sc_Prices_init.nd
  exact (pss_cons (psF (cl_Prices T) (n_Prices_count T) (pv 0) (pe_callB call_len_seq (by rfl) (b_len T) boot_len (pa_cons (peF (cl_Grammar T) (n_Grammar_tokens T) (pv 1)) pa_nil)))
    (pss_cons (psF (cl_Prices T) (n_Prices_row T) (pv 0) (pv 2))
    (pss_one (psF (cl_Prices T) (n_Prices_numbers T) (pv 0) (pv 3)))))
theorem sc_Prices_price : FnScope N_Prices_price ["self", "code", "start", "end"] (defScope s_Prices_price) := ⟨rfl, rfl, rfl, by decide +kernel, rfl, by decide +kernel, by decide +kernel⟩
theorem ok_Prices_price {P : Program} {w : World} {K : PySem.W.Frag} {mg : Str → Option Value} {base : Heap} (T : Txt K mg) (G_stretch_cost : Okd P w K mg base 1 ("stretch_cost", none) ["row", "start", "end", "token"] (sp_stretch_cost K)) : Okd P w K mg base 2 ("Prices", some "price") ["self", "code", "start", "end"] (sp_Prices_price K) := by
  obtain ⟨fd, F⟩ := f_Prices_price T
  refine okd_mk F sc_Prices_price len_Prices_price (fun _ _ _ _ _ _ us hl => match us, hl with | [_, _, _, _], _ => rfl) (fun cdv A outer s H E hr => ?_) (pure_Prices_price (P := P) (w := w))
  have nd := sc_Prices_price.nd
  exact (pss_cons (ps_if (pt_cmpR op_lt (pv 1) (peF (cl_Prices T) (n_Prices_count T) (pv 0)) (nomark _)) (pss_one (ps_ret (peCall G_stretch_cost hr (g_stretch_cost T) (pa_cons (peF (cl_Prices T) (n_Prices_row T) (pv 0)) (pa_cons (pv 2) (pa_cons (pv 3) (pa_cons (pv 1) pa_nil))))))) pss_nil)
    (pss_one (ps_ret (pe_dget1 (hu_of hr) (peF (cl_Prices T) (n_Prices_numbers T) (pv 0)) (pe_tup (pa_cons (pe_op op_sub (pv 1) (peF (cl_Prices T) (n_Prices_count T) (pv 0))) (pa_cons (pv 2) (pa_cons (pv 3) pa_nil)))) ⟨rfl, rfl, rfl, rfl⟩))))
theorem sc_added : FnScope N_added ["one", "other"] (defScope s_added) := ⟨rfl, rfl, rfl, by decide +kernel, rfl, by decide +kernel, by decide +kernel⟩
theorem ok_added {P : Program} {w : World} {K : PySem.W.Frag} {mg : Str → Option Value} {base : Heap} (T : Txt K mg)  : Okd P w K mg base 1 ("added", none) ["one", "other"] (sp_added K) := by
  obtain ⟨fd, F⟩ := f_added T
  refine okd_mk F sc_added len_added (fun _ _ _ _ _ _ us hl => match us, hl with | [_, _], _ => rfl) (fun cdv A outer s H E hr => ?_) (pure_added (P := P) (w := w))
  have nd := sc_added.nd
  exact (pss_one (ps_ret (pe_ifExp (PW.pt (pw_or (pt_cmpR op_isN (pv 0) pe_non (nomark _)) (pw_or1 (pt_cmpR op_isN (pv 1) pe_non (nomark _))))) pe_non (pe_op op_add (pv 0) (pv 1)))))
theorem sc_lowest : FnScope N_lowest ["numbers"] (defScope s_lowest) := ⟨rfl, rfl, rfl, by decide +kernel, rfl, by decide +kernel, by decide +kernel⟩
theorem ok_lowest {P : Program} {w : World} {K : PySem.W.Frag} {mg : Str → Option Value} {base : Heap} (T : Txt K mg)  : Okd P w K mg base 1 ("lowest", none) ["numbers"] (sp_lowest K) := by
  obtain ⟨fd, F⟩ := f_lowest T
  refine okd_mk F sc_lowest len_lowest (fun _ _ _ _ _ _ us hl => match us, hl with | [_], _ => rfl) (fun cdv A outer s H E hr => ?_) (pure_lowest (P := P) (w := w))
  have nd := sc_lowest.nd
  exact (pss_one (ps_ret (pe_callBK (cr_minD rfl hr.units) (by rfl) (b_min T) boot_min (pa_cons (pe_lc (own := [("number", 1)]) rfl nd (pi_seq (pv 0)) (blkOk_by (N := N_lowest) (sc := defScope s_lowest) (by decide +kernel)) (fun _ _ _ _ _ => (pg_name (i := 1) nd rfl (Or.inl rfl))) (fun _ _ _ _ _ => (pts_one (pt_cmpR op_notN (pv 1) pe_non (nomark _)))) (fun _ _ _ _ _ => (pv 1))) pa_nil) (pk_cons pe_non pk_nil))))
theorem sc_Tabling_sum_by : FnScope N_Tabling_sum_by ["self", "rule", "dot", "code", "start", "cut", "end"] (defScope s_Tabling_sum_by) := ⟨rfl, rfl, rfl, by decide +kernel, rfl, by decide +kernel, by decide +kernel⟩
theorem ok_Tabling_sum_by {P : Program} {w : World} {K : PySem.W.Frag} {mg : Str → Option Value} {base : Heap} (T : Txt K mg) (G_added : Okd P w K mg base 1 ("added", none) ["one", "other"] (sp_added K)) (G_Prices_price : Okd P w K mg base 2 ("Prices", some "price") ["self", "code", "start", "end"] (sp_Prices_price K)) : Okd P w K mg base 3 ("Tabling", some "sum_by") ["self", "rule", "dot", "code", "start", "cut", "end"] (sp_Tabling_sum_by K) := by
  obtain ⟨fd, F⟩ := f_Tabling_sum_by T
  refine okd_mk F sc_Tabling_sum_by len_Tabling_sum_by (fun _ _ _ _ _ _ us hl => match us, hl with | [_, _, _, _, _, _, _], _ => rfl) (fun cdv A outer s H E hr => ?_) (pure_Tabling_sum_by (P := P) (w := w))
  have nd := sc_Tabling_sum_by.nd
  exact (pss_cons (ps_set (i := 7) nd rfl (Or.inl rfl) (pe_dget (hu_of hr) (peF (cl_Tabling T) (n_Tabling_sums T) (pv 0)) (pe_tup (pa_cons (pv 1) (pa_cons (pv 2) (pa_cons (pv 4) (pa_cons (pv 5) pa_nil))))) (fun _ _ => rfl)))
    (pss_one (ps_ret (pe_ifExp (pt_cmpR op_isN (pv 7) pe_non (nomark _)) pe_non (peCall G_added hr (g_added T) (pa_cons (pv 7) (pa_cons (peMeth G_Prices_price hr (cl_Prices T) (m_Prices_price T) (peF (cl_Tabling T) (n_Tabling_prices T) (pv 0)) (pa_cons (pv 3) (pa_cons (pv 5) (pa_cons (pv 6) pa_nil)))) pa_nil)))))))
theorem sc_Tabling_inner_sums : FnScope N_Tabling_inner_sums ["self", "rule", "start", "end"] (defScope s_Tabling_inner_sums) := ⟨rfl, rfl, rfl, by decide +kernel, rfl, by decide +kernel, by decide +kernel⟩
theorem ok_Tabling_inner_sums {P : Program} {w : World} {K : PySem.W.Frag} {mg : Str → Option Value} {base : Heap} (T : Txt K mg) (G_lowest : Okd P w K mg base 1 ("lowest", none) ["numbers"] (sp_lowest K)) (G_Tabling_sum_by : Okd P w K mg base 3 ("Tabling", some "sum_by") ["self", "rule", "dot", "code", "start", "cut", "end"] (sp_Tabling_sum_by K)) : Okd P w K mg base 4 ("Tabling", some "inner_sums") ["self", "rule", "start", "end"] (sp_Tabling_inner_sums K) := by
  obtain ⟨fd, F⟩ := f_Tabling_inner_sums T
  refine okd_mk F sc_Tabling_inner_sums len_Tabling_inner_sums (fun _ _ _ _ _ _ us hl => match us, hl with | [_, _, _, _], _ => rfl) (fun cdv A outer s H E hr => ?_) (pure_Tabling_inner_sums (P := P) (w := w))
  have nd := sc_Tabling_inner_sums.nd
  exact (pss_cons (ps_set (i := 4) nd rfl (Or.inl rfl) (pe_lst pa_nil))
    (pss_cons (ps_for PassesOwn.never rfl (pi_enumT (by rfl) (b_enumerate T) (pa_cons (pe_ix ix_tup (peF (cl_Grammar T) (n_Grammar_parts T) (peF (cl_Tabling T) (n_Tabling_grammar T) (pv 0))) (pv 1) (fun _ _ => rfl)) pa_nil)) (pg_tup rfl (pgs_cons (pg_name (i := 5) nd rfl (Or.inr rfl)) (pgs_cons (pg_name (i := 6) nd rfl (Or.inr rfl)) pgs_nil))) (pss_one (ps_expr (pe_bm PySem.F.plainAttrs_list PySem.F.slot_list_append PySem.F.type_list_append mt_append (pv 4) (pa_cons (peCall G_lowest hr (g_lowest T) (pa_cons (pe_lc (own := [("cut", 7)]) rfl nd (pi_range2 (by rfl) (b_range T) (pa_cons (pe_op op_add (pv 2) pe_int) (pa_cons (pv 3) pa_nil))) (blkOk_by (N := N_Tabling_inner_sums) (sc := defScope s_Tabling_inner_sums) (by decide +kernel)) (fun _ _ _ _ _ => (pg_name (i := 7) nd rfl (Or.inl rfl))) (fun _ _ _ _ _ => pts_nil) (fun _ _ _ _ _ => (peMeth G_Tabling_sum_by hr (cl_Tabling T) (m_Tabling_sum_by T) (pv 0) (pa_cons (pv 1) (pa_cons (pv 5) (pa_cons (pv 6) (pa_cons (pv 2) (pa_cons (pv 7) (pa_cons (pv 3) pa_nil))))))))) pa_nil)) pa_nil)))))
    (pss_one (ps_ret (pv 4)))))
theorem sc_Tabling_add_up : FnScope N_Tabling_add_up ["self", "rule", "start", "end", "inner"] (defScope s_Tabling_add_up) := ⟨rfl, rfl, rfl, by decide +kernel, rfl, by decide +kernel, by decide +kernel⟩
theorem ok_Tabling_add_up {P : Program} {w : World} {K : PySem.W.Frag} {mg : Str → Option Value} {base : Heap} (T : Txt K mg) (G_Tabling_sum_by : Okd P w K mg base 3 ("Tabling", some "sum_by") ["self", "rule", "dot", "code", "start", "cut", "end"] (sp_Tabling_sum_by K)) (G_lowest : Okd P w K mg base 1 ("lowest", none) ["numbers"] (sp_lowest K)) : Okd P w K mg base 4 ("Tabling", some "add_up") ["self", "rule", "start", "end", "inner"] (sp_Tabling_add_up K) := by
  obtain ⟨fd, F⟩ := f_Tabling_add_up T
  refine okd_mk F sc_Tabling_add_up len_Tabling_add_up (fun _ _ _ _ _ _ us hl => match us, hl with | [_, _, _, _, _], _ => rfl) (fun cdv A outer s H E hr => ?_) (pure_Tabling_add_up (P := P) (w := w))
  have nd := sc_Tabling_add_up.nd
  exact (pss_cons (ps_dput (hu_of hr) (peF (cl_Tabling T) (n_Tabling_sums T) (pv 0)) (pe_tup (pa_cons (pv 1) (pa_cons pe_int (pa_cons (pv 2) (pa_cons (pv 3) pa_nil))))) (pe_ifExp (pt_cmpR op_eq (pv 2) (pv 3) (nomark _)) pe_int pe_non) rfl)
    (pss_one (ps_for PassesOwn.never rfl (pi_enumT (by rfl) (b_enumerate T) (pa_cons (pe_ix ix_tup (peF (cl_Grammar T) (n_Grammar_parts T) (peF (cl_Tabling T) (n_Tabling_grammar T) (pv 0))) (pv 1) (fun _ _ => rfl)) pa_nil)) (pg_tup rfl (pgs_cons (pg_name (i := 5) nd rfl (Or.inl rfl)) (pgs_cons (pg_name (i := 6) nd rfl (Or.inl rfl)) pgs_nil))) (pss_cons (ps_set (i := 7) nd rfl (Or.inl rfl) (peMeth G_Tabling_sum_by hr (cl_Tabling T) (m_Tabling_sum_by T) (pv 0) (pa_cons (pv 1) (pa_cons (pv 5) (pa_cons (pv 6) (pa_cons (pv 2) (pa_cons (pv 2) (pa_cons (pv 3) pa_nil))))))))
    (pss_cons (ps_set (i := 8) nd rfl (Or.inl rfl) (peMeth G_Tabling_sum_by hr (cl_Tabling T) (m_Tabling_sum_by T) (pv 0) (pa_cons (pv 1) (pa_cons (pv 5) (pa_cons (pv 6) (pa_cons (pv 2) (pa_cons (pv 3) (pa_cons (pv 3) pa_nil))))))))
    (pss_one (ps_dput (hu_of hr) (peF (cl_Tabling T) (n_Tabling_sums T) (pv 0)) (pe_tup (pa_cons (pv 1) (pa_cons (pe_op op_add (pv 5) pe_int) (pa_cons (pv 2) (pa_cons (pv 3) pa_nil))))) (peCall G_lowest hr (g_lowest T) (pa_cons (pe_lst (pa_cons (pe_ix ix_list (pv 4) (pv 5) (fun _ _ => rfl)) (pa_cons (pv 7) (pa_cons (pv 8) pa_nil)))) pa_nil)) rfl)))))))
theorem sc_Tabling_by_rule : FnScope N_Tabling_by_rule ["self", "rule", "start", "end"] (defScope s_Tabling_by_rule) := ⟨rfl, rfl, rfl, by decide +kernel, rfl, by decide +kernel, by decide +kernel⟩
theorem ok_Tabling_by_rule {P : Program} {w : World} {K : PySem.W.Frag} {mg : Str → Option Value} {base : Heap} (T : Txt K mg)  : Okd P w K mg base 1 ("Tabling", some "by_rule") ["self", "rule", "start", "end"] (sp_Tabling_by_rule K) := by
  obtain ⟨fd, F⟩ := f_Tabling_by_rule T
  refine okd_mk F sc_Tabling_by_rule len_Tabling_by_rule (fun _ _ _ _ _ _ us hl => match us, hl with | [_, _, _, _], _ => rfl) (fun cdv A outer s H E hr => ?_) (pure_Tabling_by_rule (P := P) (w := w))
  have nd := sc_Tabling_by_rule.nd
  exact (pss_cons (ps_set (i := 4) nd rfl (Or.inl rfl) (pe_callB call_len_seq (by rfl) (b_len T) boot_len (pa_cons (pe_ix ix_tup (peF (cl_Grammar T) (n_Grammar_parts T) (peF (cl_Tabling T) (n_Tabling_grammar T) (pv 0))) (pv 1) (fun _ _ => rfl)) pa_nil)))
    (pss_one (ps_ret (pe_ifExp (pt_cmpR op_gt (pv 4) pe_int (nomark _)) (pe_dget (hu_of hr) (peF (cl_Tabling T) (n_Tabling_sums T) (pv 0)) (pe_tup (pa_cons (pv 1) (pa_cons (pv 4) (pa_cons (pv 2) (pa_cons (pv 3) pa_nil))))) (fun _ _ => rfl)) (pe_op op_sub (pv 3) (pv 2))))))
theorem sc_Tabling_lowers : FnScope N_Tabling_lowers ["self", "rule", "start", "end"] (defScope s_Tabling_lowers) := ⟨rfl, rfl, rfl, by decide +kernel, rfl, by decide +kernel, by decide +kernel⟩
theorem ok_Tabling_lowers {P : Program} {w : World} {K : PySem.W.Frag} {mg : Str → Option Value} {base : Heap} (T : Txt K mg) (G_Tabling_by_rule : Okd P w K mg base 1 ("Tabling", some "by_rule") ["self", "rule", "start", "end"] (sp_Tabling_by_rule K)) : Okd P w K mg base 2 ("Tabling", some "lowers") ["self", "rule", "start", "end"] (sp_Tabling_lowers K) := by
  obtain ⟨fd, F⟩ := f_Tabling_lowers T
  refine okd_mk F sc_Tabling_lowers len_Tabling_lowers (fun _ _ _ _ _ _ us hl => match us, hl with | [_, _, _, _], _ => rfl) (fun cdv A outer s H E hr => ?_) (pure_Tabling_lowers (P := P) (w := w))
  have nd := sc_Tabling_lowers.nd
  exact (pss_cons (ps_set (i := 4) nd rfl (Or.inl rfl) (peMeth G_Tabling_by_rule hr (cl_Tabling T) (m_Tabling_by_rule T) (pv 0) (pa_cons (pv 1) (pa_cons (pv 2) (pa_cons (pv 3) pa_nil)))))
    (pss_cons (ps_set (i := 5) nd rfl (Or.inl rfl) (pe_tup (pa_cons (pe_ix ix_tup (peF (cl_Grammar T) (n_Grammar_heads T) (peF (cl_Tabling T) (n_Tabling_grammar T) (pv 0))) (pv 1) (fun _ _ => rfl)) (pa_cons (pv 2) (pa_cons (pv 3) pa_nil)))))
    (pss_cons (ps_if (PW.pt (pw_or (pt_cmpR op_isN (pv 4) pe_non (nomark _)) (pw_or1 (PW.pt (pw_and (pt_cmp (pc_din (hu_of hr) (pv 5) (peF (cl_Tabling T) (n_Tabling_numbers T) (pv 0))) rfl) (pw_and1 (pt_cmpR op_le (pe_dget (hu_of hr) (peF (cl_Tabling T) (n_Tabling_numbers T) (pv 0)) (pv 5) (fun _ _ => rfl)) (pv 4) (nomark _)))))))) (pss_one (ps_ret pe_bl)) pss_nil)
    (pss_cons (ps_dput (hu_of hr) (peF (cl_Tabling T) (n_Tabling_numbers T) (pv 0)) (pv 5) (pv 4) rfl)
    (pss_one (ps_ret pe_bl))))))
theorem sc_Tabling_lay : FnScope N_Tabling_lay ["self", "start", "end"] (defScope s_Tabling_lay) := ⟨rfl, rfl, rfl, by decide +kernel, rfl, by decide +kernel, by decide +kernel⟩
theorem ok_Tabling_lay {P : Program} {w : World} {K : PySem.W.Frag} {mg : Str → Option Value} {base : Heap} (T : Txt K mg) (G_Tabling_inner_sums : Okd P w K mg base 4 ("Tabling", some "inner_sums") ["self", "rule", "start", "end"] (sp_Tabling_inner_sums K)) (G_Tabling_add_up : Okd P w K mg base 4 ("Tabling", some "add_up") ["self", "rule", "start", "end", "inner"] (sp_Tabling_add_up K)) (G_Tabling_lowers : Okd P w K mg base 2 ("Tabling", some "lowers") ["self", "rule", "start", "end"] (sp_Tabling_lowers K)) : Okd P w K mg base 5 ("Tabling", some "lay") ["self", "start", "end"] (sp_Tabling_lay K) := by
  obtain ⟨fd, F⟩ := f_Tabling_lay T
  refine okd_mk F sc_Tabling_lay len_Tabling_lay (fun _ _ _ _ _ _ us hl => match us, hl with | [_, _, _], _ => rfl) (fun cdv A outer s H E hr => ?_) (pure_Tabling_lay (P := P) (w := w))
  have nd := sc_Tabling_lay.nd
  exact (pss_cons (ps_set (i := 3) nd rfl (Or.inl rfl) (pe_callTy cr_range1 (by rfl) (b_range T) boot_range (pa_cons (pe_callB call_len_seq (by rfl) (b_len T) boot_len (pa_cons (peF (cl_Grammar T) (n_Grammar_rules T) (peF (cl_Tabling T) (n_Tabling_grammar T) (pv 0))) pa_nil)) pa_nil)))
    (pss_cons (ps_setLc (i := 4) (own := [("rule", 6)]) rfl nd rfl rfl (sw_true rfl rfl rfl (by decide +kernel)) (pi_rngV (pv 3)) (blkOk_by (N := N_Tabling_lay) (sc := defScope s_Tabling_lay) (by decide +kernel)) (fun _ _ _ _ _ => (pg_name (i := 6) nd rfl (Or.inl rfl))) (fun _ _ _ _ _ => pts_nil) (fun _ _ _ _ _ => (peMeth G_Tabling_inner_sums hr (cl_Tabling T) (m_Tabling_inner_sums T) (pv 0) (pa_cons (pv 6) (pa_cons (pv 1) (pa_cons (pv 2) pa_nil))))))
    (pss_cons (ps_if (pt_cmp (pc_din (hu_of hr) (pe_tup (pa_cons pe_int (pa_cons (pv 1) (pa_cons (pv 2) pa_nil)))) (peF (cl_Tabling T) (n_Tabling_numbers T) (pv 0))) rfl) (pss_cons (ps_for PassesOwn.never rfl (pi_rngV (pv 3)) (pg_name (i := 6) nd rfl (Or.inl rfl)) (pss_one (ps_expr (peMeth G_Tabling_add_up hr (cl_Tabling T) (m_Tabling_add_up T) (pv 0) (pa_cons (pv 6) (pa_cons (pv 1) (pa_cons (pv 2) (pa_cons (pe_ix ix_list (pv 4) (pv 6) (fun _ _ => rfl)) pa_nil))))))))
    (pss_one ps_retN)) pss_nil)
    (pss_cons (psFAug (cl_Tabling T) (n_Tabling_made T) (pv 0) (pe_callB call_len_seq (by rfl) (b_len T) boot_len (pa_cons (peF (cl_Grammar T) (n_Grammar_groups T) (peF (cl_Tabling T) (n_Tabling_grammar T) (pv 0))) pa_nil)) in_add)
    (pss_cons (ps_set (i := 5) nd rfl (Or.inl rfl) pe_bl)
    (pss_one (ps_while PassesOwn.never (pt_val (pv 5)) (pss_cons (ps_set (i := 5) nd rfl (Or.inl rfl) pe_bl)
    (pss_one (ps_for PassesOwn.never rfl (pi_rngV (pv 3)) (pg_name (i := 6) nd rfl (Or.inl rfl)) (pss_cons (ps_expr (peMeth G_Tabling_add_up hr (cl_Tabling T) (m_Tabling_add_up T) (pv 0) (pa_cons (pv 6) (pa_cons (pv 1) (pa_cons (pv 2) (pa_cons (pe_ix ix_list (pv 4) (pv 6) (fun _ _ => rfl)) pa_nil))))))
    (pss_one (ps_if (pt_val (peMeth G_Tabling_lowers hr (cl_Tabling T) (m_Tabling_lowers T) (pv 0) (pa_cons (pv 6) (pa_cons (pv 1) (pa_cons (pv 2) pa_nil))))) (pss_one (ps_set (i := 5) nd rfl (Or.inl rfl) pe_bl)) pss_nil)))))))))))))
theorem sc_Tabling_init : FnScope N_Tabling_init ["self", "grammar", "row", "known"] (defScope s_Tabling_init) := ⟨rfl, rfl, rfl, by decide +kernel, rfl, by decide +kernel, by decide +kernel⟩
theorem ok_Tabling_init {P : Program} {w : World} {K : PySem.W.Frag} {mg : Str → Option Value} {base : Heap} (T : Txt K mg) (G_Prices_init : Okd P w K mg base 1 ("Prices", some "__init__") ["self", "grammar", "row", "numbers"] (sp_Prices_init K)) (G_Tabling_lay : Okd P w K mg base 5 ("Tabling", some "lay") ["self", "start", "end"] (sp_Tabling_lay K)) : Okd P w K mg base 6 ("Tabling", some "__init__") ["self", "grammar", "row", "known"] (sp_Tabling_init K) := by
  obtain ⟨fd, F⟩ := f_Tabling_init T
  refine okd_mk F sc_Tabling_init len_Tabling_init (fun _ _ _ _ _ _ us hl => match us, hl with | [_, _, _, _], _ => rfl) (fun cdv A outer s H E hr => ?_) (pure_Tabling_init (P := P) (w := w))
  have nd := sc_Tabling_init.nd
  exact (pss_cons (psF (cl_Tabling T) (n_Tabling_grammar T) (pv 0) (pv 1))
    (pss_cons (psF (cl_Tabling T) (n_Tabling_row T) (pv 0) (pv 2))
    (pss_cons (psF (cl_Tabling T) (n_Tabling_numbers T) (pv 0) (pe_lock (pe_dcT (own := [("key", 6)]) hr.units rfl nd (pi_keys (pv 3)) (blkOk_by (N := N_Tabling_init) (sc := defScope s_Tabling_init) (by decide +kernel)) (fun _ _ _ _ _ => (pg_name (i := 6) nd rfl (Or.inl rfl))) (fun _ _ _ _ _ => pts_nil) (fun _ _ _ _ _ => (pv 6)) (fun _ _ _ _ _ => (pe_dget (hu_of hr) (pv 3) (pv 6) (fun _ _ => rfl))))))
    (pss_cons (psF (cl_Tabling T) (n_Tabling_prices T) (pv 0) (peMake G_Prices_init hr (g_Prices T) (mk_Prices T) (pa_cons (pv 1) (pa_cons (pv 2) (pa_cons (peF (cl_Tabling T) (n_Tabling_numbers T) (pv 0)) pa_nil)))))
    (pss_cons (psF (cl_Tabling T) (n_Tabling_sums T) (pv 0) pe_dnewT)
    (pss_cons (psF (cl_Tabling T) (n_Tabling_made T) (pv 0) pe_int)
    (pss_one (ps_for PassesOwn.never rfl (pi_range1 (by rfl) (b_range T) (pa_cons (pe_op op_add (pe_callB call_len_seq (by rfl) (b_len T) boot_len (pa_cons (pv 2) pa_nil)) pe_int) pa_nil)) (pg_name (i := 4) nd rfl (Or.inl rfl)) (pss_one (ps_for PassesOwn.never rfl (pi_range1 (by rfl) (b_range T) (pa_cons (pe_op op_sub (pe_op op_add (pe_callB call_len_seq (by rfl) (b_len T) boot_len (pa_cons (pv 2) pa_nil)) pe_int) (pv 4)) pa_nil)) (pg_name (i := 5) nd rfl (Or.inl rfl)) (pss_one (ps_expr (peMeth G_Tabling_lay hr (cl_Tabling T) (m_Tabling_lay T) (pv 0) (pa_cons (pv 5) (pa_cons (pe_op op_add (pv 5) (pv 4)) pa_nil)))))))))))))))
theorem sc_least_changes : FnScope N_least_changes ["grammar", "row"] (defScope s_least_changes) := ⟨rfl, rfl, rfl, by decide +kernel, rfl, by decide +kernel, by decide +kernel⟩
theorem ok_least_changes {P : Program} {w : World} {K : PySem.W.Frag} {mg : Str → Option Value} {base : Heap} (T : Txt K mg) (G_row_asked : Okd P w K mg base 4 ("row_asked", none) ["grammar", "row"] (sp_row_asked K)) (G_Tabling_init : Okd P w K mg base 6 ("Tabling", some "__init__") ["self", "grammar", "row", "known"] (sp_Tabling_init K)) : Okd P w K mg base 8 ("least_changes", none) ["grammar", "row"] (sp_least_changes K) := by
  obtain ⟨fd, F⟩ := f_least_changes T
  refine okd_mk F sc_least_changes len_least_changes (fun _ _ _ _ _ _ us hl => match us, hl with | [_, _], _ => rfl) (fun cdv A outer s H E hr => ?_) (pure_least_changes (P := P) (w := w))
  have nd := sc_least_changes.nd
  exact (pss_cons (ps_set (i := 1) nd rfl (Or.inl rfl) (peCall G_row_asked hr (g_row_asked T) (pa_cons (pv 0) (pa_cons (pv 1) pa_nil))))
    (pss_one (ps_ret (pe_dget (hu_of hr) (peF (cl_Tabling T) (n_Tabling_numbers T) (peMake G_Tabling_init hr (g_Tabling T) (mk_Tabling T) (pa_cons (pv 0) (pa_cons (pv 1) (pa_cons pe_dnewT pa_nil))))) (pe_tup (pa_cons pe_int (pa_cons pe_int (pa_cons (pe_callB call_len_seq (by rfl) (b_len T) boot_len (pa_cons (pv 1) pa_nil)) pa_nil)))) (fun _ _ => rfl)))))
theorem sc_marked_ones : FnScope N_marked_ones ["line"] (defScope s_marked_ones) := ⟨rfl, rfl, rfl, by decide +kernel, rfl, by decide +kernel, by decide +kernel⟩
theorem ok_marked_ones {P : Program} {w : World} {K : PySem.W.Frag} {mg : Str → Option Value} {base : Heap} (T : Txt K mg)  : Okd P w K mg base 1 ("marked_ones", none) ["line"] (sp_marked_ones K) := by
  obtain ⟨fd, F⟩ := f_marked_ones T
  refine okd_mk F sc_marked_ones len_marked_ones (fun _ _ _ _ _ _ us hl => match us, hl with | [_], _ => rfl) (fun cdv A outer s H E hr => ?_) (pure_marked_ones (P := P) (w := w))
  have nd := sc_marked_ones.nd
  exact (pss_one (ps_ret (pe_callTy call_tuple_of (by rfl) (b_tuple T) boot_tuple (pa_cons (pe_lc (own := [("place", 1), ("mark", 2)]) rfl nd (pi_enum (by rfl) (b_enumerate T) (pa_cons (pv 0) pa_nil)) (blkOk_by (N := N_marked_ones) (sc := defScope s_marked_ones) (by decide +kernel)) (fun _ _ _ _ _ => (pg_tup rfl (pgs_cons (pg_name (i := 1) nd rfl (Or.inl rfl)) (pgs_cons (pg_name (i := 2) nd rfl (Or.inl rfl)) pgs_nil)))) (fun _ _ _ _ _ => (pts_one (pt_val (pv 2)))) (fun _ _ _ _ _ => (pv 1))) pa_nil))))
theorem sc_can_stand : FnScope N_can_stand ["count", "found", "codes"] (defScope s_can_stand) := ⟨rfl, rfl, rfl, by decide +kernel, rfl, by decide +kernel, by decide +kernel⟩
theorem ok_can_stand {P : Program} {w : World} {K : PySem.W.Frag} {mg : Str → Option Value} {base : Heap} (T : Txt K mg)  : Okd P w K mg base 1 ("can_stand", none) ["count", "found", "codes"] (sp_can_stand K) := by
  obtain ⟨fd, F⟩ := f_can_stand T
  refine okd_mk F sc_can_stand len_can_stand (fun _ _ _ _ _ _ us hl => match us, hl with | [_, _, _], _ => rfl) (fun cdv A outer s H E hr => ?_) (pure_can_stand (P := P) (w := w))
  have nd := sc_can_stand.nd
  exact (pss_one (ps_ret (pe_callB (cr_all rfl) (by rfl) (b_all T) boot_all (pa_cons (pe_lc (own := [("code", 3)]) rfl nd (pi_seq (pv 2)) (blkOk_by (N := N_can_stand) (sc := defScope s_can_stand) (by decide +kernel)) (fun _ _ _ _ _ => (pg_name (i := 3) nd rfl (Or.inl rfl))) (fun _ _ _ _ _ => pts_nil) (fun _ _ _ _ _ => (pe_or (pe_cmpR op_lt (pv 3) (pv 0) (nomark _)) (pe_one (pe_ix ix_list (pv 1) (pe_op op_sub (pv 3) (pv 0)) (fun _ _ => rfl)))))) pa_nil))))
theorem sc_with_trees : FnScope N_with_trees ["count", "groups", "heads", "parts"] (defScope s_with_trees) := ⟨rfl, rfl, rfl, by decide +kernel, rfl, by decide +kernel, by decide +kernel⟩
theorem ok_with_trees {P : Program} {w : World} {K : PySem.W.Frag} {mg : Str → Option Value} {base : Heap} (T : Txt K mg) (G_can_stand : Okd P w K mg base 1 ("can_stand", none) ["count", "found", "codes"] (sp_can_stand K)) : Okd P w K mg base 2 ("with_trees", none) ["count", "groups", "heads", "parts"] (sp_with_trees K) := by
  obtain ⟨fd, F⟩ := f_with_trees T
  refine okd_mk F sc_with_trees len_with_trees (fun _ _ _ _ _ _ us hl => match us, hl with | [_, _, _, _], _ => rfl) (fun cdv A outer s H E hr => ?_) (pure_with_trees (P := P) (w := w))
  have nd := sc_with_trees.nd
  exact (pss_cons (ps_set (i := 4) nd rfl (Or.inl rfl) (pe_op op_rep (pe_lst (pa_cons pe_bl pa_nil)) (pv 1)))
    (pss_cons (ps_set (i := 5) nd rfl (Or.inl rfl) pe_bl)
    (pss_cons (ps_while PassesOwn.never (pt_val (pv 5)) (pss_cons (ps_set (i := 5) nd rfl (Or.inl rfl) pe_bl)
    (pss_one (ps_for PassesOwn.never rfl (pi_enumT (by rfl) (b_enumerate T) (pa_cons (pv 2) pa_nil)) (pg_tup rfl (pgs_cons (pg_name (i := 6) nd rfl (Or.inl rfl)) (pgs_cons (pg_name (i := 7) nd rfl (Or.inl rfl)) pgs_nil))) (pss_one (ps_if (PW.pt (pw_and (pt_not (pt_val (pe_ix ix_list (pv 4) (pv 7) (fun _ _ => rfl)))) (pw_and1 (pt_val (peCall G_can_stand hr (g_can_stand T) (pa_cons (pv 0) (pa_cons (pv 4) (pa_cons (pe_ix ix_list (pv 3) (pv 6) (fun _ _ => rfl)) pa_nil)))))))) (pss_cons (ps_asg pe_bl (pg_sub (pv 4) (pv 7) set_list))
    (pss_one (ps_set (i := 5) nd rfl (Or.inl rfl) pe_bl))) pss_nil))))))
    (pss_one (ps_ret (pv 4))))))
theorem sc_reached : FnScope N_reached ["count", "groups", "heads", "parts", "whole"] (defScope s_reached) := ⟨rfl, rfl, rfl, by decide +kernel, rfl, by decide +kernel, by decide +kernel⟩
theorem ok_reached {P : Program} {w : World} {K : PySem.W.Frag} {mg : Str → Option Value} {base : Heap} (T : Txt K mg)  : Okd P w K mg base 1 ("reached", none) ["count", "groups", "heads", "parts", "whole"] (sp_reached K) := by
  obtain ⟨fd, F⟩ := f_reached T
  refine okd_mk F sc_reached len_reached (fun _ _ _ _ _ _ us hl => match us, hl with | [_, _, _, _, _], _ => rfl) (fun cdv A outer s H E hr => ?_) (pure_reached (P := P) (w := w))
  have nd := sc_reached.nd
  exact (pss_cons (ps_set (i := 5) nd rfl (Or.inl rfl) (pe_op op_rep (pe_lst (pa_cons pe_bl pa_nil)) (pv 1)))
    (pss_cons (ps_asg pe_bl (pg_sub (pv 5) pe_int set_list))
    (pss_cons (ps_set (i := 6) nd rfl (Or.inl rfl) (pe_lst (pa_cons pe_int pa_nil)))
    (pss_cons (ps_while PassesOwn.never (ptTru (pv 6)) (pss_cons (ps_set (i := 7) nd rfl (Or.inl rfl) (pe_bm0 PySem.F.plainAttrs_list PySem.F.slot_list_pop PySem.F.type_list_pop mt_pop (pv 6)))
    (pss_one (ps_for PassesOwn.never rfl (pi_enumT (by rfl) (b_enumerate T) (pa_cons (pv 2) pa_nil)) (pg_tup rfl (pgs_cons (pg_name (i := 8) nd rfl (Or.inl rfl)) (pgs_cons (pg_name (i := 9) nd rfl (Or.inl rfl)) pgs_nil))) (pss_cons (ps_if (PW.pt (pw_or (pt_cmpR op_ne (pv 9) (pv 7) (nomark _)) (pw_or1 (pt_not (pt_val (pe_ix ix_list (pv 4) (pv 8) (fun _ _ => rfl))))))) (pss_one ps_continue) pss_nil)
    (pss_one (ps_for PassesOwn.never rfl (pi_seq (pe_ix ix_list (pv 3) (pv 8) (fun _ _ => rfl))) (pg_name (i := 10) nd rfl (Or.inl rfl)) (pss_one (ps_if (PW.pt (pw_and (pt_cmpR op_ge (pv 10) (pv 0) (nomark _)) (pw_and1 (pt_not (pt_val (pe_ix ix_list (pv 5) (pe_op op_sub (pv 10) (pv 0)) (fun _ _ => rfl))))))) (pss_cons (ps_asg pe_bl (pg_sub (pv 5) (pe_op op_sub (pv 10) (pv 0)) set_list))
    (pss_one (ps_expr (pe_bm PySem.F.plainAttrs_list PySem.F.slot_list_append PySem.F.type_list_append mt_append (pv 6) (pa_cons (pe_op op_sub (pv 10) (pv 0)) pa_nil))))) pss_nil)))))))))
    (pss_one (ps_ret (pv 5)))))))
theorem sc_useless_rules : FnScope N_useless_rules ["count", "groups", "heads", "parts"] (defScope s_useless_rules) := ⟨rfl, rfl, rfl, by decide +kernel, rfl, by decide +kernel, by decide +kernel⟩
theorem ok_useless_rules {P : Program} {w : World} {K : PySem.W.Frag} {mg : Str → Option Value} {base : Heap} (T : Txt K mg) (G_with_trees : Okd P w K mg base 2 ("with_trees", none) ["count", "groups", "heads", "parts"] (sp_with_trees K)) (G_reached : Okd P w K mg base 1 ("reached", none) ["count", "groups", "heads", "parts", "whole"] (sp_reached K)) (G_can_stand : Okd P w K mg base 1 ("can_stand", none) ["count", "found", "codes"] (sp_can_stand K)) : Okd P w K mg base 3 ("useless_rules", none) ["count", "groups", "heads", "parts"] (sp_useless_rules K) := by
  obtain ⟨fd, F⟩ := f_useless_rules T
  refine okd_mk F sc_useless_rules len_useless_rules (fun _ _ _ _ _ _ us hl => match us, hl with | [_, _, _, _], _ => rfl) (fun cdv A outer s H E hr => ?_) (pure_useless_rules (P := P) (w := w))
  have nd := sc_useless_rules.nd
  exact (pss_cons (ps_set (i := 4) nd rfl (Or.inr rfl) (peCall G_with_trees hr (g_with_trees T) (pa_cons (pv 0) (pa_cons (pv 1) (pa_cons (pv 2) (pa_cons (pv 3) pa_nil))))))
    (pss_cons (ps_set (i := 5) nd rfl (Or.inr rfl) (pe_lc (own := [("codes", 7)]) rfl nd (pi_seq (pv 3)) (blkOk_by (N := N_useless_rules) (sc := defScope s_useless_rules) (by decide +kernel)) (fun _ _ _ _ _ => (pg_name (i := 7) nd rfl (Or.inl rfl))) (fun _ _ _ _ _ => pts_nil) (fun _ _ _ _ _ => (peCall G_can_stand hr (g_can_stand T) (pa_cons (pv 0) (pa_cons (pv 4) (pa_cons (pv 7) pa_nil)))))))
    (pss_cons (ps_set (i := 6) nd rfl (Or.inr rfl) (peCall G_reached hr (g_reached T) (pa_cons (pv 0) (pa_cons (pv 1) (pa_cons (pv 2) (pa_cons (pv 3) (pa_cons (pv 5) pa_nil)))))))
    (pss_one (ps_ret (pe_lc (own := [("rule", 8), ("head", 9)]) rfl nd (pi_enumT (by rfl) (b_enumerate T) (pa_cons (pv 2) pa_nil)) (blkOk_by (N := N_useless_rules) (sc := defScope s_useless_rules) (by decide +kernel)) (fun _ _ _ _ _ => (pg_tup rfl (pgs_cons (pg_name (i := 8) nd rfl (Or.inl rfl)) (pgs_cons (pg_name (i := 9) nd rfl (Or.inl rfl)) pgs_nil)))) (fun _ _ _ _ _ => (pts_one (PW.pt (pw_or (pt_not (pt_val (pe_ix ix_list (pv 5) (pv 8) (fun _ _ => rfl)))) (pw_or1 (pt_not (pt_val (pe_ix ix_list (pv 6) (pv 9) (fun _ _ => rfl))))))))) (fun _ _ _ _ _ => (pv 8))))))))
theorem sc_rules_with : FnScope N_rules_with ["heads", "group"] (defScope s_rules_with) := ⟨rfl, rfl, rfl, by decide +kernel, rfl, by decide +kernel, by decide +kernel⟩
theorem ok_rules_with {P : Program} {w : World} {K : PySem.W.Frag} {mg : Str → Option Value} {base : Heap} (T : Txt K mg)  : Okd P w K mg base 1 ("rules_with", none) ["heads", "group"] (sp_rules_with K) := by
  obtain ⟨fd, F⟩ := f_rules_with T
  refine okd_mk F sc_rules_with len_rules_with (fun _ _ _ _ _ _ us hl => match us, hl with | [_, _], _ => rfl) (fun cdv A outer s H E hr => ?_) (pure_rules_with (P := P) (w := w))
  have nd := sc_rules_with.nd
  exact (pss_one (ps_ret (pe_callTy call_tuple_of (by rfl) (b_tuple T) boot_tuple (pa_cons (pe_lc (own := [("rule", 2), ("head", 3)]) rfl nd (pi_enumT (by rfl) (b_enumerate T) (pa_cons (pv 0) pa_nil)) (blkOk_by (N := N_rules_with) (sc := defScope s_rules_with) (by decide +kernel)) (fun _ _ _ _ _ => (pg_tup rfl (pgs_cons (pg_name (i := 2) nd rfl (Or.inl rfl)) (pgs_cons (pg_name (i := 3) nd rfl (Or.inl rfl)) pgs_nil)))) (fun _ _ _ _ _ => (pts_one (pt_cmpR op_eq (pv 3) (pv 1) (nomark _)))) (fun _ _ _ _ _ => (pv 2))) pa_nil))))
theorem sc_groups_in : FnScope N_groups_in ["rules"] (defScope s_groups_in) := ⟨rfl, rfl, rfl, by decide +kernel, rfl, by decide +kernel, by decide +kernel⟩
theorem ok_groups_in {P : Program} {w : World} {K : PySem.W.Frag} {mg : Str → Option Value} {base : Heap} (T : Txt K mg)  : Okd P w K mg base 1 ("groups_in", none) ["rules"] (sp_groups_in K) := by
  obtain ⟨fd, F⟩ := f_groups_in T
  refine okd_mk F sc_groups_in len_groups_in (fun _ _ _ _ _ _ us hl => match us, hl with | [_], _ => rfl) (fun cdv A outer s H E hr => ?_) (pure_groups_in (P := P) (w := w))
  have nd := sc_groups_in.nd
  exact (pss_cons (ps_set (i := 1) nd rfl (Or.inl rfl) (pe_lst pa_nil))
    (pss_cons (ps_for PassesOwn.never rfl (pi_seq (pv 0)) (pg_tup rfl (pgs_cons (pg_name (i := 2) nd rfl (Or.inl rfl)) (pgs_cons (pg_name (i := 3) nd rfl (Or.inl rfl)) pgs_nil))) (pss_one (ps_if (pt_cmpR op_notIn_seq (pv 2) (pv 1) rfl) (pss_one (ps_expr (pe_bm PySem.F.plainAttrs_list PySem.F.slot_list_append PySem.F.type_list_append mt_append (pv 1) (pa_cons (pv 2) pa_nil)))) pss_nil)))
    (pss_one (ps_ret (pe_callTy call_tuple_of (by rfl) (b_tuple T) boot_tuple (pa_cons (pv 1) pa_nil))))))
theorem sc_is_rule_pair : FnScope N_is_rule_pair ["value"] (defScope s_is_rule_pair) := ⟨rfl, rfl, rfl, by decide +kernel, rfl, by decide +kernel, by decide +kernel⟩
theorem ok_is_rule_pair {P : Program} {w : World} {K : PySem.W.Frag} {mg : Str → Option Value} {base : Heap} (T : Txt K mg) (G_is_name : Okd P w K mg base 1 ("is_name", none) ["value"] (sp_is_name K)) : Okd P w K mg base 2 ("is_rule_pair", none) ["value"] (sp_is_rule_pair K) := by
  obtain ⟨fd, F⟩ := f_is_rule_pair T
  refine okd_mk F sc_is_rule_pair len_is_rule_pair (fun _ _ _ _ _ _ us hl => match us, hl with | [_], _ => rfl) (fun cdv A outer s H E hr => ?_) (pure_is_rule_pair (P := P) (w := w))
  have nd := sc_is_rule_pair.nd
  exact (pss_cons (ps_if (PW.pt (pw_or (pt_not (pt_val (pe_callB cr_is1 (by rfl) (b_isinstance T) boot_isinstance (pa_cons (pv 0) (pa_cons (pe_bltn (by rfl) (b_tuple T) boot_tuple rfl) pa_nil))))) (pw_or1 (pt_cmpR op_ne (pe_callB call_len_seq (by rfl) (b_len T) boot_len (pa_cons (pv 0) pa_nil)) pe_int (nomark _))))) (pss_one (ps_ret pe_bl)) pss_nil)
    (pss_cons (ps_asg (pv 0) (pg_tup rfl (pgs_cons (pg_name (i := 1) nd rfl (Or.inl rfl)) (pgs_cons (pg_name (i := 2) nd rfl (Or.inl rfl)) pgs_nil))))
    (pss_cons (ps_if (PW.pt (pw_or (pt_not (pt_val (peCall G_is_name hr (g_is_name T) (pa_cons (pv 1) pa_nil)))) (pw_or1 (pt_not (pt_val (pe_callB cr_is1 (by rfl) (b_isinstance T) boot_isinstance (pa_cons (pv 2) (pa_cons (pe_bltn (by rfl) (b_tuple T) boot_tuple rfl) pa_nil)))))))) (pss_one (ps_ret pe_bl)) pss_nil)
    (pss_one (ps_ret (pe_callB (cr_all rfl) (by rfl) (b_all T) boot_all (pa_cons (pe_lc (own := [("part", 3)]) rfl nd (pi_seq (pv 2)) (blkOk_by (N := N_is_rule_pair) (sc := defScope s_is_rule_pair) (by decide +kernel)) (fun _ _ _ _ _ => (pg_name (i := 3) nd rfl (Or.inl rfl))) (fun _ _ _ _ _ => pts_nil) (fun _ _ _ _ _ => (peCall G_is_name hr (g_is_name T) (pa_cons (pv 3) pa_nil)))) pa_nil)))))))
theorem sc_are_rules : FnScope N_are_rules ["tokens", "value"] (defScope s_are_rules) := ⟨rfl, rfl, rfl, by decide +kernel, rfl, by decide +kernel, by decide +kernel⟩
theorem ok_are_rules {P : Program} {w : World} {K : PySem.W.Frag} {mg : Str → Option Value} {base : Heap} (T : Txt K mg) (G_is_sequence : Okd P w K mg base 1 ("is_sequence", none) ["value"] (sp_is_sequence K)) (G_is_rule_pair : Okd P w K mg base 2 ("is_rule_pair", none) ["value"] (sp_is_rule_pair K)) : Okd P w K mg base 3 ("are_rules", none) ["tokens", "value"] (sp_are_rules K) := by
  obtain ⟨fd, F⟩ := f_are_rules T
  refine okd_mk F sc_are_rules len_are_rules (fun _ _ _ _ _ _ us hl => match us, hl with | [_, _], _ => rfl) (fun cdv A outer s H E hr => ?_) (pure_are_rules (P := P) (w := w))
  have nd := sc_are_rules.nd
  exact (pss_cons (ps_if (PW.pt (pw_or (pt_not (pt_val (peCall G_is_sequence hr (g_is_sequence T) (pa_cons (pv 1) pa_nil)))) (pw_or1 (pt_cmpR op_eq (pe_callB call_len_seq (by rfl) (b_len T) boot_len (pa_cons (pv 1) pa_nil)) pe_int (nomark _))))) (pss_one (ps_ret pe_bl)) pss_nil)
    (pss_cons (ps_if (pt_not (pt_val (pe_callB (cr_all rfl) (by rfl) (b_all T) boot_all (pa_cons (pe_lc (own := [("pair", 5)]) rfl nd (pi_seq (pv 1)) (blkOk_by (N := N_are_rules) (sc := defScope s_are_rules) (by decide +kernel)) (fun _ _ _ _ _ => (pg_name (i := 5) nd rfl (Or.inl rfl))) (fun _ _ _ _ _ => pts_nil) (fun _ _ _ _ _ => (peCall G_is_rule_pair hr (g_is_rule_pair T) (pa_cons (pv 5) pa_nil)))) pa_nil)))) (pss_one (ps_ret pe_bl)) pss_nil)
    (pss_cons (ps_set (i := 2) nd rfl (Or.inr rfl) (pe_dc (own := [("name", 3)]) rfl nd (pi_seq (pv 0)) (blkOk_by (N := N_are_rules) (sc := defScope s_are_rules) (by decide +kernel)) (fun _ _ _ _ _ => (pg_name (i := 3) nd rfl (Or.inl rfl))) (fun _ _ _ _ _ => pts_nil) (fun _ _ _ _ _ => (pv 3)) (fun _ _ _ _ _ => pe_bl)))
    (pss_cons (ps_for PassesOwn.never rfl (pi_seq (pv 1)) (pg_tup rfl (pgs_cons (pg_name (i := 3) nd rfl (Or.inl rfl)) (pgs_cons (pg_name (i := 4) nd rfl (Or.inl rfl)) pgs_nil))) (pss_cons (ps_if (pt_cmpR op_in_seq (pv 3) (pv 0) rfl) (pss_one (ps_ret pe_bl)) pss_nil)
    (pss_one (ps_dput (hu_of hr) (pv 2) (pv 3) pe_bl rfl))))
    (pss_cons (ps_if (pt_not (pt_val (pe_callB (cr_all rfl) (by rfl) (b_all T) boot_all (pa_cons (pe_lc2 (own := [("name", 3), ("parts", 4), ("part", 6)]) (vs1 := [6]) rfl nd (pi_seq (pv 1)) (blkOk_by (N := N_are_rules) (sc := defScope s_are_rules) (by decide +kernel)) (by decide) (fun _ _ _ _ _ => (pg_tup rfl (pgs_cons (pg_name (i := 3) nd rfl (Or.inl rfl)) (pgs_cons (pg_name (i := 4) nd rfl (Or.inl rfl)) pgs_nil)))) (fun _ _ _ _ _ => pts_nil) (fun _ _ _ _ _ => (pi_seq (pv 4))) (fun _ _ _ _ _ => (pg_name (i := 6) nd rfl (Or.inl rfl))) (fun _ _ _ _ _ => pts_nil) (fun _ _ _ _ _ => (pe_cmp (pc_din (hu_of hr) (pv 6) (pv 2)) rfl))) pa_nil)))) (pss_one (ps_ret pe_bl)) pss_nil)
    (pss_one (ps_ret (pe_cmpR op_eq (pe_callB cr_lenSetN (by rfl) (b_len T) boot_len (pa_cons (pe_sz (own := [("name", 3), ("parts", 4)]) hr.units rfl nd (pi_seq (pv 1)) (blkOk_by (N := N_are_rules) (sc := defScope s_are_rules) (by decide +kernel)) (fun _ _ _ _ _ => (pg_tup rfl (pgs_cons (pg_name (i := 3) nd rfl (Or.inl rfl)) (pgs_cons (pg_name (i := 4) nd rfl (Or.inl rfl)) pgs_nil)))) (fun _ _ _ _ _ => pts_nil) (fun _ _ _ _ _ => (pe_tup (pa_cons (pv 3) (pa_cons (pv 4) pa_nil))))) pa_nil)) (pe_callB call_len_seq (by rfl) (b_len T) boot_len (pa_cons (pv 1) pa_nil)) (nomark _)))))))))
theorem sc_empty_groups : FnScope N_empty_groups ["count", "groups", "heads", "parts"] (defScope s_empty_groups) := ⟨rfl, rfl, rfl, by decide +kernel, rfl, by decide +kernel, by decide +kernel⟩
theorem ok_empty_groups {P : Program} {w : World} {K : PySem.W.Frag} {mg : Str → Option Value} {base : Heap} (T : Txt K mg)  : Okd P w K mg base 1 ("empty_groups", none) ["count", "groups", "heads", "parts"] (sp_empty_groups K) := by
  obtain ⟨fd, F⟩ := f_empty_groups T
  refine okd_mk F sc_empty_groups len_empty_groups (fun _ _ _ _ _ _ us hl => match us, hl with | [_, _, _, _], _ => rfl) (fun cdv A outer s H E hr => ?_) (pure_empty_groups (P := P) (w := w))
  have nd := sc_empty_groups.nd
  exact (pss_cons (ps_set (i := 4) nd rfl (Or.inr rfl) (pe_op op_rep (pe_lst (pa_cons pe_bl pa_nil)) (pv 1)))
    (pss_cons (ps_set (i := 5) nd rfl (Or.inl rfl) pe_bl)
    (pss_cons (ps_while PassesOwn.never (pt_val (pv 5)) (pss_cons (ps_set (i := 5) nd rfl (Or.inl rfl) pe_bl)
    (pss_one (ps_for PassesOwn.never rfl (RZ.pi_zipA (by rfl) (b_zip T) (pa_cons (pv 2) (pa_cons (pv 3) pa_nil))) (pg_tup rfl (pgs_cons (pg_name (i := 6) nd rfl (Or.inl rfl)) (pgs_cons (pg_name (i := 7) nd rfl (Or.inl rfl)) pgs_nil))) (pss_one (ps_if (PW.pt (pw_and (pt_not (pt_val (pe_ix ix_list (pv 4) (pv 6) (fun _ _ => rfl)))) (pw_and1 (pt_val (pe_callB (cr_all rfl) (by rfl) (b_all T) boot_all (pa_cons (pe_lc (own := [("code", 8)]) rfl nd (pi_seq (pv 7)) (blkOk_by (N := N_empty_groups) (sc := defScope s_empty_groups) (by decide +kernel)) (fun _ _ _ _ _ => (pg_name (i := 8) nd rfl (Or.inl rfl))) (fun _ _ _ _ _ => pts_nil) (fun _ _ _ _ _ => (pe_and (pe_cmpR op_ge (pv 8) (pv 0) (nomark _)) (pe_one (pe_ix ix_list (pv 4) (pe_op op_sub (pv 8) (pv 0)) (fun _ _ => rfl)))))) pa_nil)))))) (pss_cons (ps_asg pe_bl (pg_sub (pv 4) (pv 6) set_list))
    (pss_one (ps_set (i := 5) nd rfl (Or.inl rfl) pe_bl))) pss_nil))))))
    (pss_one (ps_ret (pv 4))))))
theorem sc_first_of : FnScope N_first_of ["known", "table", "codes"] (defScope s_first_of) := ⟨rfl, rfl, rfl, by decide +kernel, rfl, by decide +kernel, by decide +kernel⟩
theorem ok_first_of {P : Program} {w : World} {K : PySem.W.Frag} {mg : Str → Option Value} {base : Heap} (T : Txt K mg) (G_marked_ones : Okd P w K mg base 1 ("marked_ones", none) ["line"] (sp_marked_ones K)) : Okd P w K mg base 2 ("first_of", none) ["known", "table", "codes"] (sp_first_of K) := by
  obtain ⟨fd, F⟩ := f_first_of T
  refine okd_mk F sc_first_of len_first_of (fun _ _ _ _ _ _ us hl => match us, hl with | [_, _, _], _ => rfl) (fun cdv A outer s H E hr => ?_) (pure_first_of (P := P) (w := w))
  have nd := sc_first_of.nd
  exact (pss_cons (ps_set (i := 3) nd rfl (Or.inl rfl) (pe_lst pa_nil))
    (pss_cons (ps_for PassesOwn.never rfl (pi_seq (pv 2)) (pg_name (i := 4) nd rfl (Or.inl rfl)) (pss_cons (ps_if (pt_cmpR op_lt (pv 4) (peF (cl_Beginnings T) (n_Beginnings_count T) (pv 0)) (nomark _)) (pss_cons (ps_expr (pe_bm PySem.F.plainAttrs_list PySem.F.slot_list_append PySem.F.type_list_append mt_append (pv 3) (pa_cons (pv 4) pa_nil)))
    (pss_one (ps_ret (pv 3)))) pss_nil)
    (pss_cons (ps_set (i := 5) nd rfl (Or.inl rfl) (pe_op op_sub (pv 4) (peF (cl_Beginnings T) (n_Beginnings_count T) (pv 0))))
    (pss_cons (ps_expr (pe_bm PySem.F.plainAttrs_list PySem.F.slot_list_extend PySem.F.type_list_extend mt_extA (pv 3) (pa_cons (peCall G_marked_ones hr (g_marked_ones T) (pa_cons (pe_ix ix_list (pv 1) (pv 5) (fun _ _ => rfl)) pa_nil)) pa_nil)))
    (pss_one (ps_if (pt_not (pt_val (pe_ix ix_tup (peF (cl_Beginnings T) (n_Beginnings_empty T) (pv 0)) (pv 5) (fun _ _ => rfl)))) (pss_one (ps_ret (pv 3))) pss_nil))))))
    (pss_one (ps_ret (pv 3)))))
theorem sc_first_table : FnScope N_first_table ["known", "groups", "heads", "parts"] (defScope s_first_table) := ⟨rfl, rfl, rfl, by decide +kernel, rfl, by decide +kernel, by decide +kernel⟩
theorem ok_first_table {P : Program} {w : World} {K : PySem.W.Frag} {mg : Str → Option Value} {base : Heap} (T : Txt K mg) (G_first_of : Okd P w K mg base 2 ("first_of", none) ["known", "table", "codes"] (sp_first_of K)) : Okd P w K mg base 3 ("first_table", none) ["known", "groups", "heads", "parts"] (sp_first_table K) := by
  obtain ⟨fd, F⟩ := f_first_table T
  refine okd_mk F sc_first_table len_first_table (fun _ _ _ _ _ _ us hl => match us, hl with | [_, _, _, _], _ => rfl) (fun cdv A outer s H E hr => ?_) (pure_first_table (P := P) (w := w))
  have nd := sc_first_table.nd
  exact (pss_cons (ps_setLc (i := 4) (own := [("_", 6)]) rfl nd rfl rfl (sw_true rfl rfl rfl (by decide +kernel)) (pi_range1 (by rfl) (b_range T) (pa_cons (pv 1) pa_nil)) (blkOk_by (N := N_first_table) (sc := defScope s_first_table) (by decide +kernel)) (fun _ _ _ _ _ => (pg_name (i := 6) nd rfl (Or.inl rfl))) (fun _ _ _ _ _ => pts_nil) (fun _ _ _ _ _ => (pe_op op_rep (pe_lst (pa_cons pe_bl pa_nil)) (peF (cl_Beginnings T) (n_Beginnings_count T) (pv 0)))))
    (pss_cons (ps_set (i := 5) nd rfl (Or.inl rfl) pe_bl)
    (pss_cons (ps_while PassesOwn.never (pt_val (pv 5)) (pss_cons (ps_set (i := 5) nd rfl (Or.inl rfl) pe_bl)
    (pss_one (ps_for PassesOwn.never rfl (RZ.pi_zipA (by rfl) (b_zip T) (pa_cons (pv 2) (pa_cons (pv 3) pa_nil))) (pg_tup rfl (pgs_cons (pg_name (i := 7) nd rfl (Or.inl rfl)) (pgs_cons (pg_name (i := 8) nd rfl (Or.inl rfl)) pgs_nil))) (pss_one (ps_for PassesOwn.never rfl (pi_seq (peCall G_first_of hr (g_first_of T) (pa_cons (pv 0) (pa_cons (pv 4) (pa_cons (pv 8) pa_nil))))) (pg_name (i := 9) nd rfl (Or.inl rfl)) (pss_one (ps_if (pt_not (pt_val (pe_ix ix_list (pe_ix ix_list (pv 4) (pv 7) (fun _ _ => rfl)) (pv 9) (fun _ _ => rfl)))) (pss_cons (ps_asg pe_bl (pg_sub (pe_ix ix_list (pv 4) (pv 7) (fun _ _ => rfl)) (pv 9) set_list))
    (pss_one (ps_set (i := 5) nd rfl (Or.inl rfl) pe_bl))) pss_nil))))))))
    (pss_one (ps_ret (pv 4))))))
theorem sc_joined_ones : FnScope N_joined_ones ["one", "other"] (defScope s_joined_ones) := ⟨rfl, rfl, rfl, by decide +kernel, rfl, by decide +kernel, by decide +kernel⟩
theorem ok_joined_ones {P : Program} {w : World} {K : PySem.W.Frag} {mg : Str → Option Value} {base : Heap} (T : Txt K mg)  : Okd P w K mg base 1 ("joined_ones", none) ["one", "other"] (sp_joined_ones K) := by
  obtain ⟨fd, F⟩ := f_joined_ones T
  refine okd_mk F sc_joined_ones len_joined_ones (fun _ _ _ _ _ _ us hl => match us, hl with | [_, _], _ => rfl) (fun cdv A outer s H E hr => ?_) (pure_joined_ones (P := P) (w := w))
  have nd := sc_joined_ones.nd
  exact pss_never
theorem sc_behind_dots : FnScope N_behind_dots ["known", "codes"] (defScope s_behind_dots) := ⟨rfl, rfl, rfl, by decide +kernel, rfl, by decide +kernel, by decide +kernel⟩
theorem ok_behind_dots {P : Program} {w : World} {K : PySem.W.Frag} {mg : Str → Option Value} {base : Heap} (T : Txt K mg) (G_joined_ones : Okd P w K mg base 1 ("joined_ones", none) ["one", "other"] (sp_joined_ones K)) : Okd P w K mg base 2 ("behind_dots", none) ["known", "codes"] (sp_behind_dots K) := by
  obtain ⟨fd, F⟩ := f_behind_dots T
  refine okd_mk F sc_behind_dots len_behind_dots (fun _ _ _ _ _ _ us hl => match us, hl with | [_, _], _ => rfl) (fun cdv A outer s H E hr => ?_) (pure_behind_dots (P := P) (w := w))
  have nd := sc_behind_dots.nd
  exact (pss_cons (ps_set (i := 2) nd rfl (Or.inl rfl) (pe_tup pa_nil))
    (pss_cons (ps_set (i := 3) nd rfl (Or.inl rfl) pe_bl)
    (pss_cons (ps_set (i := 4) nd rfl (Or.inl rfl) (pe_lst (pa_cons (pe_tup (pa_cons (pv 2) (pa_cons (pv 3) pa_nil))) pa_nil)))
    (pss_cons (ps_for PassesOwn.never rfl (RT.pi_revA (by rfl) (b_reversed T) (pv 1)) (pg_name (i := 5) nd rfl (Or.inl rfl)) (pss_cons (ps_if (pt_cmpR op_lt (pv 5) (peF (cl_Beginnings T) (n_Beginnings_count T) (pv 0)) (nomark _)) (pss_cons (ps_set (i := 2) nd rfl (Or.inl rfl) (pe_tup (pa_cons (pv 5) pa_nil)))
    (pss_one (ps_set (i := 3) nd rfl (Or.inl rfl) pe_bl))) (pss_cons (ps_set (i := 6) nd rfl (Or.inl rfl) (pe_op op_sub (pv 5) (peF (cl_Beginnings T) (n_Beginnings_count T) (pv 0))))
    (pss_one (ps_if (pt_val (pe_ix ix_tup (peF (cl_Beginnings T) (n_Beginnings_empty T) (pv 0)) (pv 6) (fun _ _ => rfl))) (pss_one (ps_set (i := 2) nd rfl (Or.inl rfl) (peCall G_joined_ones hr (g_joined_ones T) (pa_cons (pe_ix ix_tup (peF (cl_Beginnings T) (n_Beginnings_first T) (pv 0)) (pv 6) (fun _ _ => rfl)) (pa_cons (pv 2) pa_nil))))) (pss_cons (ps_set (i := 2) nd rfl (Or.inl rfl) (pe_ix ix_tup (peF (cl_Beginnings T) (n_Beginnings_first T) (pv 0)) (pv 6) (fun _ _ => rfl)))
    (pss_one (ps_set (i := 3) nd rfl (Or.inl rfl) pe_bl)))))))
    (pss_one (ps_expr (pe_bm PySem.F.plainAttrs_list PySem.F.slot_list_append PySem.F.type_list_append mt_append (pv 4) (pa_cons (pe_tup (pa_cons (pv 2) (pa_cons (pv 3) pa_nil))) pa_nil))))))
    (pss_one (ps_ret (RT.pe_tupRev rfl (by rfl) (b_tuple T) (by rfl) (b_reversed T) (pv 4))))))))
theorem sc_Beginnings_init : FnScope N_Beginnings_init ["self", "count", "groups", "heads", "parts"] (defScope s_Beginnings_init) := ⟨rfl, rfl, rfl, by decide +kernel, rfl, by decide +kernel, by decide +kernel⟩
theorem ok_Beginnings_init {P : Program} {w : World} {K : PySem.W.Frag} {mg : Str → Option Value} {base : Heap} (T : Txt K mg) (G_first_table : Okd P w K mg base 3 ("first_table", none) ["known", "groups", "heads", "parts"] (sp_first_table K)) (G_empty_groups : Okd P w K mg base 1 ("empty_groups", none) ["count", "groups", "heads", "parts"] (sp_empty_groups K)) (G_marked_ones : Okd P w K mg base 1 ("marked_ones", none) ["line"] (sp_marked_ones K)) (G_behind_dots : Okd P w K mg base 2 ("behind_dots", none) ["known", "codes"] (sp_behind_dots K)) : Okd P w K mg base 4 ("Beginnings", some "__init__") ["self", "count", "groups", "heads", "parts"] (sp_Beginnings_init K) := by
  obtain ⟨fd, F⟩ := f_Beginnings_init T
  refine okd_mk F sc_Beginnings_init len_Beginnings_init (fun _ _ _ _ _ _ us hl => match us, hl with | [_, _, _, _, _], _ => rfl) (fun cdv A outer s H E hr => ?_) (pure_Beginnings_init (P := P) (w := w))
  have nd := sc_Beginnings_init.nd
  exact (pss_cons (psF (cl_Beginnings T) (n_Beginnings_count T) (pv 0) (pv 1))
    (pss_cons (psF (cl_Beginnings T) (n_Beginnings_empty T) (pv 0) (pe_callTy call_tuple_of (by rfl) (b_tuple T) boot_tuple (pa_cons (peCall G_empty_groups hr (g_empty_groups T) (pa_cons (pv 1) (pa_cons (pv 2) (pa_cons (pv 3) (pa_cons (pv 4) pa_nil))))) pa_nil)))
    (pss_cons (ps_set (i := 5) nd rfl (Or.inl rfl) (peCall G_first_table hr (g_first_table T) (pa_cons (pv 0) (pa_cons (pv 2) (pa_cons (pv 3) (pa_cons (pv 4) pa_nil))))))
    (pss_cons (psF (cl_Beginnings T) (n_Beginnings_first T) (pv 0) (pe_callTy call_tuple_of (by rfl) (b_tuple T) boot_tuple (pa_cons (pe_lc (own := [("line", 6)]) rfl nd (pi_seq (pv 5)) (blkOk_by (N := N_Beginnings_init) (sc := defScope s_Beginnings_init) (by decide +kernel)) (fun _ _ _ _ _ => (pg_name (i := 6) nd rfl (Or.inl rfl))) (fun _ _ _ _ _ => pts_nil) (fun _ _ _ _ _ => (peCall G_marked_ones hr (g_marked_ones T) (pa_cons (pv 6) pa_nil)))) pa_nil)))
    (pss_one (psF (cl_Beginnings T) (n_Beginnings_behind T) (pv 0) (pe_callTy call_tuple_of (by rfl) (b_tuple T) boot_tuple (pa_cons (pe_lc (own := [("codes", 7)]) rfl nd (pi_seq (pv 4)) (blkOk_by (N := N_Beginnings_init) (sc := defScope s_Beginnings_init) (by decide +kernel)) (fun _ _ _ _ _ => (pg_name (i := 7) nd rfl (Or.inl rfl))) (fun _ _ _ _ _ => pts_nil) (fun _ _ _ _ _ => (peCall G_behind_dots hr (g_behind_dots T) (pa_cons (pv 0) (pa_cons (pv 7) pa_nil))))) pa_nil))))))))
theorem sc_Grammar_init : FnScope N_Grammar_init ["self", "tokens", "rules"] (defScope s_Grammar_init) := ⟨rfl, rfl, rfl, by decide +kernel, rfl, by decide +kernel, by decide +kernel⟩
theorem ok_Grammar_init {P : Program} {w : World} {K : PySem.W.Frag} {mg : Str → Option Value} {base : Heap} (T : Txt K mg) (G_groups_in : Okd P w K mg base 1 ("groups_in", none) ["rules"] (sp_groups_in K)) (G_useless_rules : Okd P w K mg base 3 ("useless_rules", none) ["count", "groups", "heads", "parts"] (sp_useless_rules K)) (G_Beginnings_init : Okd P w K mg base 4 ("Beginnings", some "__init__") ["self", "count", "groups", "heads", "parts"] (sp_Beginnings_init K)) (G_are_names : Okd P w K mg base 2 ("are_names", none) ["value"] (sp_are_names K)) (G_are_rules : Okd P w K mg base 3 ("are_rules", none) ["tokens", "value"] (sp_are_rules K)) (G_rules_with : Okd P w K mg base 1 ("rules_with", none) ["heads", "group"] (sp_rules_with K)) : Okd P w K mg base 6 ("Grammar", some "__init__") ["self", "tokens", "rules"] (sp_Grammar_init K) := by
  obtain ⟨fd, F⟩ := f_Grammar_init T
  refine okd_mk F sc_Grammar_init len_Grammar_init (fun _ _ _ _ _ _ us hl => match us, hl with | [_, _, _], _ => rfl) (fun cdv A outer s H E hr => ?_) (pure_Grammar_init (P := P) (w := w))
  have nd := sc_Grammar_init.nd
  exact (pss_cons (ps_if (pt_not (pt_val (peCall G_are_names hr (g_are_names T) (pa_cons (pv 1) pa_nil)))) (pss_one ps_never) pss_nil)
    (pss_cons (ps_if (pt_not (pt_val (peCall G_are_rules hr (g_are_rules T) (pa_cons (pv 1) (pa_cons (pv 2) pa_nil))))) (pss_one ps_never) pss_nil)
    (pss_cons (psF (cl_Grammar T) (n_Grammar_tokens T) (pv 0) (pe_callTy call_tuple_of (by rfl) (b_tuple T) boot_tuple (pa_cons (pv 1) pa_nil)))
    (pss_cons (psF (cl_Grammar T) (n_Grammar_rules T) (pv 0) (pe_callTy call_tuple_of (by rfl) (b_tuple T) boot_tuple (pa_cons (pv 2) pa_nil)))
    (pss_cons (psF (cl_Grammar T) (n_Grammar_groups T) (pv 0) (peCall G_groups_in hr (g_groups_in T) (pa_cons (peF (cl_Grammar T) (n_Grammar_rules T) (pv 0)) pa_nil)))
    (pss_cons (ps_set (i := 3) nd rfl (Or.inr rfl) (pe_callB call_len_seq (by rfl) (b_len T) boot_len (pa_cons (peF (cl_Grammar T) (n_Grammar_tokens T) (pv 0)) pa_nil)))
    (pss_cons (psF (cl_Grammar T) (n_Grammar_codes T) (pv 0) (pe_dc (own := [("code", 5), ("name", 6)]) rfl nd (pi_enumT (by rfl) (b_enumerate T) (pa_cons (pe_op op_catA (peF (cl_Grammar T) (n_Grammar_tokens T) (pv 0)) (peF (cl_Grammar T) (n_Grammar_groups T) (pv 0))) pa_nil)) (blkOk_by (N := N_Grammar_init) (sc := defScope s_Grammar_init) (by decide +kernel)) (fun _ _ _ _ _ => (pg_tup rfl (pgs_cons (pg_name (i := 5) nd rfl (Or.inl rfl)) (pgs_cons (pg_name (i := 6) nd rfl (Or.inl rfl)) pgs_nil)))) (fun _ _ _ _ _ => pts_nil) (fun _ _ _ _ _ => (pv 6)) (fun _ _ _ _ _ => (pv 5))))
    (pss_cons (psF (cl_Grammar T) (n_Grammar_heads T) (pv 0) (pe_callTy call_tuple_of (by rfl) (b_tuple T) boot_tuple (pa_cons (pe_lc (own := [("name", 6), ("parts", 7)]) rfl nd (pi_seq (peF (cl_Grammar T) (n_Grammar_rules T) (pv 0))) (blkOk_by (N := N_Grammar_init) (sc := defScope s_Grammar_init) (by decide +kernel)) (fun _ _ _ _ _ => (pg_tup rfl (pgs_cons (pg_name (i := 6) nd rfl (Or.inl rfl)) (pgs_cons (pg_name (i := 7) nd rfl (Or.inl rfl)) pgs_nil)))) (fun _ _ _ _ _ => pts_nil) (fun _ _ _ _ _ => (pe_op op_sub (pe_dget (hu_of hr) (peF (cl_Grammar T) (n_Grammar_codes T) (pv 0)) (pv 6) (fun _ _ => rfl)) (pv 3)))) pa_nil)))
    (pss_cons (ps_setLc (i := 4) (own := [("name", 6), ("parts", 7)]) rfl nd rfl rfl (sw_true rfl rfl rfl (by decide +kernel)) (pi_seq (peF (cl_Grammar T) (n_Grammar_rules T) (pv 0))) (blkOk_by (N := N_Grammar_init) (sc := defScope s_Grammar_init) (by decide +kernel)) (fun _ _ _ _ _ => (pg_tup rfl (pgs_cons (pg_name (i := 6) nd rfl (Or.inl rfl)) (pgs_cons (pg_name (i := 7) nd rfl (Or.inl rfl)) pgs_nil)))) (fun _ _ _ _ _ => pts_nil) (fun _ _ _ _ _ => (pe_callTy call_tuple_of (by rfl) (b_tuple T) boot_tuple (pa_cons (pe_lc (own := [("part", 9)]) rfl nd (pi_seq (pv 7)) (blkOk_by (N := N_Grammar_init) (sc := nestSc s_Grammar_init 8) (by decide +kernel)) (fun _ _ _ _ _ => (pg_name (i := 9) nd rfl (Or.inl rfl))) (fun _ _ _ _ _ => pts_nil) (fun _ _ _ _ _ => (pe_dget (hu_of hr) (peF (cl_Grammar T) (n_Grammar_codes T) (pv 0)) (pv 9) (fun _ _ => rfl)))) pa_nil))))
    (pss_cons (ps_if (ptTru (peCall G_useless_rules hr (g_useless_rules T) (pa_cons (pv 3) (pa_cons (pe_callB call_len_seq (by rfl) (b_len T) boot_len (pa_cons (peF (cl_Grammar T) (n_Grammar_groups T) (pv 0)) pa_nil)) (pa_cons (peF (cl_Grammar T) (n_Grammar_heads T) (pv 0)) (pa_cons (pv 4) pa_nil)))))) (pss_one ps_never) pss_nil)
    (pss_cons (psF (cl_Grammar T) (n_Grammar_parts T) (pv 0) (pe_callTy call_tuple_of (by rfl) (b_tuple T) boot_tuple (pa_cons (pe_op op_cat (pv 4) (pe_lst (pa_cons (pe_tup (pa_cons (pv 3) pa_nil)) pa_nil))) pa_nil)))
    (pss_cons (psF (cl_Grammar T) (n_Grammar_rules_of T) (pv 0) (pe_callTy call_tuple_of (by rfl) (b_tuple T) boot_tuple (pa_cons (pe_lc (own := [("group", 8)]) rfl nd (pi_range1 (by rfl) (b_range T) (pa_cons (pe_callB call_len_seq (by rfl) (b_len T) boot_len (pa_cons (peF (cl_Grammar T) (n_Grammar_groups T) (pv 0)) pa_nil)) pa_nil)) (blkOk_by (N := N_Grammar_init) (sc := defScope s_Grammar_init) (by decide +kernel)) (fun _ _ _ _ _ => (pg_name (i := 8) nd rfl (Or.inl rfl))) (fun _ _ _ _ _ => pts_nil) (fun _ _ _ _ _ => (peCall G_rules_with hr (g_rules_with T) (pa_cons (peF (cl_Grammar T) (n_Grammar_heads T) (pv 0)) (pa_cons (pv 8) pa_nil))))) pa_nil)))
    (pss_cons (psF (cl_Grammar T) (n_Grammar_beginnings T) (pv 0) (peMake G_Beginnings_init hr (g_Beginnings T) (mk_Beginnings T) (pa_cons (pv 3) (pa_cons (pe_callB call_len_seq (by rfl) (b_len T) boot_len (pa_cons (peF (cl_Grammar T) (n_Grammar_groups T) (pv 0)) pa_nil)) (pa_cons (peF (cl_Grammar T) (n_Grammar_heads T) (pv 0)) (pa_cons (peF (cl_Grammar T) (n_Grammar_parts T) (pv 0)) pa_nil))))))
    (pss_one (psF (cl_Grammar T) (n_Grammar_state_list T) (pv 0) pe_non)))))))))))))))
theorem sc_law_box : FnScope N_law_box ["script"] (defScope s_law_box) := ⟨rfl, rfl, rfl, by decide +kernel, rfl, by decide +kernel, by decide +kernel⟩
theorem ok_law_box {P : Program} {w : World} {K : PySem.W.Frag} {mg : Str → Option Value} {base : Heap} (T : Txt K mg)  : Okd P w K mg base 1 ("_law_box", none) ["script"] (sp_law_box K) := by
  obtain ⟨fd, F⟩ := f_law_box T
  refine okd_mk F sc_law_box len_law_box (fun _ _ _ _ _ _ us hl => match us, hl with | [_], _ => rfl) (fun cdv A outer s H E hr => ?_) (pure_law_box (P := P) (w := w))
  have nd := sc_law_box.nd
  exact (pss_cons (ps_set (i := 1) nd rfl (Or.inl rfl) pe_int)
    (pss_cons (ps_set (i := 2) nd rfl (Or.inl rfl) (pe_lst pa_nil))
    (pss_cons (ps_for PassesOwn.never rfl (pi_seq (pv 0)) (pg_name (i := 3) nd rfl (Or.inl rfl)) (pss_cons (ps_if (pt_cmpR op_ge (pv 3) pe_int (nomark _)) (pss_one (ps_expr (pe_bm PySem.F.plainAttrs_list PySem.F.slot_list_append PySem.F.type_list_append mt_append (pv 2) (pa_cons (pv 3) pa_nil)))) pss_nil)
    (pss_one (ps_set (i := 1) nd rfl (Or.inl rfl) (pe_op op_mod (pe_callTy call_int1 (by rfl) (b_int T) boot_int (pa_cons (pe_op op_add (pe_op op_add (pe_op op_mul (pv 1) pe_int) (pe_op op_mod (pe_callTy call_int1 (by rfl) (b_int T) boot_int (pa_cons (pv 3) pa_nil)) pe_int)) pe_int) pa_nil)) pe_int)))))
    (pss_one (ps_ret (pe_lst (pa_cons (pv 1) (pa_cons (pv 2) (pa_cons pe_int (pa_cons pe_int (pa_cons pe_int pa_nil)))))))))))
theorem sc_law_draw : FnScope N_law_draw ["box", "many"] (defScope s_law_draw) := ⟨rfl, rfl, rfl, by decide +kernel, rfl, by decide +kernel, by decide +kernel⟩
theorem ok_law_draw {P : Program} {w : World} {K : PySem.W.Frag} {mg : Str → Option Value} {base : Heap} (T : Txt K mg)  : Okd P w K mg base 1 ("_law_draw", none) ["box", "many"] (sp_law_draw K) := by
  obtain ⟨fd, F⟩ := f_law_draw T
  refine okd_mk F sc_law_draw len_law_draw (fun _ _ _ _ _ _ us hl => match us, hl with | [_, _], _ => rfl) (fun cdv A outer s H E hr => ?_) (pure_law_draw (P := P) (w := w))
  have nd := sc_law_draw.nd
  exact (C8.pss_cut (ps_if (PW.pt (pw_and (pt_cmpR op_eq (pe_ix ix_list (pv 0) pe_int (fun _ _ => rfl)) pe_int (nomark _)) (pw_and1 (pt_cmpR op_lt (pe_ix ix_list (pv 0) pe_int (fun _ _ => rfl)) (pe_callB call_len_seq (by rfl) (b_len T) boot_len (pa_cons (pe_ix ix_list (pv 0) pe_int (fun _ _ => rfl)) pa_nil)) (nomark _))))) (pss_cons (ps_asg (pe_ix ix_list (pe_ix ix_list (pv 0) pe_int (fun _ _ => rfl)) (pe_ix ix_list (pv 0) pe_int (fun _ _ => rfl)) (fun _ _ => rfl)) (pg_sub (pv 0) pe_int set_list))
    (pss_cons (ps_asg (pe_op op_add (pe_ix ix_list (pv 0) pe_int (fun _ _ => rfl)) pe_int) (pg_sub (pv 0) pe_int set_list))
    (pss_one (ps_asg pe_int (pg_sub (pv 0) pe_int set_list))))) pss_nil)
    (pss_cons (ps_if (pt_cmpR op_gt (pe_ix ix_list (pv 0) pe_int (fun _ _ => rfl)) pe_int (nomark _)) (pss_cons (ps_set (i := 3) nd rfl (Or.inl rfl) (pe_op op_mod (pe_callTy call_int1 (by rfl) (b_int T) boot_int (pa_cons (pe_ix ix_list (pv 0) pe_int (fun _ _ => rfl)) pa_nil)) (pv 1)))
    (pss_cons (ps_asg (pe_op op_fdiv (pe_ix ix_list (pv 0) pe_int (fun _ _ => rfl)) (pv 1)) (pg_sub (pv 0) pe_int set_list))
    (pss_cons (ps_asg (pe_op op_sub (pe_ix ix_list (pv 0) pe_int (fun _ _ => rfl)) pe_int) (pg_sub (pv 0) pe_int set_list))
    (pss_cons (ps_if (pt_cmpR op_eq (pe_ix ix_list (pv 0) pe_int (fun _ _ => rfl)) pe_int (nomark _)) (pss_one (ps_asg pe_int (pg_sub (pv 0) pe_int set_list))) pss_nil)
    (pss_one (ps_ret (pv 3))))))) pss_nil)
    (pss_cons (ps_asg (pe_op op_mod (pe_callTy call_int1 (by rfl) (b_int T) boot_int (pa_cons (pe_op op_add (pe_op op_mul (pe_ix ix_list (pv 0) pe_int (fun _ _ => rfl)) pe_int) pe_int) pa_nil)) pe_int) (pg_sub (pv 0) pe_int set_list))
    (pss_cons (ps_set (i := 2) nd rfl (Or.inl rfl) (pe_op op_mod (pe_callTy call_int1 (by rfl) (b_int T) boot_int (pa_cons (pe_op op_mul (pe_op op_fdiv (pe_ix ix_list (pv 0) pe_int (fun _ _ => rfl)) pe_int) (pe_op op_add (pe_op op_fdiv (pe_ix ix_list (pv 0) pe_int (fun _ _ => rfl)) pe_int) pe_int)) pa_nil)) pe_int))
    (pss_one (ps_ret (pe_op op_mod (pe_callTy call_int1 (by rfl) (b_int T) boot_int (pa_cons (pe_op op_fdiv (pv 2) pe_int) pa_nil)) (pv 1))))))))
theorem sc_law_same : FnScope N_law_same ["told", "due"] (defScope s_law_same) := ⟨rfl, rfl, rfl, by decide +kernel, rfl, by decide +kernel, by decide +kernel⟩
theorem ok_law_same {P : Program} {w : World} {K : PySem.W.Frag} {mg : Str → Option Value} {base : Heap} (T : Txt K mg)  : Okd P w K mg base 1 ("_law_same", none) ["told", "due"] (sp_law_same K) := by
  obtain ⟨fd, F⟩ := f_law_same T
  refine okd_mk F sc_law_same len_law_same (fun _ _ _ _ _ _ us hl => match us, hl with | [_, _], _ => rfl) (fun cdv A outer s H E hr => ?_) (pure_law_same (P := P) (w := w))
  have nd := sc_law_same.nd
  exact (pss_cons (ps_if (pt_val (pe_callB cr_is1 (by rfl) (b_isinstance T) boot_isinstance (pa_cons (pv 1) (pa_cons (pe_bltn (by rfl) (b_tuple T) boot_tuple rfl) pa_nil)))) pss_never pss_nil)
    (pss_cons (ps_if (pt_val (pe_callB cr_is1 (by rfl) (b_isinstance T) boot_isinstance (pa_cons (pv 1) (pa_cons (pe_bltn (by rfl) (b_bool T) boot_bool rfl) pa_nil)))) (pss_one (ps_ret (pe_and (pe_callB cr_is1 (by rfl) (b_isinstance T) boot_isinstance (pa_cons (pv 0) (pa_cons (pe_bltn (by rfl) (b_bool T) boot_bool rfl) pa_nil))) (pe_one (pe_cmpR (op_eqD hr.units) (pv 0) (pv 1) (nomark _)))))) pss_nil)
    (pss_cons (ps_if (pt_val (pe_callB cr_is1 (by rfl) (b_isinstance T) boot_isinstance (pa_cons (pv 1) (pa_cons (pe_bltn (by rfl) (b_int T) boot_int rfl) pa_nil)))) (pss_one (ps_ret (pe_and (pe_callB cr_is1 (by rfl) (b_isinstance T) boot_isinstance (pa_cons (pv 0) (pa_cons (pe_bltn (by rfl) (b_int T) boot_int rfl) pa_nil))) (pe_and (pe_not (pe_callB cr_is1 (by rfl) (b_isinstance T) boot_isinstance (pa_cons (pv 0) (pa_cons (pe_bltn (by rfl) (b_bool T) boot_bool rfl) pa_nil)))) (pe_one (pe_cmpR (op_eqD hr.units) (pv 0) (pv 1) (nomark _))))))) pss_nil)
    (pss_cons (ps_if (pt_val (pe_callB cr_is1 (by rfl) (b_isinstance T) boot_isinstance (pa_cons (pv 1) (pa_cons (pe_bltn (by rfl) (b_str T) boot_str rfl) pa_nil)))) (pss_one (ps_ret (pe_and (pe_callB cr_is1 (by rfl) (b_isinstance T) boot_isinstance (pa_cons (pv 0) (pa_cons (pe_bltn (by rfl) (b_str T) boot_str rfl) pa_nil))) (pe_one (pe_cmpR (op_eqD hr.units) (pv 0) (pv 1) (nomark _)))))) pss_nil)
    (pss_one (ps_ret (pe_cmpR op_isN (pv 0) pe_non (nomark _))))))))
theorem sc_law_costs : FnScope N_law_costs ["row", "word"] (defScope s_law_costs) := ⟨rfl, rfl, rfl, by decide +kernel, rfl, by decide +kernel, by decide +kernel⟩
theorem ok_law_costs {P : Program} {w : World} {K : PySem.W.Frag} {mg : Str → Option Value} {base : Heap} (T : Txt K mg)  : Okd P w K mg base 1 ("_law_costs", none) ["row", "word"] (sp_law_costs K) := by
  obtain ⟨fd, F⟩ := f_law_costs T
  refine okd_mk F sc_law_costs len_law_costs (fun _ _ _ _ _ _ us hl => match us, hl with | [_, _], _ => rfl) (fun cdv A outer s H E hr => ?_) (pure_law_costs (P := P) (w := w))
  have nd := sc_law_costs.nd
  exact (pss_cons (ps_set (i := 2) nd rfl (Or.inl rfl) (pe_listRg rfl (by rfl) (b_list T) (prg_1 (by rfl) (b_range T) (pe_op op_add (pe_callB call_len_seq (by rfl) (b_len T) boot_len (pa_cons (pv 0) pa_nil)) pe_int))))
    (pss_cons (ps_for PassesOwn.never rfl (pi_seq (pv 1)) (pg_name (i := 3) nd rfl (Or.inl rfl)) (pss_cons (ps_set (i := 4) nd rfl (Or.inl rfl) (pe_lst (pa_cons (pe_op op_add (pe_ix ix_list (pv 2) pe_int (fun _ _ => rfl)) pe_int) pa_nil)))
    (pss_cons (ps_for PassesOwn.never rfl (pi_range1 (by rfl) (b_range T) (pa_cons (pe_callB call_len_seq (by rfl) (b_len T) boot_len (pa_cons (pv 0) pa_nil)) pa_nil)) (pg_name (i := 5) nd rfl (Or.inl rfl)) (pss_one (ps_expr (pe_bm PySem.F.plainAttrs_list PySem.F.slot_list_append PySem.F.type_list_append mt_append (pv 4) (pa_cons (pe_callB (cr_min rfl) (by rfl) (b_min T) boot_min (pa_cons (pe_lst (pa_cons (pe_op op_add (pe_ix ix_list (pv 2) (pv 5) (fun _ _ => rfl)) (pe_callTy call_int1 (by rfl) (b_int T) boot_int (pa_cons (pe_cmpR op_ne (pe_ix ix_list (pv 0) (pv 5) (fun _ _ => rfl)) (pv 3) (nomark _)) pa_nil))) (pa_cons (pe_op op_add (pe_ix ix_list (pv 2) (pe_op op_add (pv 5) pe_int) (fun _ _ => rfl)) pe_int) (pa_cons (pe_op op_add (pe_ix ix_list (pv 4) (pv 5) (fun _ _ => rfl)) pe_int) pa_nil)))) pa_nil)) pa_nil)))))
    (pss_one (ps_set (i := 2) nd rfl (Or.inl rfl) (pv 4))))))
    (pss_one (ps_ret (pv 2)))))
theorem sc_law_by_places : FnScope N_law_by_places ["row", "token"] (defScope s_law_by_places) := ⟨rfl, rfl, rfl, by decide +kernel, rfl, by decide +kernel, by decide +kernel⟩
theorem ok_law_by_places {P : Program} {w : World} {K : PySem.W.Frag} {mg : Str → Option Value} {base : Heap} (T : Txt K mg)  : Okd P w K mg base 1 ("_law_by_places", none) ["row", "token"] (sp_law_by_places K) := by
  obtain ⟨fd, F⟩ := f_law_by_places T
  refine okd_mk F sc_law_by_places len_law_by_places (fun _ _ _ _ _ _ us hl => match us, hl with | [_, _], _ => rfl) (fun cdv A outer s H E hr => ?_) (pure_law_by_places (P := P) (w := w))
  have nd := sc_law_by_places.nd
  exact (pss_cons (ps_if (pt_cmpR op_eq (pe_callB call_len_seq (by rfl) (b_len T) boot_len (pa_cons (pv 0) pa_nil)) pe_int (nomark _)) (pss_one (ps_ret pe_int)) pss_nil)
    (pss_one (ps_ret (pe_callB (cr_min rfl) (by rfl) (b_min T) boot_min (pa_cons (pe_lc (own := [("there", 2)]) rfl nd (pi_seq (pv 0)) (blkOk_by (N := N_law_by_places) (sc := defScope s_law_by_places) (by decide +kernel)) (fun _ _ _ _ _ => (pg_name (i := 2) nd rfl (Or.inl rfl))) (fun _ _ _ _ _ => pts_nil) (fun _ _ _ _ _ => (pe_op op_add (pe_op op_sub (pe_callB call_len_seq (by rfl) (b_len T) boot_len (pa_cons (pv 0) pa_nil)) pe_int) (pe_callTy call_int1 (by rfl) (b_int T) boot_int (pa_cons (pe_cmpR op_ne (pv 2) (pv 1) (nomark _)) pa_nil))))) pa_nil)))))
theorem sc_law_names : FnScope N_law_names ["box", "many"] (defScope s_law_names) := ⟨rfl, rfl, rfl, by decide +kernel, rfl, by decide +kernel, by decide +kernel⟩
theorem ok_law_names {P : Program} {w : World} {K : PySem.W.Frag} {mg : Str → Option Value} {base : Heap} (T : Txt K mg) (G_law_draw : Okd P w K mg base 1 ("_law_draw", none) ["box", "many"] (sp_law_draw K)) : Okd P w K mg base 2 ("_law_names", none) ["box", "many"] (sp_law_names K) := by
  obtain ⟨fd, F⟩ := f_law_names T
  refine okd_mk F sc_law_names len_law_names (fun _ _ _ _ _ _ us hl => match us, hl with | [_, _], _ => rfl) (fun cdv A outer s H E hr => ?_) (pure_law_names (P := P) (w := w))
  have nd := sc_law_names.nd
  exact (pss_cons (ps_set (i := 2) nd rfl (Or.inr rfl) pe_str)
    (pss_cons (ps_set (i := 3) nd rfl (Or.inr rfl) (pe_join pe_str (pe_lc (own := [("k", 7)]) rfl nd (pi_range1 (by rfl) (b_range T) (pa_cons (peCall G_law_draw hr (g__law_draw T) (pa_cons (pv 0) (pa_cons pe_int pa_nil))) pa_nil)) (blkOk_by (N := N_law_names) (sc := defScope s_law_names) (by decide +kernel)) (fun _ _ _ _ _ => (pg_name (i := 7) nd rfl (Or.inl rfl))) (fun _ _ _ _ _ => pts_nil) (fun _ _ _ _ _ => (pe_ix ix_str (pv 2) (peCall G_law_draw hr (g__law_draw T) (pa_cons (pv 0) (pa_cons pe_int pa_nil))) (fun _ _ => rfl))))))
    (pss_cons (ps_set (i := 4) nd rfl (Or.inr rfl) (peCall G_law_draw hr (g__law_draw T) (pa_cons (pv 0) (pa_cons (pe_op op_add (pe_callB call_len_str (by rfl) (b_len T) boot_len (pa_cons (pv 3) pa_nil)) pe_int) pa_nil))))
    (pss_cons (ps_set (i := 5) nd rfl (Or.inr rfl) (peCall G_law_draw hr (g__law_draw T) (pa_cons (pv 0) (pa_cons pe_int pa_nil))))
    (pss_cons (ps_setLc (i := 6) (own := [("k", 7)]) rfl nd rfl rfl (sw_true rfl rfl rfl (by decide +kernel)) (pi_range1 (by rfl) (b_range T) (pa_cons (pv 1) pa_nil)) (blkOk_by (N := N_law_names) (sc := defScope s_law_names) (by decide +kernel)) (fun _ _ _ _ _ => (pg_name (i := 7) nd rfl (Or.inl rfl))) (fun _ _ _ _ _ => pts_nil) (fun _ _ _ _ _ => (pe_op op_add_str (pe_op op_add_str (pe_slice sl_str (pv 3) po_none (po_some (pv 4))) (pe_ix ix_str (pv 2) (pe_op op_mod (pe_callTy call_int1 (by rfl) (b_int T) boot_int (pa_cons (pe_op op_add (pv 5) (pe_op op_mul (pv 7) pe_int)) pa_nil)) pe_int) (fun _ _ => rfl))) (pe_slice sl_str (pv 3) (po_some (pv 4)) po_none))))
    (C8.pss_cut (ps_if (pt_cmpR op_in_seq pe_str (pv 6) rfl) (pss_one (ps_setLc (i := 6) (own := [("name", 8)]) rfl nd rfl rfl (sw_true rfl rfl rfl (by decide +kernel)) (pi_seq (pv 6)) (blkOk_by (N := N_law_names) (sc := defScope s_law_names) (by decide +kernel)) (fun _ _ _ _ _ => (pg_name (i := 8) nd rfl (Or.inl rfl))) (fun _ _ _ _ _ => pts_nil) (fun _ _ _ _ _ => (pe_op op_add_str (pv 8) pe_str)))) pss_nil)
    (pss_one (ps_ret (pv 6)))))))))
theorem sc_law : FnScope N_law ["script"] (defScope s_law) := ⟨rfl, rfl, rfl, by decide +kernel, rfl, by decide +kernel, by decide +kernel⟩
theorem ok_law {P : Program} {w : World} {K : PySem.W.Frag} {mg : Str → Option Value} {base : Heap} (T : Txt K mg) (G_law_box : Okd P w K mg base 1 ("_law_box", none) ["script"] (sp_law_box K)) (G_law_draw : Okd P w K mg base 1 ("_law_draw", none) ["box", "many"] (sp_law_draw K)) (G_law_names : Okd P w K mg base 2 ("_law_names", none) ["box", "many"] (sp_law_names K)) (G_Grammar_init : Okd P w K mg base 6 ("Grammar", some "__init__") ["self", "tokens", "rules"] (sp_Grammar_init K)) (G_law_same : Okd P w K mg base 1 ("_law_same", none) ["told", "due"] (sp_law_same K)) (G_law_costs : Okd P w K mg base 1 ("_law_costs", none) ["row", "word"] (sp_law_costs K)) (G_law_by_places : Okd P w K mg base 1 ("_law_by_places", none) ["row", "token"] (sp_law_by_places K)) (G_least_changes : Okd P w K mg base 8 ("least_changes", none) ["grammar", "row"] (sp_least_changes K)) (G_token_changes : Okd P w K mg base 2 ("token_changes", none) ["row", "token"] (sp_token_changes K)) : Okd P w K mg base 9 ("law", none) ["script"] (sp_law K) := by
  obtain ⟨fd, F⟩ := f_law T
  refine okd_mk F sc_law len_law (fun _ _ _ _ _ _ us hl => match us, hl with | [_], _ => rfl) (fun cdv A outer s H E hr => ?_) (pure_law (P := P) (w := w))
  have nd := sc_law.nd
  exact (pss_cons (ps_set (i := 1) nd rfl (Or.inr rfl) (peCall G_law_box hr (g__law_box T) (pa_cons (pv 0) pa_nil)))
    (pss_cons (ps_set (i := 2) nd rfl (Or.inr rfl) (pe_op op_add pe_int (peCall G_law_draw hr (g__law_draw T) (pa_cons (pv 1) (pa_cons pe_int pa_nil)))))
    (C8.pss_cut (ps_if (pt_cmpR op_eq (peCall G_law_draw hr (g__law_draw T) (pa_cons (pv 1) (pa_cons pe_int pa_nil))) pe_int (nomark _)) (pss_one (ps_set (i := 2) nd rfl (Or.inr rfl) (pe_op op_add pe_int (peCall G_law_draw hr (g__law_draw T) (pa_cons (pv 1) (pa_cons pe_int pa_nil)))))) pss_nil)
    (pss_cons (ps_set (i := 3) nd rfl (Or.inl rfl) (peCall G_law_draw hr (g__law_draw T) (pa_cons (pv 1) (pa_cons pe_int pa_nil))))
    (C8.pss_cut (ps_if (pt_cmpR op_eq (peCall G_law_draw hr (g__law_draw T) (pa_cons (pv 1) (pa_cons pe_int pa_nil))) pe_int (nomark _)) (pss_one (ps_set (i := 3) nd rfl (Or.inl rfl) (peCall G_law_draw hr (g__law_draw T) (pa_cons (pv 1) (pa_cons pe_int pa_nil))))) pss_nil)
    (pss_cons (ps_setLc (i := 4) (own := [("k", 11)]) rfl nd rfl rfl (sw_true rfl rfl rfl (by decide +kernel)) (pi_range1 (by rfl) (b_range T) (pa_cons (pv 3) pa_nil)) (blkOk_by (N := N_law) (sc := defScope s_law) (by decide +kernel)) (fun _ _ _ _ _ => (pg_name (i := 11) nd rfl (Or.inl rfl))) (fun _ _ _ _ _ => pts_nil) (fun _ _ _ _ _ => (peCall G_law_draw hr (g__law_draw T) (pa_cons (pv 1) (pa_cons (pv 2) pa_nil)))))
    (pss_cons (ps_set (i := 5) nd rfl (Or.inl rfl) (peCall G_law_draw hr (g__law_draw T) (pa_cons (pv 1) (pa_cons (pe_op op_add (pv 2) pe_int) pa_nil))))
    (C8.pss_cut (ps_if (PW.pt (pw_and (pt_cmpR op_gt (pv 3) pe_int (nomark _)) (pw_and1 (pt_cmpR op_eq (peCall G_law_draw hr (g__law_draw T) (pa_cons (pv 1) (pa_cons pe_int pa_nil))) pe_int (nomark _))))) (pss_one (ps_set (i := 5) nd rfl (Or.inl rfl) (pe_ix ix_list (pv 4) (peCall G_law_draw hr (g__law_draw T) (pa_cons (pv 1) (pa_cons (pv 3) pa_nil))) (fun _ _ => rfl)))) pss_nil)
    (pss_cons (ps_set (i := 6) nd rfl (Or.inl rfl) (pe_ix ix_list (peCall G_law_costs hr (g__law_costs T) (pa_cons (pv 4) (pa_cons (pe_tup (pa_cons (pv 5) pa_nil)) pa_nil))) (pe_un un_neg pe_int) (fun _ _ => rfl)))
    (pss_cons (ps_if (pt_cmpR op_ne (pv 6) (peCall G_law_by_places hr (g__law_by_places T) (pa_cons (pv 4) (pa_cons (pv 5) pa_nil))) (nomark _)) (pss_one (ps_ret pe_bl)) pss_nil)
    (pss_cons (ps_set (i := 7) nd rfl (Or.inl rfl) (pe_callTy call_list_of (by rfl) (b_list T) boot_list (pa_cons (pv 4) pa_nil)))
    (pss_cons (ps_if (PW.pt (pw_or (pt_not (pt_val (peCall G_law_same hr (g__law_same T) (pa_cons (peCall G_token_changes hr (g_token_changes T) (pa_cons (pv 7) (pa_cons (pv 5) pa_nil))) (pa_cons (pv 6) pa_nil))))) (pw_or1 (pt_cmpR (op_neD hr.units) (pv 7) (pv 4) (nomark _))))) (pss_one (ps_ret pe_bl)) pss_nil)
    (pss_cons (ps_expr (pe_bm PySem.F.plainAttrs_list PySem.F.slot_list_append PySem.F.type_list_append mt_append (pv 7) (pa_cons (pv 5) pa_nil)))
    (pss_cons (ps_if (pt_not (pt_val (peCall G_law_same hr (g__law_same T) (pa_cons (peCall G_token_changes hr (g_token_changes T) (pa_cons (pv 7) (pa_cons (pv 5) pa_nil))) (pa_cons (peCall G_law_by_places hr (g__law_by_places T) (pa_cons (pv 7) (pa_cons (pv 5) pa_nil))) pa_nil))))) (pss_one (ps_ret pe_bl)) pss_nil)
    (pss_cons (ps_if (pt_not (pt_val (peCall G_law_same hr (g__law_same T) (pa_cons (peCall G_token_changes hr (g_token_changes T) (pa_cons (pe_callTy call_tuple_of (by rfl) (b_tuple T) boot_tuple (pa_cons (pv 4) pa_nil)) (pa_cons (pv 5) pa_nil))) (pa_cons (pv 6) pa_nil))))) (pss_one (ps_ret pe_bl)) pss_nil)
    (pss_cons (ps_set (i := 8) nd rfl (Or.inl rfl) (pe_op op_add (pe_callB (cr_max rfl) (by rfl) (b_max T) boot_max (pa_cons (pe_op op_cat (pv 4) (pe_lst (pa_cons (pv 5) pa_nil))) pa_nil)) pe_int))
    (pss_cons (ps_if (PW.pt (pw_or (pt_cmpR op_gt (pe_callB call_len_seq (by rfl) (b_len T) boot_len (pa_cons (pv 4) pa_nil)) pe_int (nomark _)) (pw_or1 (pt_cmpR op_gt (pv 8) pe_int (nomark _))))) (pss_one (ps_ret pe_bl)) pss_nil)
    (pss_cons (ps_set (i := 9) nd rfl (Or.inl rfl) (peCall G_law_names hr (g__law_names T) (pa_cons (pv 1) (pa_cons (pe_op op_add (pv 8) pe_int) pa_nil))))
    (pss_cons (ps_set (i := 10) nd rfl (Or.inl rfl) (peMake G_Grammar_init hr (g_Grammar T) (mk_Grammar T) (pa_cons (pe_slice sl_list (pv 9) po_none (po_some (pe_op op_add (pv 8) pe_int))) (pa_cons (pe_lst (pa_cons (pe_tup (pa_cons (pe_ix ix_list (pv 9) (pe_op op_add (pv 8) pe_int) (fun _ _ => rfl)) (pa_cons (pe_tup (pa_cons (pe_ix ix_list (pv 9) (pv 5) (fun _ _ => rfl)) pa_nil)) pa_nil))) pa_nil)) pa_nil))))
    (pss_one (ps_ret (peCall G_law_same hr (g__law_same T) (pa_cons (peCall G_least_changes hr (g_least_changes T) (pa_cons (pv 10) (pa_cons (pe_callTy call_tuple_of (by rfl) (b_tuple T) boot_tuple (pa_cons (pv 4) pa_nil)) pa_nil))) (pa_cons (pv 6) pa_nil))))))))))))))))))))))))
end M

/-! text: end -/
set_option maxHeartbeats 0
namespace M
open PySem PySem.Spec PyProof.Rows L2
/-- the law's def, its record named -/
theorem fn_law {P : Program} {w : World} {K : PySem.W.Frag} {mg : Str → Option Value} {base : Heap} (T : Txt K mg) (G_law_box : Okd P w K mg base 1 ("_law_box", none) ["script"] (sp_law_box K)) (G_law_draw : Okd P w K mg base 1 ("_law_draw", none) ["box", "many"] (sp_law_draw K)) (G_law_names : Okd P w K mg base 2 ("_law_names", none) ["box", "many"] (sp_law_names K)) (G_Grammar_init : Okd P w K mg base 6 ("Grammar", some "__init__") ["self", "tokens", "rules"] (sp_Grammar_init K)) (G_law_same : Okd P w K mg base 1 ("_law_same", none) ["told", "due"] (sp_law_same K)) (G_law_costs : Okd P w K mg base 1 ("_law_costs", none) ["row", "word"] (sp_law_costs K)) (G_law_by_places : Okd P w K mg base 1 ("_law_by_places", none) ["row", "token"] (sp_law_by_places K)) (G_least_changes : Okd P w K mg base 8 ("least_changes", none) ["grammar", "row"] (sp_least_changes K)) (G_token_changes : Okd P w K mg base 2 ("token_changes", none) ["row", "token"] (sp_token_changes K)) {fd : FuncData}
    (F : FunD K "law" "law" (defArgs s_law) (defBody s_law) (defScope s_law) [] [] (He.fAd K ("law", none)) fd) : FnOk P w K mg base (CXE P w) 9 (He.fAd K ("law", none)) fd ["script"] (sp_law K) := by
  refine F.ok sc_law len_law fun cdv A outer s H vs Q E hr h => ⟨t_law K P w, PSs.nox ?_, pure_law vs H Q E h⟩
  have nd := sc_law.nd
  exact (pss_cons (ps_set (i := 1) nd rfl (Or.inr rfl) (peCall G_law_box hr (g__law_box T) (pa_cons (pv 0) pa_nil)))
    (pss_cons (ps_set (i := 2) nd rfl (Or.inr rfl) (pe_op op_add pe_int (peCall G_law_draw hr (g__law_draw T) (pa_cons (pv 1) (pa_cons pe_int pa_nil)))))
    (C8.pss_cut (ps_if (pt_cmpR op_eq (peCall G_law_draw hr (g__law_draw T) (pa_cons (pv 1) (pa_cons pe_int pa_nil))) pe_int (nomark _)) (pss_one (ps_set (i := 2) nd rfl (Or.inr rfl) (pe_op op_add pe_int (peCall G_law_draw hr (g__law_draw T) (pa_cons (pv 1) (pa_cons pe_int pa_nil)))))) pss_nil)
    (pss_cons (ps_set (i := 3) nd rfl (Or.inl rfl) (peCall G_law_draw hr (g__law_draw T) (pa_cons (pv 1) (pa_cons pe_int pa_nil))))
    (C8.pss_cut (ps_if (pt_cmpR op_eq (peCall G_law_draw hr (g__law_draw T) (pa_cons (pv 1) (pa_cons pe_int pa_nil))) pe_int (nomark _)) (pss_one (ps_set (i := 3) nd rfl (Or.inl rfl) (peCall G_law_draw hr (g__law_draw T) (pa_cons (pv 1) (pa_cons pe_int pa_nil))))) pss_nil)
    (pss_cons (ps_setLc (i := 4) (own := [("k", 11)]) rfl nd rfl rfl (sw_true rfl rfl rfl (by decide +kernel)) (pi_range1 (by rfl) (b_range T) (pa_cons (pv 3) pa_nil)) (blkOk_by (N := N_law) (sc := defScope s_law) (by decide +kernel)) (fun _ _ _ _ _ => (pg_name (i := 11) nd rfl (Or.inl rfl))) (fun _ _ _ _ _ => pts_nil) (fun _ _ _ _ _ => (peCall G_law_draw hr (g__law_draw T) (pa_cons (pv 1) (pa_cons (pv 2) pa_nil)))))
    (pss_cons (ps_set (i := 5) nd rfl (Or.inl rfl) (peCall G_law_draw hr (g__law_draw T) (pa_cons (pv 1) (pa_cons (pe_op op_add (pv 2) pe_int) pa_nil))))
    (C8.pss_cut (ps_if (PW.pt (pw_and (pt_cmpR op_gt (pv 3) pe_int (nomark _)) (pw_and1 (pt_cmpR op_eq (peCall G_law_draw hr (g__law_draw T) (pa_cons (pv 1) (pa_cons pe_int pa_nil))) pe_int (nomark _))))) (pss_one (ps_set (i := 5) nd rfl (Or.inl rfl) (pe_ix ix_list (pv 4) (peCall G_law_draw hr (g__law_draw T) (pa_cons (pv 1) (pa_cons (pv 3) pa_nil))) (fun _ _ => rfl)))) pss_nil)
    (pss_cons (ps_set (i := 6) nd rfl (Or.inl rfl) (pe_ix ix_list (peCall G_law_costs hr (g__law_costs T) (pa_cons (pv 4) (pa_cons (pe_tup (pa_cons (pv 5) pa_nil)) pa_nil))) (pe_un un_neg pe_int) (fun _ _ => rfl)))
    (pss_cons (ps_if (pt_cmpR op_ne (pv 6) (peCall G_law_by_places hr (g__law_by_places T) (pa_cons (pv 4) (pa_cons (pv 5) pa_nil))) (nomark _)) (pss_one (ps_ret pe_bl)) pss_nil)
    (pss_cons (ps_set (i := 7) nd rfl (Or.inl rfl) (pe_callTy call_list_of (by rfl) (b_list T) boot_list (pa_cons (pv 4) pa_nil)))
    (pss_cons (ps_if (PW.pt (pw_or (pt_not (pt_val (peCall G_law_same hr (g__law_same T) (pa_cons (peCall G_token_changes hr (g_token_changes T) (pa_cons (pv 7) (pa_cons (pv 5) pa_nil))) (pa_cons (pv 6) pa_nil))))) (pw_or1 (pt_cmpR (op_neD hr.units) (pv 7) (pv 4) (nomark _))))) (pss_one (ps_ret pe_bl)) pss_nil)
    (pss_cons (ps_expr (pe_bm PySem.F.plainAttrs_list PySem.F.slot_list_append PySem.F.type_list_append mt_append (pv 7) (pa_cons (pv 5) pa_nil)))
    (pss_cons (ps_if (pt_not (pt_val (peCall G_law_same hr (g__law_same T) (pa_cons (peCall G_token_changes hr (g_token_changes T) (pa_cons (pv 7) (pa_cons (pv 5) pa_nil))) (pa_cons (peCall G_law_by_places hr (g__law_by_places T) (pa_cons (pv 7) (pa_cons (pv 5) pa_nil))) pa_nil))))) (pss_one (ps_ret pe_bl)) pss_nil)
    (pss_cons (ps_if (pt_not (pt_val (peCall G_law_same hr (g__law_same T) (pa_cons (peCall G_token_changes hr (g_token_changes T) (pa_cons (pe_callTy call_tuple_of (by rfl) (b_tuple T) boot_tuple (pa_cons (pv 4) pa_nil)) (pa_cons (pv 5) pa_nil))) (pa_cons (pv 6) pa_nil))))) (pss_one (ps_ret pe_bl)) pss_nil)
    (pss_cons (ps_set (i := 8) nd rfl (Or.inl rfl) (pe_op op_add (pe_callB (cr_max rfl) (by rfl) (b_max T) boot_max (pa_cons (pe_op op_cat (pv 4) (pe_lst (pa_cons (pv 5) pa_nil))) pa_nil)) pe_int))
    (pss_cons (ps_if (PW.pt (pw_or (pt_cmpR op_gt (pe_callB call_len_seq (by rfl) (b_len T) boot_len (pa_cons (pv 4) pa_nil)) pe_int (nomark _)) (pw_or1 (pt_cmpR op_gt (pv 8) pe_int (nomark _))))) (pss_one (ps_ret pe_bl)) pss_nil)
    (pss_cons (ps_set (i := 9) nd rfl (Or.inl rfl) (peCall G_law_names hr (g__law_names T) (pa_cons (pv 1) (pa_cons (pe_op op_add (pv 8) pe_int) pa_nil))))
    (pss_cons (ps_set (i := 10) nd rfl (Or.inl rfl) (peMake G_Grammar_init hr (g_Grammar T) (mk_Grammar T) (pa_cons (pe_slice sl_list (pv 9) po_none (po_some (pe_op op_add (pv 8) pe_int))) (pa_cons (pe_lst (pa_cons (pe_tup (pa_cons (pe_ix ix_list (pv 9) (pe_op op_add (pv 8) pe_int) (fun _ _ => rfl)) (pa_cons (pe_tup (pa_cons (pe_ix ix_list (pv 9) (pv 5) (fun _ _ => rfl)) pa_nil)) pa_nil))) pa_nil)) pa_nil))))
    (pss_one (ps_ret (peCall G_law_same hr (g__law_same T) (pa_cons (peCall G_least_changes hr (g_least_changes T) (pa_cons (pv 10) (pa_cons (pe_callTy call_tuple_of (by rfl) (b_tuple T) boot_tuple (pa_cons (pv 4) pa_nil)) pa_nil))) (pa_cons (pv 6) pa_nil))))))))))))))))))))))))
theorem law_ok {P : Program} {w : World} {K : PySem.W.Frag} {mg : Str → Option Value} {base : Heap} (T : Txt K mg) {fd : FuncData}
    (F : FunD K "law" "law" (defArgs s_law) (defBody s_law) (defScope s_law) [] [] (He.fAd K ("law", none)) fd) : FnOk P w K mg base (CXE P w) 9 (He.fAd K ("law", none)) fd ["script"] (sp_law K) := by
  have G_is_integer := ok_is_integer (P := P) (w := w) (base := base) T 
  have G_is_below := ok_is_below (P := P) (w := w) (base := base) T G_is_integer
  have G_is_sequence := ok_is_sequence (P := P) (w := w) (base := base) T 
  have G_is_name := ok_is_name (P := P) (w := w) (base := base) T 
  have G_are_names := ok_are_names (P := P) (w := w) (base := base) T G_is_sequence G_is_name
  have G_stretch_cost := ok_stretch_cost (P := P) (w := w) (base := base) T 
  have G_token_changes := ok_token_changes (P := P) (w := w) (base := base) T G_stretch_cost
  have G_is_row := ok_is_row (P := P) (w := w) (base := base) T G_is_sequence G_is_below
  have G_row_asked := ok_row_asked (P := P) (w := w) (base := base) T G_is_row
  have G_Prices_init := ok_Prices_init (P := P) (w := w) (base := base) T 
  have G_Prices_price := ok_Prices_price (P := P) (w := w) (base := base) T G_stretch_cost
  have G_added := ok_added (P := P) (w := w) (base := base) T 
  have G_lowest := ok_lowest (P := P) (w := w) (base := base) T 
  have G_Tabling_sum_by := ok_Tabling_sum_by (P := P) (w := w) (base := base) T G_added G_Prices_price
  have G_Tabling_inner_sums := ok_Tabling_inner_sums (P := P) (w := w) (base := base) T G_lowest G_Tabling_sum_by
  have G_Tabling_add_up := ok_Tabling_add_up (P := P) (w := w) (base := base) T G_Tabling_sum_by G_lowest
  have G_Tabling_by_rule := ok_Tabling_by_rule (P := P) (w := w) (base := base) T 
  have G_Tabling_lowers := ok_Tabling_lowers (P := P) (w := w) (base := base) T G_Tabling_by_rule
  have G_Tabling_lay := ok_Tabling_lay (P := P) (w := w) (base := base) T G_Tabling_inner_sums G_Tabling_add_up G_Tabling_lowers
  have G_Tabling_init := ok_Tabling_init (P := P) (w := w) (base := base) T G_Prices_init G_Tabling_lay
  have G_least_changes := ok_least_changes (P := P) (w := w) (base := base) T G_row_asked G_Tabling_init
  have G_marked_ones := ok_marked_ones (P := P) (w := w) (base := base) T 
  have G_can_stand := ok_can_stand (P := P) (w := w) (base := base) T 
  have G_with_trees := ok_with_trees (P := P) (w := w) (base := base) T G_can_stand
  have G_reached := ok_reached (P := P) (w := w) (base := base) T 
  have G_useless_rules := ok_useless_rules (P := P) (w := w) (base := base) T G_with_trees G_reached G_can_stand
  have G_rules_with := ok_rules_with (P := P) (w := w) (base := base) T 
  have G_groups_in := ok_groups_in (P := P) (w := w) (base := base) T 
  have G_is_rule_pair := ok_is_rule_pair (P := P) (w := w) (base := base) T G_is_name
  have G_are_rules := ok_are_rules (P := P) (w := w) (base := base) T G_is_sequence G_is_rule_pair
  have G_empty_groups := ok_empty_groups (P := P) (w := w) (base := base) T 
  have G_first_of := ok_first_of (P := P) (w := w) (base := base) T G_marked_ones
  have G_first_table := ok_first_table (P := P) (w := w) (base := base) T G_first_of
  have G_joined_ones := ok_joined_ones (P := P) (w := w) (base := base) T 
  have G_behind_dots := ok_behind_dots (P := P) (w := w) (base := base) T G_joined_ones
  have G_Beginnings_init := ok_Beginnings_init (P := P) (w := w) (base := base) T G_first_table G_empty_groups G_marked_ones G_behind_dots
  have G_Grammar_init := ok_Grammar_init (P := P) (w := w) (base := base) T G_groups_in G_useless_rules G_Beginnings_init G_are_names G_are_rules G_rules_with
  have G_law_box := ok_law_box (P := P) (w := w) (base := base) T 
  have G_law_draw := ok_law_draw (P := P) (w := w) (base := base) T 
  have G_law_same := ok_law_same (P := P) (w := w) (base := base) T 
  have G_law_costs := ok_law_costs (P := P) (w := w) (base := base) T 
  have G_law_by_places := ok_law_by_places (P := P) (w := w) (base := base) T 
  have G_law_names := ok_law_names (P := P) (w := w) (base := base) T G_law_draw
  exact fn_law T G_law_box G_law_draw G_law_names G_Grammar_init G_law_same G_law_costs G_law_by_places G_least_changes G_token_changes F
theorem law_facts {P : Program} {w : World} {K : PySem.W.Frag} {h : Heap} {mg : Str → Option Value} {f : Addr} (X : K.In h) (G : h.Ns mainGlobals mg) (hfa : mg ("law" : Str) = some (.ref f)) (c : He.SaysD faL fnL K) :
    ∃ fd : FuncData, (∀ (s : Shared) (v : Value), BindsTo s fd ⟨[v], []⟩ [("script", v)]) ∧ ∀ base : Heap, K.In base → base.Ns mainGlobals mg → FnOk P w K mg base (CXE P w) 9 f fd ["script"] (sp_law K) := by
  have T : Txt K mg := ⟨c, h, X, G⟩
  obtain ⟨fd, F⟩ := f_law T
  have e := hfa.symm.trans (g_law T)
  cases e
  have b := FunD.bindsA (ps := ["script"]) F fun _ _ _ _ _ _ us hl => match us, hl with | [_], _ => rfl
  exact ⟨fd, fun s v => b s [v] rfl, fun base _ _ => law_ok T F⟩
/-- the law walked, its exceptions by the world -/
theorem walk_w {l : PySem.W.OpenLaw} {n k : Nat} {q : Program} {loose : List Str} {XP : (Str → Option Value) → Heap → Prop} {YP : World → Heap → Prop} {d : DefRec} {CX : World → CXT} {x : Str} (hn : l.most = some n) (hn2 : n ≤ sizeLine) (hdf : d.params.defaults = []) (hr : Room k callerA)
    (F : ∀ (w : World) (mg : Str → Option Value) (fa : Addr) (h : Heap), YP w h → h.Ns mainGlobals mg → mg d.name = some (.ref fa) → ∃ (K : PySem.W.Frag) (fd : FuncData) (sp : Sp), K.In h ∧ (∀ (s : Shared) (u : Value), BindsTo s fd ⟨[u], []⟩ [(x, u)]) ∧
      (∀ (H : Hp) (a : Addr) (ns : List Int), ns.length ≤ n → Only H → SqL K H a (ns.map V.int) → sp [.ref a] H (fun v _ => v = .bl true) fun _ _ _ => False) ∧ ∀ base : Heap, K.In base → base.Ns mainGlobals mg → FnOk l.prog w K mg base (CX w) k fa fd [x] sp)
    (hCX : ∀ (w : World) (H : Hp) (s : Shared) (e : Value) (s' : Shared), CX w [] H s (fun _ _ _ => False) e s' → False) : PySem.W.WalkO q loose XP YP l.row.toRowW d [] (fun f vs => PySem.call f vs) := by
  refine Att.attach_call hn hdf fun w z0 z1 mg mb fa o pm cd doc a vs ns G Y ho hd hcd hmg hobj hints hlen hg => ?_
  obtain ⟨K, fd, sp, KX, hb, hsp, hF⟩ := F w mg fa _ Y G.T.g hmg
  exact law_call KX G.T.g G.T.b G.T.builtins G.T.nolimit hg hobj hints (Nat.le_trans hlen hn2) hr hF hb (fun H hO hS => hsp H a ns hlen hO hS) fun H e s' => hCX w H z1 e s'
end M
open PySem PySem.W PySem.Calls PyProof.Rows
theorem PySem.Challenge.cw_alwaystree_k63_token_changes_holds : PySem.Challenge.rw_alwaystree_k63_token_changes.Holds := by
  w_on; o_law
  refine HandSHeadRun.head_any (r := OpenLaw.row PySem.Challenge.rw_alwaystree_k63_token_changes) (q := view (OpenLaw.row PySem.Challenge.rw_alwaystree_k63_token_changes).prog [55]) (H := M.hk) (ob := M.ob) (M := 6000) (loose := M.looseL) (d := HandSHeadRun.topDef (OpenLaw.row PySem.Challenge.rw_alwaystree_k63_token_changes).prog 55) (kwd := []) M.ob_eq
    (by kernel_rfl) (fun s => by kernel_rfl) M.run (by kernel_rfl) (by kernel_rfl) (by kernel_rfl) (by rfl) (by first | assumption | decide +kernel) (by decide +kernel) ⟨rfl, rfl, rfl, rfl, rfl, by decide +kernel⟩ ?hw ?hc
  case hw => w_witness2
  case hc =>
    refine M.walk_w (l := PySem.Challenge.rw_alwaystree_k63_token_changes) (n := 63) (k := 9) (x := "script") (CX := fun w => M.CXE (PySem.Challenge.rw_alwaystree_k63_token_changes).prog w) rfl (by decide) (by kernel_rfl) ⟨rfl, by decide, by decide⟩ ?F (fun w H s e s' z => ?no)
    case no =>
      obtain ⟨a, B, H', cls, d, z1, z2, z3, z4⟩ := z
      exact z4.2.2.2.2
    intro w mg fa h Y G hmg0
    obtain ⟨K, KX, c⟩ := Y
    have hmg : mg ("law" : PySem.Str) = some (.ref fa) := by
      have e : (HandSHeadRun.topDef (OpenLaw.row PySem.Challenge.rw_alwaystree_k63_token_changes).prog 55).name = ("law" : PySem.Str) := by kernel_rfl
      rw [← e]
      exact hmg0
    obtain ⟨fd, hb, hF⟩ := M.law_facts (P := (PySem.Challenge.rw_alwaystree_k63_token_changes).prog) (w := w) KX G hmg c
    exact ⟨K, fd, M.sp_law K, KX, hb, fun H a ns hl _ hS => ⟨a, ns, rfl, hS, Nat.le_trans hl (by decide), fun _ => rfl⟩, hF⟩

