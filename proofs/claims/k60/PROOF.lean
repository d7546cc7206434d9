import PyProof.Rows.All
import Wide.All
import OpenK.AllK
import Wide.FinOn
import PyProof.ReprRoads
import PyProof.ReprReads
import PyProof.StrOps2
import PyProof.Rows.SortShellAny
import KE.GoesMore
import KE.GoesEnum
import HandS.ForMost
import HandS.ForExc
import HandS.Walk
import HandS.Set
import HandS.SetFor
import HandS.SetKeys
import PyProof.Rows.TmSorted
import PyProof.Rows.StrMeet
import HandS.Style
import HandS.IsInst
import HandS.TupAny
import HandS.TupMul
import HandS.DictComp
import PySem.Challenge.RW_faxhouse_k60_whole_late_lines
import PyProof.ReprLen
set_option Elab.async false
set_option linter.all false
set_option maxRecDepth 100000
set_option maxHeartbeats 2000000
/-! Further rules: repr of data, a text taken n times, sorted texts of any number, enumerate and sum of a tuple. -/
namespace Fx
open PySem PySem.Spec PyProof.Rows L2
section
variable {X : Cx}

/-- repr(x), x a list or tuple of data; no other repr is under way -/
def rRepr (K : PySem.W.Frag) : List V → Hp → VK → Prop := fun xs H Q =>
  ∃ (a : Addr) (d : PyData), xs = [V.ref a] ∧ Dp K H (.ref a) d ∧ d.showable = true ∧
    d.hasDict = false ∧ d.depth ≤ 60 ∧ d.shown.length ≤ sizeLine ∧ Q (.str d.shown) H
theorem call_repr (hg : X.A.guards = some [])
    (hu : X.A.units + 64 < cLine) : CallR X (.builtin "repr") (rRepr X.K) := by
  intro pins s σ H xs us Q I r h
  obtain ⟨a, d, rfl, hd, h1, h2, h3, h4, q⟩ := h
  obtain ⟨u, rfl, ru⟩ := vals1 r
  cases ru
  obtain ⟨as, rd⟩ := Dp.reads I d _ _ hd rfl
  refine repr_of_reads' rd h1 (fun z => ?_) hg (by omega) (fun _ _ e => e) (fun h' u tk hk => ?_) h4
  · rw [h2] at z; cases z
  · exact ⟨.str d.shown, H, I.kept hk, ⟨u, rfl⟩, q⟩

/-- x * n of a text, n not negative -/
def rMulS : R2 := fun x y H Q => ∃ (z : Str) (n : Nat), x = .str z ∧ y = .int (n : Int) ∧ n < 100000 ∧
  z.length < 100 ∧ Q (.str ⟨((List.replicate n z.cps.toList).flatten).toArray⟩) H
theorem fold_app (z : Array Nat) : ∀ (n : Nat) (acc : Array Nat),
    (List.replicate n z).foldl (· ++ ·) acc = acc ++ ((List.replicate n z.toList).flatten).toArray
  | 0, acc => by simp
  | n + 1, acc => by
    rw [List.replicate_succ, List.foldl_cons, fold_app z n, List.replicate_succ, List.flatten_cons]
    apply Array.ext'
    simp
theorem op_mulS : OpR X (binaryOp .Mult) rMulS := by
  intro pins s σ H x y v u Q I rx ry h
  obtain ⟨z, n, rfl, rfl, hn, hz, q⟩ := h
  obtain ⟨t, rfl⟩ := rx
  obtain ⟨t', rfl⟩ := ry
  have fin : ∀ (l : Str) (tt : Tok) (tk : Nat), l = ⟨((List.replicate n z.cps.toList).flatten).toArray⟩ →
      EP X pins σ Q (.str l tt) { s with toks := tk } := fun l tt tk e =>
    ⟨.str _, H, I.tok _, ⟨tt, by rw [e]⟩, q⟩
  have hlen : z.length * n ≤ sizeLine := by
    have h1 : z.length * n ≤ 100 * 100000 := Nat.mul_le_mul (by omega) (by omega)
    exact Nat.le_trans h1 (by rw [sizeLine_eq]; decide)
  refine PySem.P.mul_str ?_ (fun h1 h2 h3 => ?_) (fun h1 h2 => ?_) ?_
  · have a1 : ¬ ((n : Int) < -(2 ^ 63 : Int)) := by omega
    have a2 : ¬ ((n : Int) ≥ 2 ^ 63) := by omega
    rw [decide_eq_false a1, decide_eq_false a2]; rfl
  · have b1 : (1 : Int) ≤ (n : Int) := by omega
    have b2 : (100000 : Int) ≤ (2 ^ 63 - 1) / (n : Int) := by
      refine Int.le_ediv_of_mul_le (by omega) ?_
      have : (100000 : Int) * (n : Int) ≤ 100000 * 100000 := Int.mul_le_mul_of_nonneg_left (by omega) (by decide)
      omega
    omega
  · rw [Int.toNat_natCast]
    unfold Builtin.Str.tooLong
    simp only [decide_eq_false_iff_not]
    omega
  · by_cases e0 : (n : Int) < 1
    · rw [if_pos e0]
      have : n = 0 := by omega
      subst this
      exact ⟨by decide, fin _ _ _ rfl⟩
    · rw [if_neg e0]
      by_cases e1 : ((n : Int) == 1 || z.length == 0) = true
      · rw [if_pos e1]
        rcases Bool.or_eq_true_iff.mp e1 with e | e
        · have en : n = 1 := by have := beq_iff_eq.mp e; omega
          subst en
          refine ⟨.str _, H, I, ⟨t, ?_⟩, q⟩
          obtain ⟨c⟩ := z
          simp
        · have ez : z.cps = #[] := Array.eq_empty_of_size_eq_zero (by simpa [Str.length] using e)
          refine ⟨.str _, H, I, ⟨t, ?_⟩, q⟩
          obtain ⟨c⟩ := z
          simp only at ez
          subst ez
          have hf : ∀ k : Nat, (List.replicate k ([] : List Nat)).flatten = [] := fun k => by
            induction k with
            | zero => rfl
            | succ k ih => rw [List.replicate_succ, List.flatten_cons, ih]; rfl
          simp [hf]
      · rw [if_neg e1, Int.toNat_natCast]
        refine ⟨?_, fin _ _ _ ?_⟩
        · rw [fold_app]
          show (#[] ++ _ : Array Nat).size ≤ sizeLine
          simp only [Array.size_append, List.size_toArray, List.length_flatten, List.map_replicate, Array.length_toList]
          simpa [Str.length, Nat.mul_comm] using hlen
        · rw [fold_app]
          simp

/-- sorted(xs) of texts, any number -/
def rSortedA (K : PySem.W.Frag) : List V → Hp → VK → Prop := fun vs H Q =>
  ∃ (a : Addr) (xs : List Str), vs = [V.ref a] ∧ SqL K H a (xs.map V.str) ∧
    ∀ (ys : List Str) (p : Addr), ys.Perm xs → sortedS ys = true → H p = none →
      Q (.ref p) (upd H p (.lst (ys.map V.str)))
theorem cr_sortedA : CallR X (.builtin "sorted") (rSortedA X.K) := by
  intro pins s σ H vs us Q I r h
  obtain ⟨a, xs, rfl, hs, q⟩ := h
  obtain ⟨its, rv, hl, hz⟩ := I.list hs
  rw [Vals.ref1 r]
  refine sorted_strsAny hl.isList rv.strs (by rw [← rv.length]; exact hz) fun out ys h1 h2 h3 => ?_
  obtain ⟨ep, he'⟩ := sortedAll_at s.heap its out
  have hlen : (ys.map V.str).length ≤ sizeLine := by
    rw [List.length_map, h2.length_eq]; rw [List.length_map] at hz; exact hz
  have J := I.laid (t' := s.toks) (a := s.heap.objs.size + 1) (o := .lst (ys.map V.str))
    (fun _ _ => sortedAll_old) (Nat.le_succ _) ⟨hlen, out.toList, ep, vals_of_strs h1, he'⟩
  exact ⟨.ref _, _, J, rfl, q ys _ h2 h3 (I.hok.fresh (Nat.le_succ _))⟩

/-- sum(t) of a tuple of ints -/
def rSumT (K : PySem.W.Frag) : List V → Hp → VK → Prop := fun vs H Q =>
  ∃ (a : Addr) (ns : List Int), vs = [V.ref a] ∧ SqT K H a (ns.map V.int) ∧ Q (.int ns.sum) H
theorem cr_sumT (hc : X.calm = true) : CallR X (.builtin "sum") (rSumT X.K) := by
  intro pins s σ H vs us Q I r h
  obtain ⟨a, ns, rfl, hs, q⟩ := h
  obtain ⟨its, rv, hl, hz⟩ := I.tuple hs
  rw [Vals.ref1 r]
  have hi := rv.ints
  obtain ⟨xs, e⟩ := hi.allInts.items
  have hn : numsOf (intItems xs).toList = ns := by rw [← e]; exact hi.numsOf
  rw [nums_intItems] at hn
  rw [e] at hl
  have hh := I.ok.hd hc
  have hlt : a < s.heap.objs.size := by obtain ⟨_, e1, _⟩ := hl; exact Heap.lt_size e1
  have hl2 : s.heap.IsTuple a (intItems xs) := by
    exact hl
  refine call_sum_walkG (wpAny_pyIter_tuple hl2 ?_)
  refine ⟨_, [s.heap.objs.size, a], [s.heap.objs.size], _, _, _, numAt xs, rfl,
    Walks.tuple (A := X.A.in1) hh _ a (Nat.ne_of_lt hlt) (intItems xs),
    ⟨⟨_, Heap.get?_push_size _ rfl, rfl, rfl⟩, hl2.push _⟩, fun b hb => ?_, (fun _ _ => intItems_at), fun h' tk t' hk => ?_⟩
  · show b < (s.heap.push _).objs.size
    rw [Heap.size_push]
    have hb' : b = s.heap.objs.size ∨ b = a := by simpa using hb
    rcases hb' with z | z
    · rw [z]; exact Nat.lt_succ_self _
    · rw [z]; exact Nat.lt_succ_of_lt hlt
  · have es : preSum (numAt xs) (intItems xs).size = ns.sum := by
      rw [show (intItems xs).size = xs.size by simp [intItems], preSum_eq, List.take_of_length_le (by simp), hn]
    rw [es]
    have J : Inv X pins σ H { s with heap := h', toks := tk } := I.kept fun b o e1 => by
      refine hk b o (fun z => ?_) (Heap.get?_push_of_some _ e1)
      have z1 : b = s.heap.objs.size := by simpa using z
      exact absurd (Heap.lt_size e1) (by rw [z1]; exact Nat.lt_irrefl _)
    exact ⟨.int _, H, J, ⟨t', rfl⟩, q⟩

end

/-! ### enumerate(tuple) -/
abbrev tIt (l : Addr) : Obj := { cls := .type "tuple_iterator", data := .fields #[.ref l, .int 0 0] }
abbrev eOb (i : Addr) : Obj := { cls := .type "enumerate", data := .fields #[.none, .bool false, .ref i, rawInt 0, .none, .none] }
set_option maxHeartbeats 4000000 in
theorem meets_enumTup (l : Addr) (items : Array Value) :
    Meets (Builtin.«enumerate.__new__» ⟨[.type "enumerate", .ref l], []⟩) (fun _ R s => s.heap.IsTuple l items ∧
      R (.ok (.ret (.ref (s.heap.objs.size + 1))))
        { s with heap := (s.heap.push (tIt l)).push (eOb s.heap.objs.size) }) :=
  .of_wp fun prog w A R s h => by
    obtain ⟨hp, g, d, tk, os⟩ := s
    obtain ⟨hl, h⟩ := h
    have hsub := sub_enumerate
    have hz : (hp.push (tIt l)).objs.size = hp.objs.size + 1 := Heap.size_push ..
    have q1 : ∀ {A' : Around} {E : Value → Shared → Prop} {Q : Value → Shared → Prop},
        Q (.ref hp.objs.size) ⟨hp.push (tIt l), g, d, tk, os⟩ →
        wpAny (model prog w) A' (pyIter (.ref l)) Q E ⟨hp, g, d, tk, os⟩ := fun q => wpAny_pyIter_tuple hl q
    wp_walk using q1
    refine wpAny_stack_any fun st => wpAny_pure ?_
    split
    · rename_i c _ _ _ _ _
      cases (c == Value.type "enumerate")
      all_goals
        wp_walk using q1
        exact ⟨_, rfl, by rw [← hz] at h; exact h⟩
    · wp_walk using q1
      exact ⟨_, rfl, by rw [← hz] at h; exact h⟩
theorem call_enumTup {A : Around} {E : Value → Shared → Prop} {s : Shared} {t : Addr} {items : Array Value} {Q : Value → Shared → Prop}
    {P : Program} {w : World} (hT : s.heap.IsTuple t items)
    (h : ∀ h', IsEnum h' (s.heap.objs.size + 1) s.heap.objs.size 0 .none → h'.IsTupleIter s.heap.objs.size t 0 →
      (∀ b o, s.heap.get? b = some o → h'.get? b = some o) → Q (.ref (s.heap.objs.size + 1)) { s with heap := h' }) :
    wpAny (model P w) A (call (.type "enumerate") [.ref t]) Q E s := by
  refine callType_new PySem.F.called_enumerate (by decide) (PySem.F.typeCall_enumerate_1 _) (PySem.F.newCall_enumerate_1 _)
    (fun obj => PySem.F.args_object_init_2 obj _) PySem.F.entry_enumerate_new (meets_enumTup t items) ⟨hT, ?_⟩
  have hz : (s.heap.push (tIt t)).objs.size = s.heap.objs.size + 1 := Heap.size_push ..
  have he : IsEnum ((s.heap.push (tIt t)).push
      (eOb s.heap.objs.size))
      (s.heap.objs.size + 1) s.heap.objs.size 0 .none := by
    have e := Heap.get?_push_size (s.heap.push (tIt t))
      (o := (eOb s.heap.objs.size)) rfl
    rw [hz] at e
    exact e
  exact ⟨⟨_, he, rfl⟩, h _ he ⟨_, Heap.get?_push_of_some _ (Heap.get?_push_size _ rfl), rfl, rfl⟩
    fun b o x => Heap.get?_push_of_some _ (Heap.get?_push_of_some _ x)⟩

/-- the tuple at a, each item in a new pair with its number -/
def IteT (K : PySem.W.Frag) (a : Addr) : It :=
  ⟨fun i H => ∃ (xs : List V) (x : V), SqT K H a xs ∧ xs[i]? = some x,
   fun i H v H' => ∃ T x, v = .ref T ∧ H T = none ∧ H' = upd H T (.tup [.int (i : Nat), x]) ∧ ∀ xs, SqT K H a xs → xs[i]? = some x,
   fun i H => ∃ xs : List V, SqT K H a xs ∧ xs.length = i⟩
theorem turn_enumT {P : Program} {w : World} {K : PySem.W.Frag} {elts : List Expr} {kk : Nat} {tpos : Pos} (a e it : Addr) :
    Turn P w K (.Tuple elts kk tpos) (IteT K a) [e, it] e
      (fun i h => (∃ old, IsEnum h e it ((i : Nat) : Int) old) ∧ h.IsTupleIter it a i ∧ e ≠ it ∧ a ≠ it ∧ a ≠ e) where
  mem := by simp
  obj := fun i h st b hb => by
    obtain ⟨⟨old, he⟩, ⟨o, ho, hc, hd⟩, _⟩ := st
    rcases (show b = e ∨ b = it by simpa using hb) with z | z <;> subst z
    · exact ⟨_, he, fun v q => nomatch q⟩
    · exact ⟨o, ho, fun v q => by rw [hd] at q; cases q⟩
  keep := fun i h h' st k => by
    obtain ⟨⟨old, he⟩, hi, hne⟩ := st
    exact ⟨⟨old, k e (by simp) _ he⟩, hi.at (fun o q => k it (by simp) o q), hne⟩
  item := by
    intro X hP hw hK hc i pins s σ H E I hf st hg
    subst hP hw hK
    obtain ⟨⟨old, he⟩, hit, hne, hai, hae⟩ := st
    obtain ⟨xs, x, hq, hx⟩ := hg
    obtain ⟨its, rv, p, hz⟩ := I.tuple hq
    obtain ⟨u, hu, ru⟩ := rv.get hx
    have hel : e < s.heap.objs.size := Heap.lt_size he
    have hil : it < s.heap.objs.size := by obtain ⟨_, q, _⟩ := hit; exact Heap.lt_size q
    have D := Draws.tuple (prog := X.prog) (w := X.w) (A := X.A.in1) (I.ok.hd hc) it a hai its.toArray
    have hlt : i < its.toArray.size := by
      have := (List.getElem?_eq_some_iff.mp hu).1
      simpa using this
    refine wpAny_pyNext_enum_itemC D he ⟨hit, p⟩ hlt hne (by simp [hne, Ne.symm hae]) fun v h' tk hv ho st' hT hsz hk => ?_
    have ev : v = u := by
      have e1 : its[i]? = some v := by simpa using hv
      rw [hu] at e1; exact (Option.some.inj e1).symm
    subst ev
    refine ⟨_, rfl, wpAny_letOwnedTupleGo_enum (s := { s with heap := h', toks := tk + 1 }) ho fun h'' he' sb => ?_⟩
    have hT2 := (sb.2 _ (Nat.ne_of_gt hel)).trans hT
    have new : ObjOk X.prog X.w (upd H s.heap.objs.size (.tup [.int (i : Nat), x])) h'' s.heap.objs.size (.tup [.int (i : Nat), x]) :=
      ⟨by show 2 ≤ sizeLine; decide, [.int i tk, v], .cons ⟨_, rfl⟩ (.cons ru .nil), ⟨_, hT2, rfl, _, rfl⟩⟩
    have J : Inv X pins σ (upd H s.heap.objs.size (.tup [.int (i : Nat), x])) { s with heap := h'', toks := tk + 1 } :=
      I.turnedNew (ch := [e, it]) (fun b ob hb q => (sb.2 b (fun z => hb (by simp [z]))).trans
        (hk b ob (fun z => hb (by simp [z])) (fun z => hb (by simp [z])) q)) hf (Nat.le_refl _) new
    refine ⟨.ref s.heap.objs.size, _, J, rfl, ⟨_, x, rfl, I.hok.fresh (Nat.le_refl _), rfl, fun ys hy => ?_⟩, ⟨⟨v, ?_⟩, ?_, hne, hai, hae⟩, fun b hb => ?_⟩
    · rw [I.tuple_inj hy hq]; exact hx
    · have e1 : ((i + 1 : Nat) : Int) = (i : Int) + 1 := by omega
      rw [e1]
      exact he'
    · exact st'.1.at fun o q => (sb.2 it (Ne.symm hne)).trans q
    · have hb' : b < s.heap.objs.size := by
        rcases (show b = e ∨ b = it by simpa using hb) with z | z <;> rw [z] <;> assumption
      rw [upd_ne (Nat.ne_of_lt hb')]
      exact (hf b hb).1
  done := by
    intro X hP hw hK hc i pins s σ H E I hf st hg
    subst hP hw hK
    obtain ⟨⟨old, he⟩, hit, hne, hai, hae⟩ := st
    obtain ⟨xs, hq, hx⟩ := hg
    obtain ⟨its, rv, p, hz⟩ := I.tuple hq
    obtain ⟨f0, f1, f2, f3, f4, f5⟩ := hf it (by simp)
    have hh : X.A.in1.handled = none := I.ok.hd hc
    have hl : its.toArray.size = i := by rw [List.size_toArray, ← rv.length]; exact hx
    have D := Draws.tuple (prog := X.prog) (w := X.w) (A := X.A.in1) hh it a hai its.toArray
    exact wpAny_pyNext_enum_endD D he (by rw [hl]; exact ⟨hit, p⟩) fun h' eb =>
      ⟨rfl, I.turned (t' := s.toks) (fun b o hb q => eb b o hb q) f0 f1 f3 f4 f5⟩
  self := fun A i s Q E st h => by
    obtain ⟨⟨_, he⟩, _⟩ := st
    exact wpAny_pyIter_enum he h
def iEnumT (K : PySem.W.Frag) (ta : TA) : TI := fun σ H R => ta σ H fun vs H1 =>
  ∃ a xs, vs = [.ref a] ∧ SqT K H1 a xs ∧ R (IteT K a) H1
theorem pi_enumT {X : Cx} {e : Expr} {ta : TA} {p pos tpos : Pos} {elts : List Expr} {kk : Nat} (hg : Gl X "enumerate")
    (hm : X.mg "enumerate" = none) (ha : PA X [e] ta) (hs : starEach [e] X.env = [(false, eval e X.env)] := by rfl) :
    PI X (.Tuple elts kk tpos) (.Call (.Name "enumerate" p) [e] [] pos) (iEnumT X.K ta) := by
  refine ⟨fun pins s σ H R I h => Call_ (ld_blt I hg hm boot_enumerate
    (PyProof.Rows.callWith_type1 (thn (ha.run pos pins s σ H _ I h) fun us s1 hq => ?_) hs rfl))⟩
  obtain ⟨vs, H1, J, r1, a, xs, rfl, hq, q⟩ := hq
  obtain ⟨u, rfl, ru⟩ := vals1 r1
  cases ru
  obtain ⟨its, rv, p', hz⟩ := J.tuple hq
  have hal : a < s1.heap.objs.size := by obtain ⟨_, e1, _⟩ := p'; exact Heap.lt_size e1
  refine call_enumTup p' fun h' he hit hk => wpAny_pyIter_enum he ?_
  have J2 : Inv X pins σ H1 { s1 with heap := h' } := J.kept (t' := s1.toks) hk
  refine ⟨s1.heap.objs.size + 1, [s1.heap.objs.size + 1, s1.heap.objs.size], _, _, H1, rfl, J2,
    turn_enumT a (s1.heap.objs.size + 1) s1.heap.objs.size,
    ⟨⟨.none, he⟩, hit, Nat.succ_ne_self _, Nat.ne_of_lt hal, Nat.ne_of_lt (Nat.lt_succ_of_lt hal)⟩, fun b hb => ?_, q⟩
  have hle : s1.heap.objs.size ≤ b := by
    rcases (show b = s1.heap.objs.size + 1 ∨ b = s1.heap.objs.size by simpa using hb) with z | z
    · rw [z]; exact Nat.le_succ _
    · rw [z]; exact Nat.le_refl _
  exact J.fpOk hle (J.hok.fresh hle)
theorem walk_enumT {K : PySem.W.Frag} {a : Addr} {xs : List V} :
    Walk (IteT K a) xs.length (fun H => SqT K H a xs) (YPair (fun i => some (.int (i : Nat))) (fun i => xs[i]?)) := by
  refine ⟨fun i _ hi q => ⟨xs, xs[i], q, by simp [hi]⟩, fun _ q => ⟨xs, q, rfl⟩, fun i H v H' _ q y => ?_⟩
  obtain ⟨T, x, h1, h2, h3, h4⟩ := y
  exact ⟨T, .int (i : Nat), x, h1, h2, h3, rfl, h4 xs q⟩
end Fx

set_option Elab.async false
set_option linter.all false
set_option maxRecDepth 100000
set_option maxHeartbeats 2000000
/-! set(xs) of texts, and sorted of it. -/
namespace Fx
open PySem PySem.Spec PyProof.Rows L2

def sKey (e : Int × Value) : Str := match e.2 with
  | .str x _ => x
  | _ => Str.empty
def SGood (P : Program) (w : World) (e : Int × Value) : Prop := ∃ x tk, e.2 = Value.str x tk ∧ e.1 = (PySem.strKind P w).hash x
abbrev sNew (w : World) : Obj := { cls := .type "set", data := .set #[] 0 (.fresh 0 0 (!w.params.followText "set-order")) }
abbrev sKeys (es : Array (Int × Value)) : List Str := es.toList.map sKey

/-- at a a set of texts: L has its members, n is at least their number; its table can be walked -/
structure SetSR (P : Program) (w : World) (h : Heap) (a : Addr) (L : List Str) (n : Nat) : Prop where
  ex : ∃ o es ep t, h.get? a = some o ∧ o.ExactSet ∧ o.data = .set es ep t ∧ (∀ e ∈ es.toList, SGood P w e) ∧
    (sKeys es).Nodup ∧ (∀ x, x ∈ sKeys es ↔ x ∈ L) ∧ es.size ≤ n ∧ es.size < scanBound ∧ t.fits es.size = true ∧
    Ris t.place.toList ∧ (w.params.followText "set-order" = true ∨ t.led = true)
section
variable {P : Program} {w : World} {A : Around} {E : Value → Shared → Prop} {s : Shared} {a : Addr} {L : List Str} {n : Nat}

theorem SetSR.at {h h' : Heap} (R : SetSR P w h a L n) (k : ∀ o, h.get? a = some o → h'.get? a = some o) : SetSR P w h' a L n := by
  obtain ⟨o, es, ep, t, ho, r⟩ := R.ex
  exact ⟨o, es, ep, t, k o ho, r⟩
theorem SetSR.le {h : Heap} {m : Nat} (R : SetSR P w h a L n) (e : n ≤ m) : SetSR P w h a L m := by
  obtain ⟨o, es, ep, t, h1, h2, h3, h4, h5, h6, h7, r⟩ := R.ex
  exact ⟨o, es, ep, t, h1, h2, h3, h4, h5, h6, Nat.le_trans h7 e, r⟩
theorem SetSR.iff {h : Heap} {L' : List Str} (R : SetSR P w h a L n) (e : ∀ x, x ∈ L ↔ x ∈ L') : SetSR P w h a L' n := by
  obtain ⟨o, es, ep, t, h1, h2, h3, h4, h5, h6, r⟩ := R.ex
  exact ⟨o, es, ep, t, h1, h2, h3, h4, h5, fun x => (h6 x).trans (e x), r⟩
theorem sgood_elems {l : List (Int × Value)} (g : ∀ e ∈ l, SGood P w e) : ElemsOf (PySem.strKind P w) l := by
  intro e he
  obtain ⟨x, tk, e1, e2⟩ := g e he
  refine ⟨⟨x, ?_, e2⟩, ?_⟩
  · rw [e1]; exact PySem.strKind_is P w x tk
  · rw [e1]; rfl
theorem sgood_is {e : Int × Value} (g : SGood P w e) (x : Str) : (PySem.strKind P w).is x e.2 = true ↔ sKey e = x := by
  obtain ⟨y, tk, e1, _⟩ := g
  unfold sKey
  rw [e1]
  constructor
  · intro h
    exact (PySem.strKind P w).inj _ _ _ (PySem.strKind_is P w y tk) h
  · intro h
    have h' : y = x := h
    rw [h']; exact PySem.strKind_is P w x tk
theorem sgood_mem {l : List (Int × Value)} (g : ∀ e ∈ l, SGood P w e) (x : Str) :
    x ∈ l.map sKey ↔ ∃ e ∈ l, (PySem.strKind P w).is x e.2 = true := by
  constructor
  · intro hx
    obtain ⟨e, he, q⟩ := List.mem_map.mp hx
    exact ⟨e, he, (sgood_is (g e he) x).2 q⟩
  · intro ⟨e, he, q⟩
    exact List.mem_map.mpr ⟨e, he, (sgood_is (g e he) x).1 q⟩

/-- what is stored, and laid anew where it is too full -/
theorem sset_tail {g : Bool → Sem Unit} {o : Obj} {es es1 : Array (Int × Value)} {ep m : Nat} {t t2 : SetTable} {L1 : List Str} {wasDummy : Bool} {R : Option Bool → Shared → Prop}
    (hg : ∀ (b : Bool) (s₁ : Shared) (Q' : Unit → Shared → Prop), Q' () s₁ → wpAny (model P w) A (g b) Q' E s₁)
    (ho : s.heap.get? a = some o) (hex : o.ExactSet) (hd : o.data = .set es ep t)
    (g1 : ∀ e ∈ es1.toList, SGood P w e) (nd : (sKeys es1).Nodup) (hm : ∀ x, x ∈ sKeys es1 ↔ x ∈ L1) (hz : es1.size ≤ m)
    (hb : es1.size < scanBound) (hf : t2.fits es1.size = true) (hr : Ris t2.place.toList) (hl : w.params.followText "set-order" = true ∨ t2.led = true)
    (hR : ∀ h', Heap.SameBut a s.heap h' → SetSR P w h' a L1 m → R (some true) { s with heap := h' }) :
    wpAny (model P w) A (do
      storeSet a es1 t2
      if (!wasDummy && t2.tooFull) = true then do
          g (relayAll t2 es1 (SetTable.grown es1.size)).2.2
          storeSet a (relayAll t2 es1 (SetTable.grown es1.size)).1 (relayAll t2 es1 (SetTable.grown es1.size)).2.1
          pure (some true)
        else pure (some true)) R E s := by
  have fits1 := fits_of_scanBound hb
  refine wpAny_bind (wpAny_storeSet_of ho hd ?_ fits1)
  have ho1 := store_at (es' := es1) (t' := t2) ho hd
  have sb1 := Heap.SameBut.update s.heap a (Obj.putSet es1 t2)
  split
  · have pm := relayAll_perm t2 es1 (SetTable.grown es1.size)
    have f3 := relayAll_fits t2 es1 (SetTable.grown es1.size)
    have r3 := relayAll_ris t2 es1 (SetTable.grown es1.size)
    have l3 := relayAll_led t2 es1 (SetTable.grown es1.size)
    generalize relayAll t2 es1 (SetTable.grown es1.size) = Z at pm f3 r3 l3 ⊢
    obtain ⟨es2, t3, gave⟩ := Z
    dsimp only at pm f3 r3 l3 ⊢
    have hsz : es2.size = es1.size := by
      have := pm.length_eq; simpa using this
    have hb2 : es2.size < scanBound := hsz ▸ hb
    refine wpAny_bind (hg _ _ _ (wpAny_bind (wpAny_storeSet_of ho1 rfl ?_ (fits_of_scanBound hb2))))
    have ho2 := store_at (es' := es2) (t' := t3) ho1 rfl
    have pk := pm.map sKey
    refine wpAny_pure (hR _ (sb1.trans (Heap.SameBut.update _ a _)) ⟨_, es2, _, t3, ho2, hex, rfl,
      fun e he => g1 e (pm.mem_iff.mp he), pk.nodup_iff.mpr nd, fun x => pk.mem_iff.trans (hm x), hsz ▸ hz, hb2, f3, r3, ?_⟩)
    rw [l3]; exact hl
  · exact wpAny_pure (hR _ sb1 ⟨_, es1, _, t2, ho1, hex, rfl, g1, nd, hm, hz, hb, hf, hr, hl⟩)

/-- a text is added -/
theorem sset_add {x : Str} {tk : Tok} {Q : Bool → Shared → Prop} (R : SetSR P w s.heap a L n) (room : n + 1 < scanBound)
    (hQ : ∀ b h', Heap.SameBut a s.heap h' → SetSR P w h' a (L ++ [x]) (n + 1) → Q b { s with heap := h' }) :
    wpAny (model P w) A (setAddHashed a (.str x tk) ((PySem.strKind P w).hash x)) Q E s := by
  obtain ⟨o, es, ep, t, ho, hex, hd, g, nd, hm, hz, hb, hf, hr, hl⟩ := R.ex
  have hkey := PySem.strKind_is P w x tk
  have hsc : (Value.str x tk).scannable = true := rfl
  have hel := sgood_elems g
  unfold setAddHashed setAddHashedIn
  refine wpAny_holding (wpAny_bind (wpAny_setState_of ho hd hf ?_))
  dsimp only
  rw [byScan_of hsc hb hel]
  simp only [↓reduceIte]
  unfold setAddByScan
  refine wpAny_bind (wpAny_bind (wpAny_rule (wpAny_bind (wpAny_setScan_of hkey ho hd hf hel ?_))))
  cases hfi : List.findIdx? (fun e => (PySem.strKind P w).is x e.2) es.toList with
  | some j =>
    dsimp only
    obtain ⟨hj, pj, _⟩ := List.findIdx?_eq_some_iff_getElem.mp hfi
    have hx : x ∈ sKeys es := (sgood_mem g x).2 ⟨_, List.getElem_mem hj, pj⟩
    refine wpAny_pure (wpAny_pure (hQ _ s.heap (Heap.SameBut.refl a s.heap) ⟨o, es, ep, t, ho, hex, hd, g, nd, fun y => ?_, by omega, hb, hf, hr, hl⟩))
    rw [hm y, List.mem_append, List.mem_singleton]
    exact ⟨.inl, fun z => z.elim id fun e => e ▸ (hm x).1 hx⟩
  | none =>
    dsimp only
    have hnx : x ∉ sKeys es := fun z => by
      obtain ⟨e, he, q⟩ := (sgood_mem g x).1 z
      have c := List.findIdx?_eq_none_iff.mp hfi e he
      rw [q] at c
      cases c
    have hgw : ∀ (b : Bool) {s₁ : Shared} {Q' : Unit → Shared → Prop}, Q' () s₁ →
        wpAny (model P w) A (match b with | true => rule "set.scan.the-table-gave-way" | false => pure ()) Q' E s₁ := by
      intro b s₁ Q' q
      cases b
      · exact wpAny_pure q
      · exact wpAny_rule q
    have pm := layNew_perm t es ((PySem.strKind P w).hash x) (.str x tk)
    have f1 := layNew_fits t es ((PySem.strKind P w).hash x) (.str x tk)
    have r1 := layNew_ris t es ((PySem.strKind P w).hash x) (.str x tk) hr
    have l1 := layNew_led t es ((PySem.strKind P w).hash x) (.str x tk)
    generalize layNew t es ((PySem.strKind P w).hash x) (.str x tk) = Z at pm f1 r1 l1 ⊢
    obtain ⟨es1, t1, wasDummy, gave⟩ := Z
    dsimp only at pm f1 r1 l1 ⊢
    rw [Array.toList_push] at pm
    have pc := pm.trans (List.perm_append_singleton ((PySem.strKind P w).hash x, Value.str x tk) es.toList)
    have pk : (sKeys es1).Perm (x :: sKeys es) := pc.map sKey
    have g1 : ∀ e ∈ es1.toList, SGood P w e := fun e he => by
      rcases List.mem_cons.mp (pc.mem_iff.mp he) with z | z
      · rw [z]; exact ⟨x, tk, rfl, rfl⟩
      · exact g e z
    have nd1 : (sKeys es1).Nodup := pk.nodup_iff.mpr (List.nodup_cons.mpr ⟨hnx, nd⟩)
    have m1 : ∀ y, y ∈ sKeys es1 ↔ y ∈ L ++ [x] := fun y => by
      rw [pk.mem_iff, List.mem_cons, List.mem_append, List.mem_singleton, hm y]
      exact Or.comm
    have hsz : es1.size ≤ n + 1 := by
      have h1 := pc.length_eq
      rw [List.length_cons, Array.length_toList, Array.length_toList] at h1
      omega
    have hb1 : es1.size < scanBound := by omega
    have hled : w.params.followText "set-order" = true ∨ t1.led = true := by rw [l1]; exact hl
    refine wpAny_bind (hgw _ ?_)
    split
    · refine wpAny_bind ?_
      rw [hashByValue_scannable 8 hsc]
      refine wpAny_pure (sset_tail (m := n + 1) (fun b s₁ Q' q => ?_) ho hex hd g1 nd1 m1 hsz hb1 ?_ ?_ ?_ fun h' sb r => ?_)
      · cases b <;> first | exact wpAny_pure q | exact wpAny_rule q
      · first | (split <;> first | exact f1 | exact SetTable.fits_plain_off f1) | exact f1
      · first | (split <;> exact r1) | exact r1
      · first | (split <;> exact hled) | exact hled
      · dsimp only; exact wpAny_pure (hQ _ h' sb r)
    · refine wpAny_bind (wpAny_pure ?_)
      simp only [↓reduceIte]
      refine sset_tail (m := n + 1) (fun b s₁ Q' q => ?_) ho hex hd g1 nd1 m1 hsz hb1 f1 r1 hled fun h' sb r => ?_
      · cases b <;> first | exact wpAny_pure q | exact wpAny_rule q
      · dsimp only; exact wpAny_pure (hQ _ h' sb r)
end

/-! ### the loop of set(xs) -/
theorem strs_get : ∀ {us : List Value} {xs : List Str}, StrsAre us xs → ∀ (i : Nat) (v : Value), us[i]? = some v → ∃ x t, xs[i]? = some x ∧ v = .str x t
  | _, _, .nil, i, v, h => by simp at h
  | _, _, .cons x t r, 0, v, h => ⟨x, t, rfl, by simpa using h.symm⟩
  | _, _, .cons x t r, i + 1, v, h => by
    obtain ⟨y, t', e1, e2⟩ := strs_get r i v (by simpa using h)
    exact ⟨y, t', by simpa using e1, e2⟩
section
variable {P : Program} {w : World} {A : Around} {R : Result → Shared → Prop} {I : Addr} {fp wr : List Addr} {G : Array GenState → Array GenState → Prop}
  {n : Nat} {Pv : Nat → Value → Prop} {St : Nat → Shared → Prop}
theorem sset_loop (W : WalksS P w A.in1 I fp wr G n Pv St) (S : Addr) (hSf : S ∉ fp) (xs : List Str) (hn : xs.length = n) (hb : n + 1 < scanBound)
    (hval : ∀ i v, Pv i v → ∃ x t, xs[i]? = some x ∧ v = .str x t) :
    ∀ (k i : Nat) (s : Shared), n - i = k → i ≤ n → St i s → SetSR P w s.heap S (xs.take i) i →
      (∀ s', Moved (S :: wr) G s s' → SetSR P w s'.heap S xs n → R (.ok (.ret .none)) s') →
      codeAny (model P w) A (.builtin "set.update.loop" ⟨[.ref S, .ref I], []⟩) R s := by
  have nSw : S ∉ wr := fun h => hSf (W.sub _ h)
  have sub1 : ∀ b ∈ wr, b ∈ S :: wr := fun b h => List.mem_cons_of_mem _ h
  intro k
  induction k with
  | zero =>
    intro i s hk hi hst hS hR
    obtain rfl : i = n := by omega
    refine codeAny_builtin PyProof.Rows.F.entry_set_update_loop ?_
    rw [Around.under_plainId PyProof.Rows.F.plain_set_update_loop _]
    show wpAny _ A.in1 (pyNext (.ref I) >>= _) _ _ s
    refine wpAny_bind (W.done s _ _ hst fun s' hm => ?_)
    show wpAny _ A.in1 (ret Value.none) _ _ s'
    rw [← hn, List.take_length, hn] at hS
    exact wpAny_pure (hR s' (hm.mono sub1) (hS.at fun o e => hm.heap S o nSw e))
  | succ k ih =>
    intro i s hk hi hst hS hR
    have hlt : i < n := by omega
    refine codeAny_builtin PyProof.Rows.F.entry_set_update_loop ?_
    rw [Around.under_plainId PyProof.Rows.F.plain_set_update_loop _]
    show wpAny _ A.in1 (pyNext (.ref I) >>= _) _ _ s
    refine wpAny_bind (W.item i s _ _ hlt hst fun v s' hP hst' hm => ?_)
    obtain ⟨x, t, hx, rfl⟩ := hval i v hP
    have hS' : SetSR P w s'.heap S (xs.take i) i := hS.at fun o e => hm.heap S o nSw e
    show wpAny _ A.in1 (holding [Value.str x t] (setAdd S (.str x t)) >>= _) _ _ s'
    refine wpAny_bind (wpAny_holding ?_)
    unfold setAdd
    refine wpAny_holding (wpAny_bind ((PySem.strKind P w).pyHash (k := x) (PySem.strKind_is _ _ _ _) ?_))
    refine sset_add (s := { s' with toks := s'.toks + 1 }) hS' (by omega) fun b h' sb r => ?_
    have ht : xs.take i ++ [x] = xs.take (i + 1) := by rw [List.take_add_one, hx]; rfl
    rw [ht] at r
    refine wpAny_pure ⟨plainId_quiet PyProof.Rows.F.plain_set_update_loop _, ih (i + 1) _ (by omega) hlt
      (W.frame _ s' _ _ hst' (Nat.le_succ _) fun b hb o e => ?_) r fun s2 hm2 r2 => ?_⟩
    · rw [sb.2 b (fun h => hSf (h ▸ hb))]; exact e
    · refine hR s2 (Moved.trans W.gtrans ((hm.mono sub1).then_heap (Nat.le_succ _) fun b o hb e => ?_) hm2) r2
      rw [sb.2 b (fun h => hb (by rw [h]; exact List.mem_cons_self))]; exact e
end

section
variable {P : Program} {w : World} {A : Around} {E : Value → Shared → Prop} {s : Shared}
theorem sset_new {h : Heap} {a : Addr} (ho : h.get? a = some (sNew w)) : SetSR P w h a [] 0 := by
  refine ⟨_, #[], 0, _, ho, ⟨rfl, rfl, rfl⟩, rfl, (fun e he => by simp at he), (by simp [sKeys]), (fun x => by simp [sKeys]), Nat.le_refl _, (by decide), rfl, List.Pairwise.nil, ?_⟩
  show _ ∨ (!w.params.followText "set-order") = true
  cases w.params.followText "set-order"
  · exact .inr rfl
  · exact .inl rfl
set_option maxHeartbeats 4000000 in
/-- set(xs), xs a list of texts -/
theorem call_setS {l : Addr} {items : Array Value} {xs : List Str} {Q : Value → Shared → Prop} (hh : A.handled = none)
    (hl : s.heap.IsList l items) (hi : StrsAre items.toList xs) (hb : xs.length + 1 < scanBound)
    (h : ∀ (h' : Heap) (tk : Nat), SetSR P w h' s.heap.objs.size xs xs.length → (∀ b o, s.heap.get? b = some o → h'.get? b = some o) →
      Q (.ref s.heap.objs.size) { s with heap := h', toks := tk }) : wpAny (model P w) A (call (.type "set") [.ref l]) Q E s := by
  have hsz : xs.length = items.size := by rw [← hi.length, Array.length_toList]
  obtain ⟨c, tl, hmro⟩ := PySem.F.called_set.mro
  have hmade := PySem.F.called_set.made
  have hsub := PySem.F.called_set.sub
  refine wpAny_call (codeAny_of_tree ?_)
  show wpAny _ _ (callAny (.type "set") _) _ _ _
  refine wpAny_pure ⟨Code.quiet_builtin _ (by decide +kernel), codeAny_builtin PySem.F.entry_type_call ?_⟩
  rw [Around.under_plain (weight_type_call_type "set" [.ref l] []) rfl]
  have h1 := PySem.F.called_set.notType
  have h2 := PySem.F.called_set.canCreate
  have hct := PySem.F.typeCall_set_1 (.ref l)
  repeat (any_goals (first | assumption | wp_step))
  refine codeAny_mono (code_set_led1 (.ref l) (E := E)
    (Q₁ := fun obj s₁ => obj = .ref s.heap.objs.size ∧ s₁ = { s with heap := s.heap.push (sNew w) }) ⟨rfl, rfl⟩) fun r s₁ hr => ?_
  cases r with
  | error e => exact hr
  | ok fl =>
    cases fl with
    | ret obj =>
      obtain ⟨rfl, rfl⟩ := hr
      have hS : (s.heap.push (sNew w)).get? s.heap.objs.size = some (sNew w) := Heap.get?_push_size _ rfl
      have hT : Shared.TypeIs { s with heap := s.heap.push (sNew w) } (.ref s.heap.objs.size) "set" := ⟨_, hS, rfl⟩
      have hli := PySem.F.called_set.init.lookup
      have hbi := PySem.F.called_set.init.bind (.ref s.heap.objs.size)
      repeat (any_goals (first | assumption | wp_step))
      refine codeAny_mono (codeAny_call_builtin (R := wants (fun r s₂ => r = .none ∧ ∃ h' tk, s₂ = { s with heap := h', toks := tk } ∧
          SetSR P w h' s.heap.objs.size xs xs.length ∧ ∀ b o, s.heap.get? b = some o → h'.get? b = some o) E)
        PySem.F.called_set.init.plain PySem.F.entry_set_init (check_set_init_1 hT ?_)) fun r₂ s₂ hr₂ => ?_
      · obtain ⟨⟨ocls, odict, odata, oslots⟩, hol, hcl, nl, hdl⟩ := hl
        simp only at hcl hdl
        subst hcl; subst hdl
        have hol' : (s.heap.push (sNew w)).get? l = some ⟨.type "list", odict, .seq items nl, oslots⟩ := Heap.get?_push_of_some _ hol
        have hsls := PySem.F.sub_list_set
        have hslf := PySem.F.sub_list_frozenset
        have hne : (Value.type "list" == Value.type "dict") = false := by decide
        have hl1 : (s.heap.push (sNew w)).IsList l items := ⟨_, hol', rfl, nl, rfl⟩
        unfold Builtin.«set.__init__» noKeywords Builtin.Frozenset.updateFrom
        generalize hPI : pyIter = PI
        wp_walk
        subst hPI
        refine wpAny_pyIter_list hl1 (wpAny_bind (wpAny_runValue ?_))
        have hlS : l < s.heap.objs.size := Heap.lt_size hol
        have hh3 : A.in1.in1.in1.handled = none := by simp [hh]
        have hz1 : (s.heap.push (sNew w)).objs.size = s.heap.objs.size + 1 := Heap.size_push ..
        have hneI : l ≠ (s.heap.push (sNew w)).objs.size := by
          rw [hz1]; exact Nat.ne_of_lt (Nat.lt_succ_of_lt hlS)
        have hSf : s.heap.objs.size ∉ [(s.heap.push (sNew w)).objs.size, l] := by
          rw [hz1]
          intro z
          rcases (show s.heap.objs.size = s.heap.objs.size + 1 ∨ s.heap.objs.size = l by simpa using z) with z | z
          · exact absurd z (Nat.ne_of_lt (Nat.lt_succ_self _))
          · exact absurd z (Nat.ne_of_gt hlS)
        refine sset_loop ((Walks.list hh3 _ l hneI items).toS) s.heap.objs.size hSf xs hsz (by omega)
          (fun i v hv => strs_get hi i v (by rw [Array.getElem?_toList]; exact hv)) (items.size - 0) 0 _ (by omega) (Nat.zero_le _)
          ⟨⟨_, Heap.get?_push_size _ rfl, rfl, rfl⟩, hl1.push _⟩ (sset_new (Heap.get?_push_of_some _ hS)) ?hR
        case hR =>
          intro s' hm hS'
          obtain ⟨h', g', d', tk', os'⟩ := s'
          have eg : g' = s.gens := hm.gens
          have ed : d' = s.drawn := hm.drawn
          have eo : os' = s.os := hm.os
          subst eg; subst ed; subst eo
          rw [← hsz] at hS'
          show wpAny _ _ _ _ _ _
          refine wpAny_pure ?_
          show wpAny _ _ (ret Value.none) _ _ _
          refine wpAny_pure ⟨rfl, h', tk', rfl, hS', fun b o e => hm.heap b o (fun z => ?_) (Heap.get?_push_of_some _ (Heap.get?_push_of_some _ e))⟩
          have hlt := Heap.lt_size e
          rcases (show b = s.heap.objs.size ∨ b = (s.heap.push (sNew w)).objs.size by simpa using z) with z | z
          · exact absurd hlt (by rw [z]; exact Nat.lt_irrefl _)
          · exact absurd hlt (by rw [z, hz1]; exact Nat.not_lt_of_le (Nat.le_succ _))
      · cases r₂ with
        | error e => exact hr₂
        | ok fl₂ =>
          cases fl₂ with
          | ret r =>
            obtain ⟨rfl, h', tk, rfl, hS', hk'⟩ := hr₂
            repeat (any_goals (first | assumption | wp_step))
            exact h _ _ hS' hk'
          | _ => exact hr₂.elim
    | _ => exact hr.elim
end
end Fx

set_option Elab.async false
set_option linter.all false
set_option maxRecDepth 100000
set_option maxHeartbeats 2000000
/-! sorted(set(xs)) of texts, as rules. -/
namespace Fx
open PySem PySem.Spec PyProof.Rows L2
section
variable {P : Program} {w : World} {A : Around} {E : Value → Shared → Prop} {s : Shared}
theorem strs_of : ∀ (l : List Value), (∀ v ∈ l, ∃ x t, v = Value.str x t) → StrsAre l (l.map fun v => sKey (0, v))
  | [], _ => .nil
  | v :: l, h => by
    obtain ⟨x, t, rfl⟩ := h v List.mem_cons_self
    exact .cons x t (strs_of l fun u hu => h u (List.mem_cons_of_mem _ hu))
theorem sorted_setS {a : Addr} {L : List Str} {n : Nat} {Q : Value → Shared → Prop} (R : SetSR P w s.heap a L n) (hh : A.handled = none)
    (hQ : ∀ s' p (out : Array Value) (c : Nat) (ys : List Str), (∀ b o, s.heap.get? b = some o → s'.heap.get? b = some o) → s'.gens = s.gens → s'.os = s.os →
      s.heap.objs.size ≤ p → s'.heap.get? p = some (seqObj "list" out c) → StrsAre out.toList ys → ys.Nodup → sortedS ys = true →
      (∀ x, x ∈ ys ↔ x ∈ L) → ys.length ≤ sizeLine → Q (.ref p) s') :
    wpAny (model P w) A (call (.builtin "sorted") [.ref a]) Q E s := by
  obtain ⟨o, es, ep, t, ho, hex, hd, g, nd, hm, hz, hb, hf, hr, hl⟩ := R.ex
  refine Calls.call_function_entry kind_sorted plain_sorted entry_sorted (args_sorted1 _) ?_
  unfold Builtin.«sorted»
  refine wpAny_bind (m := checkCount "sorted" 1 1 _) (wpAny_pure ?_)
  refine wpAny_bind (collect_set (A := A.in1) hh ⟨o, ho, hex.1, hd⟩ hf hb hr hl fun s1 vs k1 hz1 g1 o1 pm => ?_)
  have hvl : vs.length = es.size := by rw [pm.length_eq, List.length_map, Array.length_toList]
  have hvz : vs.length ≤ sizeLine := by rw [hvl]; exact fits_of_scanBound hb
  have hS := strs_of vs fun v hv => by
    obtain ⟨e, he, q⟩ := List.mem_map.mp (pm.mem_iff.mp hv)
    obtain ⟨x, tk, h1, _⟩ := g e he
    exact ⟨x, tk, by rw [← q]; exact h1⟩
  have pk : (vs.map fun v => sKey (0, v)).Perm (sKeys es) := by
    have q := pm.map fun v => sKey (0, v)
    rw [List.map_map] at q
    exact q
  refine wpAny_bind (wpAny_newList ?_ hvz)
  have hoL : (s1.heap.push (seqObj "list" vs.toArray 0)).get? s1.heap.objs.size = some (seqObj "list" vs.toArray 0) := Heap.get?_push_size _ rfl
  refine wpAny_bind (wpAny_holding (wpAny_call_entry slot_list_sort ⟨_, hoL, rfl⟩ entry_list_sort
    (list_sort_treeKAny strKind_oneLt (s := { s1 with heap := s1.heap.push (seqObj "list" vs.toArray 0) }) hoL hS.keysOf
      (fun v₁ v₂ rest e => keyKind_strs (by rw [← e]; exact hS)) hvz fun st' hp hs => ?_) (args_list_sort _)))
  obtain ⟨ys, b1, b2, b3⟩ := sorted_out_str hS hp hs
  obtain ⟨c, hc⟩ := sortedHeap_at (vs := vs) (out := (arrOf st').map (·.2)) hoL
  have pn := b2.trans pk
  have hy : ys.length ≤ sizeLine := by rw [b2.length_eq, List.length_map]; exact hvz
  refine ⟨_, rfl, wpAny_pure ⟨_, rfl, hQ _ s1.heap.objs.size _ c ys (fun b u e => ?_) g1 o1 hz1 hc b1 (pn.nodup_iff.mpr nd) b3 (fun x => pn.mem_iff.trans (hm x)) hy⟩⟩
  have q := k1 b u e
  have hlt := Heap.lt_size q
  show (sortedHeap (s1.heap.push _) s1.heap.objs.size vs _).get? b = some u
  rw [sortedHeap_old (Nat.ne_of_lt hlt) (by rw [size_push']; exact Nat.lt_succ_of_lt hlt)]
  exact Heap.get?_push_of_some _ q
end

/-- the set of the texts xs at a -/
def SetSO (P : Program) (w : World) (a : Addr) (xs : List Str) : HO := .ext fun h => SetSR P w h a xs xs.length
theorem setSO_new {P : Program} {w : World} {H : Hp} {h : Heap} {a : Addr} {xs : List Str} (R : SetSR P w h a xs xs.length) : ObjOk P w H h a (SetSO P w a xs) := by
  obtain ⟨o, _, _, _, ho, _⟩ := R.ex
  exact ⟨R, ⟨o, ho⟩, fun h1 h2 p k => SetSR.at p k⟩
section
variable {X : Cx}
/-- set(xs) -/
def rSetOfS (K : PySem.W.Frag) (P : Program) (w : World) : List V → Hp → VK → Prop := fun vs H Q =>
  ∃ (l : Addr) (xs : List Str), vs = [V.ref l] ∧ SqL K H l (xs.map V.str) ∧ xs.length + 1 < scanBound ∧
    ∀ a, H a = none → Q (.ref a) (upd H a (SetSO P w a xs))
theorem cr_setOfS (hc : X.calm = true) : CallR X (.type "set") (rSetOfS X.K X.prog X.w) := by
  intro pins s σ H vs us Q I r h
  obtain ⟨l, xs, rfl, hl, hb, q⟩ := h
  rw [Vals.ref1 r]
  obtain ⟨its, rv, pl, hz⟩ := I.list hl
  refine call_setS (P := X.prog) (w := X.w) (I.ok.hd hc) pl.isList (by simpa using rv.strs) hb fun h' tk R k => ?_
  have J := I.laid (t' := tk) (a := s.heap.objs.size) (o := SetSO X.prog X.w s.heap.objs.size xs) k (Nat.le_refl _) (setSO_new R)
  exact ⟨.ref s.heap.objs.size, _, J, rfl, q _ (I.hok.fresh (Nat.le_refl _))⟩
/-- sorted(set) -/
def rSortedSetS (P : Program) (w : World) : List V → Hp → VK → Prop := fun vs H Q =>
  ∃ (a : Addr) (xs : List Str), vs = [V.ref a] ∧ H a = some (SetSO P w a xs) ∧
    ∀ (ys : List Str) (p : Addr), ys.Nodup → sortedS ys = true → (∀ x, x ∈ ys ↔ x ∈ xs) → H p = none →
      Q (.ref p) (upd H p (.lst (ys.map V.str)))
theorem cr_sortedSetS (hc : X.calm = true) : CallR X (.builtin "sorted") (rSortedSetS X.prog X.w) := by
  intro pins s σ H vs us Q I r h
  obtain ⟨a, xs, rfl, ha, q⟩ := h
  have R : SetSR X.prog X.w s.heap a xs xs.length := (I.hok a _ ha).1
  rw [Vals.ref1 r]
  refine sorted_setS R (I.ok.hd hc) fun s' p out c ys k g o hp hg hi nd hs hm hl => ?_
  have hn : H p = none := I.hok.fresh hp
  have J : Inv X pins σ (upd H p (.lst (ys.map V.str))) ⟨s'.heap, s'.gens, s'.drawn, s'.toks, s.os⟩ :=
    I.call (ch := []) (Un.laid k hp hn) (I.hok.laid k hp ⟨by rw [List.length_map]; exact hl, out.toList, c, vals_of_strs hi, hg⟩)
      (by rw [g]; exact I.bare) (fun _ z => nomatch z)
  obtain ⟨h2, g2, d2, t2, o2⟩ := s'
  obtain rfl : o2 = s.os := o
  exact ⟨.ref p, _, J, rfl, q ys p nd hs hm hn⟩
end
end Fx

set_option Elab.async false
set_option linter.all false
set_option maxRecDepth 100000
set_option maxHeartbeats 2000000
/-! The law's own head where it is known that no repr is under way. -/
namespace Fx
open PySem PySem.Spec PyProof.Rows L2

/-- as FnOk, called where no repr is under way -/
def FnG (P : Program) (w : World) (K : PySem.W.Frag) (mg : Str → Option Value) (base : Heap) (CX : CXT) (k : Nat) (f : Addr) (fd : FuncData) (ps : List Str) (sp : Sp) : Prop :=
  ∀ (A : Around) (outer : List Env) (s : Shared) (H : Hp) (args : Args) (us : List Value) (vs : List V) (Q : VK) (E : XK),
    A.guards = some [] → Room k A → Env0 P w K mg base A outer s H → BindsTo s fd args (ps.zip us) → Vals vs us → sp vs H Q E →
    codeAny (model P w) A (.call (.ref f) args) (CR CX outer P w H s Q E) s

section
variable {P : Program} {w : World} {K : PySem.W.Frag} {mg : Str → Option Value} {base : Heap}
theorem fn_ofG {CX : CXT} {k : Nat} {f : Addr} {x qual : Str} {st : Stmt} {fd : FuncData} {N ps : List Str} {sp : Sp} (F : Fun K x qual st f fd) (S : FnScope N ps (defScope st))
    (len : ∀ vs H Q E, sp vs H Q E → vs.length = ps.length)
    (hbody : ∀ (cdv : Value) (A : Around) (outer : List Env) (s : Shared) (H : Hp) (vs : List V) (Q : VK) (E : XK), A.guards = some [] →
      Room k (A.deeper (envOfC qual (defScope st) s.heap.objs.size f cdv)) → sp vs H Q E →
      ∃ t, PSs (cxOf CX P w K mg base N qual (defScope st) f cdv A outer s H E).nox (defBody st) t ∧
        t { nx := fun _ H' => Q .non H', rt := Q } (start N vs) H) : FnG P w K mg base CX (k + 1) f fd ps sp := by
  obtain ⟨oc, od, kV, doc, pm, an, cdv, ct, osl, rfl, lk, hcd⟩ := F.ex
  intro A outer s H args us vs Q E hgd hr e0 hb r hsp
  have inB : ∀ b o, base.get? b = some o → s.heap.get? b = some o := fun b o e => (e0.bs b o e).1
  have KX : K.In s.heap := e0.mod.kin.keeps inB
  have lim := e0.mod.nolimit.keeps inB
  refine codeAny_call_function hr.depth (KX _ _ lk) rfl S.co S.gen rfl (PySem.W.codeRec_of KX hcd) (hb _ _ _ _ ?_)
  refine wpAny_newFunctionEnv_cells S.kind (fun y hy => ?_) fun env he s1 xc => ?_
  · rcases S.par y.1 (List.of_mem_zip hy).1 with q | q
    · exact .inl q
    · exact .inr ⟨q, PySem.W.cellsFrom_some _ _ _ (.inl q)⟩
  · subst he
    refine ⟨lim.keeps xc.toInCall.keep, codeAny_func ?_⟩
    obtain ⟨t, ht, hq⟩ := hbody cdv A outer s H vs Q E hgd (hr.deeper _) hsp
    have I := inv_start (CX := CX) (P := P) (w := w) (qual := qual) (f := f) (cd := cdv) (E := E) S hr.hd e0 (len _ _ _ _ hsp) r xc
    refine wpAny_mono (ht.nox.run [] s1 (start N vs) H _ I hq) (fun fl s' hs => ?_) fun _ _ z => z
    cases fl with
    | ret u =>
      obtain ⟨v, σ', H', J, rv, q⟩ := hs
      exact ⟨v, H', J.os, J.bare, J.base, J.hok, rv, q⟩
    | next =>
      obtain ⟨σ', H', J, q⟩ := hs
      exact ⟨V.non, H', J.os, J.bare, J.base, J.hok, rfl, q⟩
    | brk => obtain ⟨_, _, _, q⟩ := hs; exact q.elim
    | cont => obtain ⟨_, _, _, q⟩ := hs; exact q.elim
end
theorem law_callG {P : Program} {w : World} {K : PySem.W.Frag} {mg mb : Str → Option Value} {k : Nat} {fa a : Addr} {fd : FuncData} {x : Str} {sp : Sp} {s₁ : Shared} {vs : List Value} {ns : List Int}
    (KX : K.In s₁.heap) (hns : s₁.heap.Ns mainGlobals mg) (hb : s₁.heap.Ns builtinsNs mb) (hbb : ∀ x : Str, x ≠ "__name__" → mb x = bootBuiltins x)
    (hlim : s₁.heap.NoLimit) (hg : s₁.gens = #[]) (ha : s₁.heap.get? a = some { cls := .type "list", data := .seq vs.toArray }) (hi : IntsAre vs ns)
    (hl : ns.length ≤ sizeLine) (hr : Room k callerA) (F : ∀ base : Heap, K.In base → base.Ns mainGlobals mg → FnG P w K mg base CX0 k fa fd [x] sp)
    (hbind : ∀ (s : Shared) (u : Value), BindsTo s fd ⟨[u], []⟩ [(x, u)])
    (hsp : ∀ H : Hp, SqL K H a (ns.map V.int) → sp [.ref a] H (fun v _ => v = .bl true) fun _ _ _ => False) :
    codeAny (model P w) callerA (.call (.ref fa) ⟨[.ref a], []⟩)
      (fun r s' => r = .ok (.ret (.bool true)) ∧ OldK s₁.heap s'.heap ∧ s'.os = s₁.os ∧ AllBare s'.gens) s₁ := by
  have rv := vals_ints hi
  have lenV := hi.length
  have core : ∀ H : Hp, Only H → SqL K H a (ns.map V.int) → HOk P w H s₁.heap → (∀ b, H b ≠ none → b = a) → (H a ≠ none → K.lookup a = none) →
      codeAny (model P w) callerA (.call (.ref fa) ⟨[.ref a], []⟩)
        (fun r s' => r = .ok (.ret (.bool true)) ∧ OldK s₁.heap s'.heap ∧ s'.os = s₁.os ∧ AllBare s'.gens) s₁ := by
    intro H hO hS hok hA hK
    have isA : ∀ {b : Addr} {u : HO}, H b = some u → b = a := fun {b u} q => hA b (by rw [q]; exact fun z => nomatch z)
    have noD : ∀ {b : Addr} {o : Obj} {es : Array DictEntry} {ep : Nat}, s₁.heap.get? b = some o → o.data = .dict es ep → H b = none := by
      intro b o es ep e d
      cases q : H b with
      | none => rfl
      | some u =>
        have e' := isA q
        subst e'
        rw [ha] at e
        cases e
        exact nomatch (show Data.seq vs.toArray _ = Data.dict es ep from d)
    have nsK : ∀ {b : Addr} {m : Str → Option Value}, s₁.heap.Ns b m → (hidT s₁.heap H).Ns b m := by
      intro b m ⟨o, es, ep, e, d, r⟩
      exact ⟨o, es, ep, hidT_get e (noD e d), d, r⟩
    have hKb : K.In (hidT s₁.heap H) := by
      intro b o e
      refine hidT_get (KX b o e) ?_
      cases q : H b with
      | none => rfl
      | some u =>
        have e' := isA q
        subst e'
        rw [hK (by rw [q]; exact fun z => nomatch z)] at e
        cases e
    obtain ⟨mc, l1, l2⟩ := hlim
    have hM : Mod K mg (hidT s₁.heap H) := ⟨hKb, nsK hns, ⟨mb, nsK hb, hbb⟩, mc, nsK l1, l2⟩
    have e0 : Env0 P w K mg (hidT s₁.heap H) callerA [] s₁ H :=
      ⟨rfl, hM, fun b o e => of_hidT e, Nat.le_of_eq (hidT_size _ _), trivial, (fun b z => absurd (show b ∈ ([] : List Addr) from z) (by simp)), hok, .of_eq hg⟩
    refine codeAny_mono (F _ hKb (nsK hns) callerA [] s₁ H ⟨[.ref a], []⟩ [.ref a] [.ref a] _ _ rfl hr e0 (hbind s₁ (.ref a)) (.cons rfl .nil) (hsp H hS)) fun r s' h => ?_
    cases r with
    | error e => exact (show False from h).elim
    | ok fl =>
      cases fl with
      | next => exact False.elim h
      | brk => exact False.elim h
      | cont => exact False.elim h
      | ret u =>
        obtain ⟨v, H', os, bare, un, hok', r', q⟩ := h
        obtain rfl : v = .bl true := q
        obtain rfl : u = Value.bool true := r'
        refine ⟨rfl, OldK.of_keep fun b o e => ?_, os, bare⟩
        cases q : H b with
        | none => exact un.keep b o e q (fun z => absurd (show b ∈ ([] : List Addr) from z) (by simp)) (by simp)
        | some u =>
          rcases hO b with z | ⟨ob, xs, z⟩
          · rw [q] at z; cases z
          · obtain ⟨e1, _⟩ := hok b _ z
            obtain ⟨e2, _⟩ := hok' b _ (un.frzs b ob _ z)
            rw [e] at e1; cases e1
            exact e2
  cases hk : K.lookup a with
  | some o =>
    have e := KX a o hk
    rw [ha] at e
    cases e
    refine core (fun _ => none) (fun _ => .inl rfl) (.inr ⟨_, vs.toArray, _, hk, rfl, rfl, rfl, ?_, ?_⟩) (fun b u z => nomatch (show (none : Option HO) = some u from z)) (fun b z => absurd rfl z) fun z => absurd rfl z
    · rw [List.size_toArray, lenV]; exact hl
    · simpa using rv
  | none =>
    let H : Hp := fun b => if b = a then some (.frz { cls := .type "list", data := .seq vs.toArray } (.lst (ns.map V.int))) else none
    have at_a : H a = some (.frz { cls := .type "list", data := .seq vs.toArray } (.lst (ns.map V.int))) := if_pos rfl
    have off : ∀ b, b ≠ a → H b = none := fun b hb => if_neg hb
    refine core H (fun b => ?_) (.inl (.inr ⟨_, at_a⟩)) (fun b u z => ?_) (fun b z => ?_) fun _ => hk
    · rcases Classical.em (b = a) with e | e
      · exact .inr ⟨_, _, by rw [e]; exact at_a⟩
      · exact .inl (off b e)
    · rcases Classical.em (b = a) with e | e
      · subst e
        rw [at_a] at z
        cases z
        exact ⟨ha, by rw [List.length_map]; exact hl, vs, _, rv, ha⟩
      · rw [off b e] at z; cases z
    · rcases Classical.em (b = a) with e | e
      · exact e
      · exact absurd (off b e) z
theorem walk_ofG {l : PySem.W.OpenLaw} {n k : Nat} {q : Program} {loose : List Str} {XP : (Str → Option Value) → Heap → Prop} {YP : World → Heap → Prop} {d : DefRec} {K : Params → PySem.W.Frag} {sp : PySem.W.Frag → Sp} {x : Str}
    (hn : l.most = some n) (hn2 : n ≤ sizeLine) (hdf : d.params.defaults = []) (hr : Room k callerA)
    (hY : ∀ (w : World) (h : Heap), YP w h → (K w.params).In h)
    (F : ∀ (w : World) (mg : Str → Option Value) (fa : Addr) (h : Heap), (K w.params).In h → h.Ns mainGlobals mg → mg d.name = some (.ref fa) →
      ∃ fd : FuncData, (∀ (s : Shared) (u : Value), BindsTo s fd ⟨[u], []⟩ [(x, u)]) ∧
        ∀ base : Heap, (K w.params).In base → base.Ns mainGlobals mg → FnG l.prog w (K w.params) mg base CX0 k fa fd [x] (sp (K w.params)))
    (hsp : ∀ (K : PySem.W.Frag) (H : Hp) (a : Addr) (ns : List Int), ns.length ≤ n → SqL K H a (ns.map V.int) → sp K [.ref a] H (fun v _ => v = .bl true) fun _ _ _ => False) :
    PySem.W.WalkO q loose XP YP l.row.toRowW d [] (fun f vs => PySem.call f vs) := by
  refine Att.attach_call hn hdf fun w s₀ s₁ mg mb fa o pm cd doc a vs ns G Y ho hd hcd hmg hobj hints hlen hg => ?_
  have KX := hY w _ Y
  obtain ⟨fd, hb, hF⟩ := F w mg fa _ KX G.T.g hmg
  exact law_callG KX G.T.g G.T.b G.T.builtins G.T.nolimit hg hobj hints (Nat.le_trans hlen hn2) hr hF hb fun H hS => hsp _ H a ns hlen hS
end Fx

set_option Elab.async false
set_option linter.all false
set_option maxRecDepth 100000
set_option maxHeartbeats 2000000
/-! What the program and the law compute, as plain functions over lists of truth values (true: black). -/
namespace Fx
open PySem L2

/-! ### lines as texts -/
def dot (b : Bool) : Nat := if b then 35 else 46
def ln (l : List Bool) : Str := ⟨(l.map dot).toArray⟩
theorem dot_inj {a b : Bool} (h : dot a = dot b) : a = b := by
  cases a <;> cases b <;> first | rfl | exact absurd h (by decide)
theorem map_dot_inj : ∀ {a b : List Bool}, a.map dot = b.map dot → a = b
  | [], [], _ => rfl
  | [], _ :: _, h => by simp at h
  | _ :: _, [], h => by simp at h
  | x :: a, y :: b, h => by
    rw [List.map_cons, List.map_cons] at h
    injection h with h1 h2
    rw [dot_inj h1, map_dot_inj h2]
theorem ln_inj {a b : List Bool} (h : ln a = ln b) : a = b := by
  have h1 : (a.map dot).toArray = (b.map dot).toArray := congrArg Str.cps h
  exact map_dot_inj (by simpa using congrArg Array.toList h1)
theorem ln_len (l : List Bool) : (ln l).length = l.length := by simp [ln, Str.length]
theorem ln_list (l : List Bool) : (ln l).cps.toList = l.map dot := by simp [ln]
theorem ln_app (a b : List Bool) : ln a ++ ln b = ln (a ++ b) := by
  show Str.mk ((a.map dot).toArray ++ (b.map dot).toArray) = ln (a ++ b)
  simp [ln]
theorem ln_sign (b : Bool) : (⟨#[dot b]⟩ : Str) = ln [b] := rfl
theorem ln_rep (n : Nat) (c : Bool) : (⟨((List.replicate n (ln [c]).cps.toList).flatten).toArray⟩ : Str) = ln (List.replicate n c) := by
  unfold ln
  congr 1
  simp only [List.map_cons, List.map_nil, List.map_replicate]
  have e : ∀ n : Nat, (List.replicate n [dot c]).flatten = List.replicate n (dot c) := fun n => by
    induction n with
    | zero => rfl
    | succ n ih => rw [List.replicate_succ, List.flatten_cons, List.replicate_succ, ih]; rfl
  rw [← e]
theorem w_white : ("." : Str) = ln [false] := by decide +kernel
theorem w_black : ("#" : Str) = ln [true] := by decide +kernel
theorem w_empty : ("" : Str) = ln [] := by decide +kernel
theorem w_both : (".#" : Str) = ln [false, true] := by decide +kernel

/-! ### a line beside a line -/
/-- the first place from lo on, below hi, with p; hi if there is none -/
def firstIn (p : Nat → Bool) (lo hi : Nat) : Nat := ((List.range' lo (hi - lo)).find? p).getD hi
theorem firstIn_hit {p : Nat → Bool} {lo hi k : Nat} (h : ∀ j, lo ≤ j → j < k → p j = false) (h1 : lo ≤ k) (h2 : k < hi) (hp : p k = true) : firstIn p lo hi = k := by
  have hf : (List.range' lo (hi - lo)).find? p = some k := by
    rw [List.find?_eq_some_iff_getElem]
    refine ⟨hp, k - lo, by simp; omega, by simp; omega, fun j hj => ?_⟩
    rw [List.getElem_range']
    have := h (lo + 1 * j) (by omega) (by omega)
    rw [this]; rfl
  rw [firstIn, hf]; rfl
theorem firstIn_none {p : Nat → Bool} {lo hi : Nat} (h : ∀ j, lo ≤ j → j < hi → p j = false) : firstIn p lo hi = hi := by
  have hf : (List.range' lo (hi - lo)).find? p = none := by
    rw [List.find?_eq_none]
    intro x hx
    rw [List.mem_range'_1] at hx
    simp [h x hx.1 (by omega)]
  rw [firstIn, hf]; rfl
theorem firstIn_le {p : Nat → Bool} {lo hi : Nat} : firstIn p lo hi ≤ hi := by
  unfold firstIn
  cases h : (List.range' lo (hi - lo)).find? p with
  | none => exact Nat.le_refl _
  | some k =>
    have := List.mem_of_find?_eq_some h
    rw [List.mem_range'_1] at this
    show k ≤ hi
    omega
theorem firstIn_ge {p : Nat → Bool} {lo hi : Nat} (h : lo ≤ hi) : lo ≤ firstIn p lo hi := by
  unfold firstIn
  cases h : (List.range' lo (hi - lo)).find? p with
  | none => assumption
  | some k =>
    have := List.mem_of_find?_eq_some h
    rw [List.mem_range'_1] at this
    exact this.1
/-- a change: the colour stands ahead (white ahead of the first place) and not at k -/
def isCh (ref : List Bool) (c : Bool) (k : Nat) : Bool := (false :: ref).getD k false == c && ref.getD k false != c
def change (ref : List Bool) (place : Nat) (c told : Bool) : Nat := firstIn (isCh ref c) (if told then place + 1 else 0) ref.length
def back (ref : List Bool) (ch : Nat) (c : Bool) : Nat := firstIn (fun k => ref.getD k false == c) (ch + 1) ref.length

inductive Md where
  | stay (d : Int) | pass | runs (n m : Nat)
  deriving DecidableEq
inductive Tl where
  | full (rs : List Nat) | modes (ms : List Md)
  deriving DecidableEq

/-- the place and the colour behind a mode -/
def step (ref : List Bool) : Md → Nat → Bool → Bool → Option (Nat × Bool)
  | .runs n m, place, c, told =>
    if place + n + m > ref.length ∨ (n = 0 ∧ told = true) ∨ (m = 0 ∧ place + n < ref.length) then none else some (place + n + m, c)
  | .pass, place, c, told =>
    if change ref place c told < ref.length then some (back ref (change ref place c told) c, c) else none
  | .stay d, place, c, told =>
    if (change ref place c told : Int) + d > ref.length ∨ (change ref place c told : Int) + d < 0 ∨ ((change ref place c told : Int) + d ≤ place ∧ told = true) then none
    else some (((change ref place c told : Int) + d).toNat, !c)
/-- the dots that a mode tells -/
def dots : Md → Nat → Nat → Bool → List Bool
  | .runs n m, _, _, c => List.replicate n c ++ List.replicate m (!c)
  | _, place, e, c => List.replicate (e - place) c
/-- reading goes on behind the dots f -/
def rd (ref : List Bool) : List Md → List Bool → Bool → Bool → Option (List Bool)
  | [], f, _, _ => if f.length = ref.length then some f else none
  | m :: ms, f, c, told => if f.length < ref.length then
      match step ref m f.length c told with
      | none => none
      | some (e, c') => rd ref ms (f ++ dots m f.length e c) c' true
    else none
def lineFrom : List Nat → Bool → List Bool
  | [], _ => []
  | r :: rs, c => List.replicate r c ++ lineFrom rs (!c)
def readTl (ref : List Bool) : Tl → Option (List Bool)
  | .full rs => if (lineFrom rs false).length = ref.length then some (lineFrom rs false) else none
  | .modes ms => rd ref ms [] false false

theorem dots_len {ref : List Bool} {m : Md} {place e : Nat} {c c' told : Bool} (h : step ref m place c told = some (e, c')) (h0 : told = false → place = 0) (hp : place < ref.length) :
    place + (dots m place e c).length = e ∧ e ≤ ref.length := by
  cases m with
  | runs n k =>
    simp only [step] at h
    split at h
    · cases h
    · rename_i hn
      injection h with h
      injection h with h1 h2
      subst h1
      simp only [dots, List.length_append, List.length_replicate]
      omega
  | pass =>
    simp only [step] at h
    split at h
    · rename_i hc
      injection h with h
      injection h with h1 h2
      subst h1
      simp only [dots, List.length_replicate]
      have a1 : (if told = true then place + 1 else 0) ≤ change ref place c told := firstIn_ge (by split <;> omega)
      have a2 : change ref place c told + 1 ≤ back ref (change ref place c told) c := firstIn_ge (by omega)
      have a3 : back ref (change ref place c told) c ≤ ref.length := firstIn_le
      have a4 : place ≤ back ref (change ref place c told) c := by
        cases told with
        | true => simp at a1; omega
        | false => have := h0 rfl; omega
      omega
    · cases h
  | stay d =>
    simp only [step] at h
    split at h
    · cases h
    · rename_i hn
      injection h with h
      injection h with h1 h2
      subst h1
      simp only [dots, List.length_replicate]
      cases told with
      | true => simp at hn; omega
      | false => have := h0 rfl; subst this; omega
theorem step_far {ref : List Bool} {m : Md} {place e : Nat} {c c' : Bool} (h : step ref m place c true = some (e, c')) (hp : place < ref.length) : place < e := by
  cases m with
  | runs n k =>
    simp only [step] at h
    split at h
    · cases h
    · rename_i hn
      injection h with h
      injection h with h1 h2
      subst h1
      simp at hn
      omega
  | pass =>
    simp only [step] at h
    split at h
    · rename_i hc
      injection h with h
      injection h with h1 h2
      subst h1
      have a1 : place + 1 ≤ change ref place c true := firstIn_ge (by first | omega | (simp; omega))
      have a2 : change ref place c true + 1 ≤ back ref (change ref place c true) c := firstIn_ge (by omega)
      omega
    · cases h
  | stay d =>
    simp only [step] at h
    split at h
    · cases h
    · rename_i hn
      injection h with h
      injection h with h1 h2
      subst h1
      simp at hn
      omega

/-! ### what may be known -/
/-- all rows of a width, black first -/
def rowsOf : Nat → List (List Bool)
  | 0 => [[]]
  | n + 1 => (rowsOf n).map (true :: ·) ++ (rowsOf n).map (false :: ·)
def img (t : Tl) (P : List (List Bool)) : List (List Bool) := P.filterMap fun l => readTl l t
def knownL (w : Nat) (ts : List Tl) : List (List Bool) := ts.foldl (fun P t => img t P) (rowsOf w)
/-- in order, each once -/
def canon (w : Nat) (P : List (List Bool)) : List (List Bool) := (rowsOf w).filter fun l => decide (l ∈ P)
/-- the sign of the sure row at k -/
def sureAt (P : List (List Bool)) (k : Nat) : Nat :=
  if P.all (fun l => l.getD k false) = true then 35 else if P.all (fun l => !l.getD k false) = true then 46 else 63
def rowOf (w : Nat) (P : List (List Bool)) : Option (List Nat) := if P = [] then none else some ((List.range w).map (sureAt P))
def rowsIn (w : Nat) : List Tl → List (List Bool) → List (Option (List Nat))
  | [], _ => []
  | t :: ts, P => match rowOf w (img t P) with
    | none => [none]
    | some r => some r :: rowsIn w ts (img t P)
/-- the numbers of the rows with a question mark -/
def unsure (rows : List (Option (List Nat))) : List Nat := (List.range rows.length).filter fun k => match rows.getD k none with
  | some r => decide (63 ∈ r)
  | none => false
def settledOf (rows : List (Option (List Nat))) : Option Nat :=
  if rows = [] ∨ rows.getLast? = some none then none
  else
    let first := match (unsure rows).getLast? with
      | some k => k + 1
      | none => 0
    if first < rows.length then some first else none

theorem rowsOf_mem : ∀ {n : Nat} {l : List Bool}, l ∈ rowsOf n ↔ l.length = n
  | 0, l => by simp [rowsOf]
  | n + 1, l => by
    simp only [rowsOf, List.mem_append, List.mem_map]
    constructor
    · rintro (⟨a, ha, rfl⟩ | ⟨a, ha, rfl⟩) <;> simp [rowsOf_mem.mp ha]
    · intro h
      cases l with
      | nil => simp at h
      | cons b l =>
        have hl : l ∈ rowsOf n := rowsOf_mem.mpr (by simpa using h)
        cases b
        · exact .inr ⟨l, hl, rfl⟩
        · exact .inl ⟨l, hl, rfl⟩
theorem canon_congr {w : Nat} {P P' : List (List Bool)} (h : ∀ l, l ∈ P ↔ l ∈ P') : canon w P = canon w P' := by
  unfold canon
  congr 1
  funext l
  exact decide_eq_decide.mpr (h l)
theorem sureAt_congr {P P' : List (List Bool)} (h : ∀ l, l ∈ P ↔ l ∈ P') (k : Nat) : sureAt P k = sureAt P' k := by
  have e : ∀ f : List Bool → Bool, P.all f = P'.all f := fun f => by
    rw [Bool.eq_iff_iff, List.all_eq_true, List.all_eq_true]
    exact ⟨fun a x hx => a x ((h x).mpr hx), fun a x hx => a x ((h x).mp hx)⟩
  unfold sureAt
  rw [e, e]
theorem rowOf_congr {w : Nat} {P P' : List (List Bool)} (h : ∀ l, l ∈ P ↔ l ∈ P') : rowOf w P = rowOf w P' := by
  unfold rowOf
  have e : (P = []) ↔ (P' = []) := by
    rw [List.eq_nil_iff_forall_not_mem, List.eq_nil_iff_forall_not_mem]
    exact ⟨fun a x hx => a x ((h x).mpr hx), fun a x hx => a x ((h x).mp hx)⟩
  by_cases c : P = []
  · rw [if_pos c, if_pos (e.mp c)]
  · rw [if_neg c, if_neg fun z => c (e.mpr z)]
    congr 2
    funext k
    exact sureAt_congr h k
theorem img_congr {t : Tl} {P P' : List (List Bool)} (h : ∀ l, l ∈ P ↔ l ∈ P') : ∀ l, l ∈ img t P ↔ l ∈ img t P' := fun l => by
  unfold img
  rw [List.mem_filterMap, List.mem_filterMap]
  exact ⟨fun ⟨a, ha, e⟩ => ⟨a, (h a).mp ha, e⟩, fun ⟨a, ha, e⟩ => ⟨a, (h a).mpr ha, e⟩⟩

/-! ### as data -/
def Md.tag : Md → Str
  | .stay _ => "stay"
  | .pass => "pass"
  | .runs _ _ => "runs"
def Md.args : Md → List PyData
  | .stay d => [.int d]
  | .pass => []
  | .runs n m => [.int (n : Int), .int (m : Int)]
def Md.data (m : Md) : PyData := .tuple (.str m.tag :: m.args)
def runsD (rs : List Nat) : PyData := .tuple (rs.map fun (n : Nat) => PyData.int (n : Int))
def fullD (rs : List Nat) : PyData := .tuple [.str "full", runsD rs]
def Tl.items : Tl → List PyData
  | .full rs => [fullD rs]
  | .modes ms => ms.map Md.data
def Tl.data (t : Tl) : PyData := .tuple t.items
def GoodM : Md → Prop
  | .stay d => -3 ≤ d ∧ d ≤ 3
  | .pass => True
  | .runs n m => n ≤ 40 ∧ m ≤ 40
structure GoodRs (rs : List Nat) : Prop where
  ne : rs ≠ []
  le : ∀ r ∈ rs, r ≤ 40
  pos : ∀ r ∈ rs.drop 1, r ≠ 0
  one : 1 ≤ rs.sum
  most : rs.sum ≤ 40
def GoodT : Tl → Prop
  | .full rs => GoodRs rs
  | .modes ms => ms.length ≤ 80 ∧ ∀ m ∈ ms, GoodM m
theorem lineFrom_len : ∀ (rs : List Nat) (c : Bool), (lineFrom rs c).length = rs.sum
  | [], _ => rfl
  | r :: rs, c => by simp [lineFrom, lineFrom_len rs]

theorem shp_all {k : Nat} : ∀ {ds : List PyData}, (∀ d ∈ ds, d.canLay0 = true ∧ d.depth ≤ k) → PyData.canLayAll0 ds = true ∧ PyData.depthAll ds ≤ k
  | [], _ => ⟨rfl, Nat.zero_le _⟩
  | d :: ds, h => by
    have h1 := h d List.mem_cons_self
    have h2 := shp_all fun e he => h e (List.mem_cons_of_mem _ he)
    exact ⟨by simp only [PyData.canLayAll0, h1.1, h2.1, Bool.and_self], by simp only [PyData.depthAll]; omega⟩
theorem shp_tup {k : Nat} {ds : List PyData} (h : ∀ d ∈ ds, d.canLay0 = true ∧ d.depth ≤ k) : (PyData.tuple ds).canLay0 = true ∧ (PyData.tuple ds).depth ≤ k + 1 := by
  have := shp_all h
  exact ⟨by simp only [PyData.canLay0]; exact this.1, by simp only [PyData.depth]; omega⟩
theorem shp_lst {k : Nat} {ds : List PyData} (h : ∀ d ∈ ds, d.canLay0 = true ∧ d.depth ≤ k) : (PyData.list ds).canLay0 = true ∧ (PyData.list ds).depth ≤ k + 1 := by
  have := shp_all h
  exact ⟨by simp only [PyData.canLay0]; exact this.1, by simp only [PyData.depth]; omega⟩
theorem shp_int (i : Int) : (PyData.int i).canLay0 = true ∧ (PyData.int i).depth ≤ 0 := ⟨rfl, Nat.le_refl _⟩
theorem shp_runs (rs : List Nat) : (runsD rs).canLay0 = true ∧ (runsD rs).depth ≤ 1 := shp_tup fun d hd => by
  obtain ⟨n, _, rfl⟩ := List.mem_map.mp hd
  exact shp_int _
theorem shp_md (m : Md) : m.data.canLay0 = true ∧ m.data.depth ≤ 1 := shp_tup fun d hd => by
  rcases List.mem_cons.mp hd with rfl | hd
  · exact ⟨by cases m <;> (simp only [PyData.canLay0, Md.tag]; decide +kernel), Nat.le_refl _⟩
  · cases m <;> simp [Md.args] at hd
    · subst hd; exact shp_int _
    · rcases hd with rfl | rfl <;> exact shp_int _
theorem shp_full (rs : List Nat) : (fullD rs).canLay0 = true ∧ (fullD rs).depth ≤ 2 := shp_tup fun d hd => by
  rcases List.mem_cons.mp hd with rfl | hd
  · exact ⟨by simp only [PyData.canLay0]; decide +kernel, Nat.zero_le _⟩
  · rw [List.mem_singleton.mp hd]; exact shp_runs rs
theorem shp_tl (t : Tl) : t.data.canLay0 = true ∧ t.data.depth ≤ 3 := shp_tup fun d hd => by
  cases t with
  | full rs => rw [List.mem_singleton.mp hd]; exact shp_full rs
  | modes ms =>
    obtain ⟨m, _, rfl⟩ := List.mem_map.mp hd
    have := shp_md m
    exact ⟨this.1, by omega⟩
theorem shaped_of {d : PyData} {k : Nat} (h : d.canLay0 = true ∧ d.depth ≤ k) (hk : k ≤ 64 := by decide) : SeqAt.shaped d = true := by
  unfold SeqAt.shaped
  rw [h.1, decide_eq_true (Nat.le_trans h.2 hk)]; rfl
theorem eqvAll_nil : ∀ {ds : List PyData}, ds ≠ [] → PyData.eqvAll ds [] = false
  | [], h => absurd rfl h
  | _ :: _, _ => rfl
theorem eqv_tupNil (ds : List PyData) : PyData.eqv (.tuple ds) (.tuple []) = decide (ds = []) := by
  cases ds with
  | nil => rfl
  | cons d ds => simp [PyData.eqv, PyData.eqvAll]
theorem eqv_lstNil (ds : List PyData) : PyData.eqv (.list ds) (.list []) = decide (ds = []) := by
  cases ds with
  | nil => rfl
  | cons d ds => simp [PyData.eqv, PyData.eqvAll]
end Fx

set_option Elab.async false
set_option linter.all false
set_option maxRecDepth 100000
set_option maxHeartbeats 2000000
/-! Sorted texts, each once: there is one such list. -/
namespace Fx
open PySem PySem.Spec PyProof.Rows L2
def leS (a b : Str) : Prop := a.cps.toList ≤ b.cps.toList
theorem leS_trans {a b c : Str} (h1 : leS a b) (h2 : leS b c) : leS a c := List.le_trans h1 h2
theorem leS_antisymm {a b : Str} (h1 : leS a b) (h2 : leS b a) : a = b := by
  have e : a.cps.toList = b.cps.toList := List.le_antisymm h1 h2
  cases a; cases b
  simp at e
  rw [e]
theorem leS_of {a b : Str} (h : ltCps b.cps.toList a.cps.toList = false) : leS a b := by
  rw [ltCps_eq] at h
  exact of_decide_eq_false h
theorem rising_pw : ∀ (l : List Str) (p : Str), risingS p l = true → (p :: l).Pairwise leS
  | [], p, _ => List.pairwise_singleton _ _
  | x :: r, p, h => by
    rw [risingS, Bool.and_eq_true] at h
    have h1 := leS_of (by simpa using h.1)
    have ih := rising_pw r x h.2
    refine List.pairwise_cons.mpr ⟨fun y hy => ?_, ih⟩
    rcases List.mem_cons.mp hy with rfl | hy
    · exact h1
    · exact leS_trans h1 ((List.pairwise_cons.mp ih).1 y hy)
theorem sorted_pw : ∀ {l : List Str}, sortedS l = true → l.Pairwise leS
  | [], _ => .nil
  | x :: r, h => rising_pw r x h
theorem pw_unique : ∀ {a b : List Str}, a.Pairwise leS → b.Pairwise leS → a.Nodup → b.Nodup → (∀ x, x ∈ a ↔ x ∈ b) → a = b
  | [], [], _, _, _, _, _ => rfl
  | [], y :: b, _, _, _, _, h => absurd ((h y).mpr List.mem_cons_self) (by simp)
  | x :: a, [], _, _, _, _, h => absurd ((h x).mp List.mem_cons_self) (by simp)
  | x :: a, y :: b, h1, h2, n1, n2, h => by
    rw [List.pairwise_cons] at h1 h2
    rw [List.nodup_cons] at n1 n2
    have e : x = y := by
      rcases List.mem_cons.mp ((h x).mp List.mem_cons_self) with e | hx
      · exact e
      · rcases List.mem_cons.mp ((h y).mpr List.mem_cons_self) with e | hy
        · exact e.symm
        · exact leS_antisymm (h1.1 y hy) (h2.1 x hx)
    subst e
    congr 1
    refine pw_unique h1.2 h2.2 n1.2 n2.2 fun z => ?_
    constructor
    · intro hz
      rcases List.mem_cons.mp ((h z).mp (List.mem_cons_of_mem _ hz)) with e | hz'
      · subst e; exact absurd hz n1.1
      · exact hz'
    · intro hz
      rcases List.mem_cons.mp ((h z).mpr (List.mem_cons_of_mem _ hz)) with e | hz'
      · subst e; exact absurd hz n2.1
      · exact hz'
theorem leLn_cons {b : Bool} {x y : List Bool} : leS (ln (b :: x)) (ln (b :: y)) ↔ leS (ln x) (ln y) := by
  unfold leS
  rw [ln_list, ln_list, ln_list, ln_list, List.map_cons, List.map_cons]
  show ¬ _ ↔ ¬ _
  rw [List.cons_lt_cons_iff]
  constructor
  · intro h z; exact h (.inr ⟨rfl, z⟩)
  · rintro h (z | ⟨_, z⟩)
    · exact Nat.lt_irrefl _ z
    · exact h z
theorem leLn_tf (x y : List Bool) : leS (ln (true :: x)) (ln (false :: y)) := by
  unfold leS
  rw [ln_list, ln_list, List.map_cons, List.map_cons]
  show ¬ _
  rw [List.cons_lt_cons_iff]
  rintro (z | ⟨z, _⟩)
  · exact absurd z (by decide)
  · exact absurd z (by decide)
theorem rowsOf_pw : ∀ n : Nat, (rowsOf n).Pairwise fun a b => leS (ln a) (ln b)
  | 0 => List.pairwise_singleton _ _
  | n + 1 => by
    rw [rowsOf, List.pairwise_append]
    refine ⟨List.pairwise_map.mpr ((rowsOf_pw n).imp fun h => leLn_cons.mpr h), List.pairwise_map.mpr ((rowsOf_pw n).imp fun h => leLn_cons.mpr h), fun a ha b hb => ?_⟩
    obtain ⟨x, _, rfl⟩ := List.mem_map.mp ha
    obtain ⟨y, _, rfl⟩ := List.mem_map.mp hb
    exact leLn_tf x y
theorem rowsOf_nodup : ∀ n : Nat, (rowsOf n).Nodup
  | 0 => by simp [rowsOf]
  | n + 1 => by
    rw [rowsOf, List.nodup_append]
    refine ⟨List.pairwise_map.mpr ((rowsOf_nodup n).imp fun h z => h (List.cons.inj z).2), List.pairwise_map.mpr ((rowsOf_nodup n).imp fun h z => h (List.cons.inj z).2), fun a ha b hb => ?_⟩
    obtain ⟨x, _, rfl⟩ := List.mem_map.mp ha
    obtain ⟨y, _, rfl⟩ := List.mem_map.mp hb
    simp
theorem nodup_ln {l : List (List Bool)} (h : l.Nodup) : (l.map ln).Nodup := List.pairwise_map.mpr (h.imp fun h z => h (ln_inj z))
theorem canon_nodup (n : Nat) (P : List (List Bool)) : (canon n P).Nodup := (rowsOf_nodup n).filter _
/-- sorted, each once, the rows of P: it is canon -/
theorem canon_unique {n : Nat} {P : List (List Bool)} {ys : List Str} (h1 : ys.Nodup) (h2 : sortedS ys = true) (h3 : ∀ x, x ∈ ys ↔ x ∈ P.map ln) (hP : ∀ l ∈ P, l.length = n) : ys = (canon n P).map ln := by
  refine pw_unique (sorted_pw h2) (List.pairwise_map.mpr ((rowsOf_pw n).filter _)) h1 (nodup_ln (canon_nodup n P)) fun x => ?_
  rw [h3, List.mem_map, List.mem_map]
  constructor
  · rintro ⟨l, hl, rfl⟩
    exact ⟨l, List.mem_filter.mpr ⟨rowsOf_mem.mpr (hP l hl), by simpa using hl⟩, rfl⟩
  · rintro ⟨l, hl, rfl⟩
    exact ⟨l, by simpa using (List.mem_filter.mp hl).2, rfl⟩
theorem rd_len {ref : List Bool} : ∀ (ms : List Md) (f : List Bool) (c told : Bool) {l : List Bool}, rd ref ms f c told = some l → l.length = ref.length
  | [], f, c, told, l, h => by
    rw [rd] at h
    split at h
    · rename_i e
      rw [← Option.some.inj h]; exact e
    · cases h
  | m :: ms, f, c, told, l, h => by
    rw [rd] at h
    split at h
    · split at h
      · cases h
      · exact rd_len ms _ _ _ h
    · cases h
theorem readTl_len {ref : List Bool} {t : Tl} {l : List Bool} (h : readTl ref t = some l) : l.length = ref.length := by
  cases t with
  | full rs =>
    simp only [readTl] at h
    split at h
    · rename_i e
      rw [← Option.some.inj h]; exact e
    · cases h
  | modes ms => exact rd_len ms _ _ _ h
theorem img_len {t : Tl} {P : List (List Bool)} {n : Nat} (h : ∀ l ∈ P, l.length = n) : ∀ l ∈ img t P, l.length = n := fun l hl => by
  obtain ⟨r, hr, e⟩ := List.mem_filterMap.mp hl
  rw [readTl_len e]; exact h r hr
theorem img_snoc {t : Tl} {P : List (List Bool)} {r x : List Bool} : x ∈ img t (P ++ [r]) ↔ x ∈ img t P ∨ readTl r t = some x := by
  unfold img
  simp [List.filterMap_append]
theorem knownL_snoc {w : Nat} {ts : List Tl} {t : Tl} : knownL w (ts ++ [t]) = img t (knownL w ts) := by
  unfold knownL
  rw [List.foldl_append]; rfl
theorem knownL_len {w : Nat} : ∀ (ts : List Tl), ∀ l ∈ knownL w ts, l.length = w := fun ts => by
  suffices h : ∀ (ts : List Tl) (P : List (List Bool)), (∀ l ∈ P, l.length = w) → ∀ l ∈ ts.foldl (fun P t => img t P) P, l.length = w from
    h ts _ fun l hl => rowsOf_mem.mp hl
  intro ts
  induction ts with
  | nil => exact fun P h => h
  | cons t ts ih => exact fun P h => ih _ (img_len h)
theorem nodup_sub : ∀ {a b : List (List Bool)}, a.Nodup → (∀ x ∈ a, x ∈ b) → a.length ≤ b.length
  | [], _, _, _ => Nat.zero_le _
  | x :: a, b, h, hs => by
    have hx := hs x List.mem_cons_self
    rw [List.nodup_cons] at h
    have ih := nodup_sub (a := a) (b := b.erase x) h.2 fun y hy => by
      have hy' := hs y (List.mem_cons_of_mem _ hy)
      refine (List.mem_erase_of_ne ?_).mpr hy'
      intro e; subst e; exact h.1 hy
    rw [List.length_erase_of_mem hx] at ih
    have : 0 < b.length := List.length_pos_of_mem hx
    rw [List.length_cons]; omega
theorem nodup_le {w : Nat} {P : List (List Bool)} (h : P.Nodup) (hl : ∀ l ∈ P, l.length = w) : P.length ≤ 2 ^ w := by
  have e : ∀ n, (rowsOf n).length = 2 ^ n := fun n => by
    induction n with
    | zero => rfl
    | succ n ih => rw [rowsOf, List.length_append, List.length_map, List.length_map, ih, Nat.pow_succ]; omega
  rw [← e w]
  exact nodup_sub h fun l hl' => rowsOf_mem.mpr (hl l hl')
theorem canon_nil {w : Nat} {P : List (List Bool)} (h : ∀ l ∈ P, l.length = w) : canon w P = [] ↔ P = [] := by
  unfold canon
  rw [List.filter_eq_nil_iff]
  constructor
  · intro z
    rw [List.eq_nil_iff_forall_not_mem]
    intro l hl
    exact z l (rowsOf_mem.mpr (h l hl)) (by simpa using hl)
  · rintro rfl l _
    simp
end Fx

set_option Elab.async false
set_option linter.all false
set_option maxRecDepth 100000
set_option maxHeartbeats 2000000
/-! Rules over lines, data made of tuples, and how heaps are kept. -/
namespace Fx
open PySem PySem.Spec PyProof.Rows L2

theorem szOf {n : Nat} (h : n ≤ 100000) : n ≤ sizeLine := Nat.le_trans h (by decide)
theorem szLt {n : Nat} (h : n < 100000) : n < sizeLine := Nat.lt_of_lt_of_le h (by decide)
theorem ifT {c A B : Prop} [Decidable c] (h : c) (a : A) : if c then A else B := by rw [if_pos h]; exact a
theorem ifF {c A B : Prop} [Decidable c] (h : ¬ c) (b : B) : if c then A else B := by rw [if_neg h]; exact b
/-- what is asked of a decided test -/
theorem dT {p A B : Prop} [Decidable p] (h : p) (a : A) : if decide p = true then A else B := ifT (decide_eq_true h) a
theorem dF {p A B : Prop} [Decidable p] (h : ¬ p) (b : B) : if decide p = true then A else B := ifF (by simp [h]) b
theorem nT {p A B : Prop} [Decidable p] (h : ¬ p) (a : A) : if (!decide p) = true then A else B := ifT (by simp [h]) a
theorem nF {p A B : Prop} [Decidable p] (h : p) (b : B) : if (!decide p) = true then A else B := ifF (by simp [h]) b
theorem d2 {p A B : Prop} [Decidable p] (h1 : p → A) (h2 : ¬ p → B) : if decide p = true then A else B := by
  by_cases h : p
  · exact dT h (h1 h)
  · exact dF h (h2 h)
theorem n2 {p A B : Prop} [Decidable p] (h1 : ¬ p → A) (h2 : p → B) : if (!decide p) = true then A else B := by
  by_cases h : p
  · exact nF h (h2 h)
  · exact nT h (h1 h)
theorem b2 {b : Bool} {A B : Prop} (h1 : b = true → A) (h2 : b = false → B) : if b = true then A else B := by
  cases b
  · exact ifF (by simp) (h2 rfl)
  · exact ifT rfl (h1 rfl)

section
variable {X : Cx}
theorem OpR.imp {f : Value → Value → Sem Value} {r r' : R2} (h : OpR X f r) (e : ∀ x y H Q, r' x y H Q → r x y H Q) : OpR X f r' :=
  fun pins s σ H x y v u Q I rx ry q => h pins s σ H x y v u Q I rx ry (e x y H Q q)
theorem IxR.imp {r r' : R2} (h : IxR X r) (e : ∀ x y H Q, r' x y H Q → r x y H Q) : IxR X r' :=
  fun value slice pins s σ H x y v u Q I rx ry q hs => h value slice pins s σ H x y v u Q I rx ry (e x y H Q q) hs
theorem SlR.imp {r r' : V → Option Int → Option Int → Hp → VK → Prop} (h : SlR X r) (e : ∀ x a b H Q, r' x a b H Q → r x a b H Q) : SlR X r' :=
  fun pins s σ H x v vl vu lo hi sl Q I rx hs pl pu q => h pins s σ H x v vl vu lo hi sl Q I rx hs pl pu (e x lo hi H Q q)
theorem CallR.imp {f : Value} {r r' : List V → Hp → VK → Prop} (h : CallR X f r) (e : ∀ xs H Q, r' xs H Q → r xs H Q) : CallR X f r' :=
  fun pins s σ H xs us Q I rx q => h pins s σ H xs us Q I rx (e xs H Q q)

/-! ### lines -/
def rAddLn : R2 := fun x y H Q => ∃ a b, x = .str (ln a) ∧ y = .str (ln b) ∧ a.length + b.length ≤ 1000 ∧ Q (.str (ln (a ++ b))) H
theorem op_addLn : OpR X (binaryOp .Add) rAddLn := OpR.imp op_add_str fun x y H Q ⟨a, b, e1, e2, h, q⟩ =>
  ⟨ln a, ln b, e1, e2, szOf (by rw [ln_len, ln_len]; omega), by rw [ln_app]; exact q⟩
theorem iop_addLn : OpR X (inplaceOp .Add) rAddLn := OpR.imp iop_add_str fun x y H Q ⟨a, b, e1, e2, h, q⟩ =>
  ⟨ln a, ln b, e1, e2, szOf (by rw [ln_len, ln_len]; omega), by rw [ln_app]; exact q⟩
theorem ip_addLn : PIp X .Add (fun x y H Q => rAddLn x y H Q) := by
  intro pins s σ H x y v u Q I rx ry h
  exact iop_addLn pins s σ H x y v u Q I rx ry h
def rMulLn : R2 := fun x y H Q => ∃ c n, x = .str (ln [c]) ∧ y = .int ((n : Nat) : Int) ∧ n ≤ 1000 ∧ Q (.str (ln (List.replicate n c))) H
theorem op_mulLn : OpR X (binaryOp .Mult) rMulLn := OpR.imp op_mulS fun x y H Q ⟨c, n, e1, e2, h, q⟩ =>
  ⟨ln [c], n, e1, e2, by omega, by rw [ln_len]; show 1 < 100; decide, by rw [ln_rep]; exact q⟩
def rEqLn : R2 := fun x y H Q => ∃ a b, x = .str (ln a) ∧ y = .str (ln b) ∧ Q (.bl (decide (a = b))) H
theorem ln_eq_iff {a b : List Bool} : V.str (ln a) = V.str (ln b) ↔ a = b :=
  ⟨fun h => ln_inj (V.str.inj h), fun h => by rw [h]⟩
theorem op_eqLn : OpR X (compareOp .Eq) rEqLn := OpR.imp op_eq fun x y H Q ⟨a, b, e1, e2, q⟩ => by
  subst e1 e2
  exact ⟨rfl, by rw [decide_eq_decide.mpr ln_eq_iff]; exact q⟩
def rNeLn : R2 := fun x y H Q => ∃ a b, x = .str (ln a) ∧ y = .str (ln b) ∧ Q (.bl (!decide (a = b))) H
theorem op_neLn : OpR X (compareOp .NotEq) rNeLn := OpR.imp op_ne fun x y H Q ⟨a, b, e1, e2, q⟩ => by
  subst e1 e2
  exact ⟨rfl, by rw [decide_eq_decide.mpr ln_eq_iff]; exact q⟩
/-- the dot at a place -/
def rIxLn : R2 := fun x y H Q => ∃ l j b, x = .str (ln l) ∧ y = .int ((j : Nat) : Int) ∧ l.length ≤ 1000 ∧ l[j]? = some b ∧ Q (.str (ln [b])) H
theorem ix_ln : IxR X rIxLn := IxR.imp ix_str fun x y H Q ⟨l, j, b, e1, e2, h, hj, q⟩ =>
  ⟨ln l, j, dot b, e1, e2, szOf (by rw [ln_len]; omega), by rw [ln_list]; exact atI_nat (by rw [List.getElem?_map, hj]; rfl), q⟩
/-- a slice from a place to a place -/
def rSlLn : V → Option Int → Option Int → Hp → VK → Prop := fun x lo hi H Q => ∃ l i j, x = .str (ln l) ∧ l.length ≤ 1000 ∧
  (lo = some ((i : Nat) : Int) ∨ (lo = none ∧ i = 0)) ∧ (hi = some ((j : Nat) : Int) ∨ (hi = none ∧ j = l.length)) ∧ Q (.str (ln ((l.take j).drop i))) H
theorem sl_ln : SlR X rSlLn := SlR.imp sl_str fun x lo hi H Q ⟨l, i, j, e1, h, h1, h2, q⟩ => by
  refine ⟨ln l, e1, szOf (by rw [ln_len]; omega), ?_⟩
  have e : cutS (ln l) lo hi = ln ((l.take j).drop i) := by
    have a1 : HT.sIx l.length 0 lo = min i l.length := by
      rcases h1 with z | ⟨z, z2⟩
      · rw [z]; exact HT.sIx_nat _ _ _
      · rw [z, z2]; simp [HT.sIx_none]
    have a2 : HT.sIx l.length l.length hi = min j l.length := by
      rcases h2 with z | ⟨z, z2⟩
      · rw [z]; exact HT.sIx_nat _ _ _
      · rw [z, z2]; simp [HT.sIx_none]
    unfold cutS
    rw [ln_len, a1, a2, ln_list, ← List.map_drop, ← List.map_take]
    show ln _ = ln _
    congr 1
    rw [List.drop_take]
    apply List.ext_getElem?
    intro k
    simp only [List.getElem?_take, List.getElem?_drop]
    by_cases c1 : k < min j l.length - min i l.length
    · rw [if_pos c1, if_pos (by omega)]
      congr 1; omega
    · rw [if_neg c1]
      by_cases c2 : k < j - i
      · rw [if_pos c2, List.getElem?_eq_none (by omega)]
      · rw [if_neg c2]
  rw [e]; exact q
/-- written lines -/
theorem pe_lnC {x : Str} {j : Nat} {pos : Pos} {l : List Bool} (h : x = ln l) : PE X (.Constant (.str x) j pos) (tC (.str (ln l))) := by
  rw [← h]; exact pe_str
theorem pe_lnG {x : Str} {pos : Pos} {l : List Bool} {z : Str} {t : Tok} (hg : Gl X x) (hm : X.mg x = some (.str z t)) (h : z = ln l)
    (hd : (x == ("__debug__" : Str)) = false := by decide) : PE X (.Name x pos) (tC (.str (ln l))) := pe_glob (hd := hd) hg hm ⟨t, by rw [h]⟩
/-- len of a line -/
theorem call_lenLn : CallR X (.builtin "len") (fun xs H Q => ∃ l, xs = [.str (ln l)] ∧ l.length ≤ 1000 ∧ Q (.int (l.length : Int)) H) :=
  CallR.imp call_len_str fun xs H Q ⟨l, e, h, q⟩ => ⟨ln l, e, szOf (by rw [ln_len]; omega), by rw [ln_len]; exact q⟩
end

/-! ### data of tuples -/
mutual
inductive TD (K : PySem.W.Frag) (H : Hp) : V → PyData → Prop
  | non : TD K H .non .none
  | int (i : Int) : TD K H (.int i) (.int i)
  | str (x : Str) : TD K H (.str x) (.str x)
  | tup {a : Addr} {xs : List V} {ds : List PyData} : SqT K H a xs → TDs K H xs ds → TD K H (.ref a) (.tuple ds)
inductive TDs (K : PySem.W.Frag) (H : Hp) : List V → List PyData → Prop
  | nil : TDs K H [] []
  | cons {v : V} {d : PyData} {vs : List V} {ds : List PyData} : TD K H v d → TDs K H vs ds → TDs K H (v :: vs) (d :: ds)
end
section
variable {K : PySem.W.Frag} {H H' : Hp}
mutual
theorem TD.mono (h : ∀ a xs, SqT K H a xs → SqT K H' a xs) : ∀ {v : V} {d : PyData}, TD K H v d → TD K H' v d
  | _, _, .non => .non
  | _, _, .int i => .int i
  | _, _, .str x => .str x
  | _, _, .tup q t => .tup (h _ _ q) (TDs.mono h t)
theorem TDs.mono (h : ∀ a xs, SqT K H a xs → SqT K H' a xs) : ∀ {vs : List V} {ds : List PyData}, TDs K H vs ds → TDs K H' vs ds
  | _, _, .nil => .nil
  | _, _, .cons a b => .cons (TD.mono h a) (TDs.mono h b)
end
mutual
theorem TD.dp : ∀ {v : V} {d : PyData}, TD K H v d → Dp K H v d
  | _, _, .non => .non
  | _, _, .int i => .int i
  | _, _, .str x => .str x
  | _, _, .tup q t => .tup q (TDs.dp t)
theorem TDs.dp : ∀ {vs : List V} {ds : List PyData}, TDs K H vs ds → DpAll K H vs ds
  | _, _, .nil => .nil
  | _, _, .cons a b => .cons (TD.dp a) (TDs.dp b)
end
theorem TDs.length : ∀ {vs : List V} {ds : List PyData}, TDs K H vs ds → vs.length = ds.length
  | _, _, .nil => rfl
  | _, _, .cons a b => congrArg (· + 1) b.length
theorem TDs.get : ∀ {vs : List V} {ds : List PyData}, TDs K H vs ds → ∀ {i : Nat} {d : PyData}, ds[i]? = some d → ∃ v, vs[i]? = some v ∧ TD K H v d
  | _, _, .nil, i, d, h => by simp at h
  | _, _, .cons a b, 0, d, h => ⟨_, rfl, by simp at h; rw [← h]; exact a⟩
  | _, _, .cons a b, i + 1, d, h => by
    obtain ⟨v, h1, h2⟩ := b.get (i := i) (d := d) (by simpa using h)
    exact ⟨v, by simpa using h1, h2⟩
theorem TDs.getV : ∀ {vs : List V} {ds : List PyData}, TDs K H vs ds → ∀ {i : Nat} {v : V}, vs[i]? = some v → ∃ d, ds[i]? = some d ∧ TD K H v d
  | _, _, .nil, i, d, h => by simp at h
  | _, _, .cons a b, 0, d, h => ⟨_, rfl, by simp at h; rw [← h]; exact a⟩
  | _, _, .cons a b, i + 1, d, h => by
    obtain ⟨v, h1, h2⟩ := b.getV (i := i) (v := d) (by simpa using h)
    exact ⟨v, by simpa using h1, h2⟩
theorem TDs.append : ∀ {vs us : List V} {ds es : List PyData}, TDs K H vs ds → TDs K H us es → TDs K H (vs ++ us) (ds ++ es)
  | _, _, _, _, .nil, b => b
  | _, _, _, _, .cons a t, b => .cons a (t.append b)
theorem TDs.take : ∀ {vs : List V} {ds : List PyData} (n : Nat), TDs K H vs ds → TDs K H (vs.take n) (ds.take n)
  | _, _, 0, _ => .nil
  | _, _, _ + 1, .nil => .nil
  | _, _, n + 1, .cons a b => .cons a (TDs.take n b)
theorem TD.tupI {v : V} {ds : List PyData} (h : TD K H v (.tuple ds)) : ∃ a xs, v = .ref a ∧ SqT K H a xs ∧ TDs K H xs ds := by
  cases h with
  | tup q t => exact ⟨_, _, rfl, q, t⟩
theorem TD.intI {v : V} {i : Int} (h : TD K H v (.int i)) : v = .int i := by cases h; rfl
theorem TD.strI {v : V} {x : Str} (h : TD K H v (.str x)) : v = .str x := by cases h; rfl
theorem TDs.ints : ∀ {vs : List V} {ns : List Nat}, TDs K H vs (ns.map fun (n : Nat) => PyData.int (n : Int)) → vs = ns.map fun (n : Nat) => V.int (n : Int)
  | _, [], .nil => rfl
  | _, n :: ns, .cons a b => by rw [TD.intI a, TDs.ints b]; rfl
theorem TDs.of_ints : ∀ (ns : List Nat), TDs K H (ns.map fun (n : Nat) => V.int (n : Int)) (ns.map fun (n : Nat) => PyData.int (n : Int))
  | [] => .nil
  | n :: ns => .cons (.int _) (TDs.of_ints ns)
theorem TDs.one {v : V} {d : PyData} (h : TD K H v d) : TDs K H [v] [d] := .cons h .nil
end

/-! ### what stays -/
theorem same_t {K : PySem.W.Frag} {H H' : Hp} (e : Same H H') (a : Addr) (xs : List V) (h : SqT K H a xs) : SqT K H' a xs := by
  rcases h with (h | ⟨o, h⟩) | h
  · exact .inl (.inl (e _ _ h))
  · exact .inl (.inr ⟨o, e _ _ h⟩)
  · exact .inr h
theorem same_new {H : Hp} {p : Addr} {o : HO} (h : H p = none) : Same H (upd H p o) := fun b x e => by
  rw [upd_ne (ne_of_none e h)]; exact e
/-- a thing that H does not know may change -/
theorem same_mut {H H' : Hp} {p : Addr} {o : HO} (e : Same H H') (h : H p = none) : Same H (upd H' p o) := fun b x z => by
  rw [upd_ne (ne_of_none z h)]; exact e b x z
theorem TD.same {K : PySem.W.Frag} {H H' : Hp} {v : V} {d : PyData} (h : TD K H v d) (e : Same H H') : TD K H' v d := h.mono (same_t e)
theorem TDs.same {K : PySem.W.Frag} {H H' : Hp} {v : List V} {d : List PyData} (h : TDs K H v d) (e : Same H H') : TDs K H' v d := h.mono (same_t e)
theorem sqT_new {K : PySem.W.Frag} {H : Hp} {p : Addr} {xs : List V} : SqT K (upd H p (.tup xs)) p xs := .inl (.inl upd_same)
theorem sqL_new {K : PySem.W.Frag} {H : Hp} {p : Addr} {xs : List V} : SqL K (upd H p (.lst xs)) p xs := .inl (.inl upd_same)
theorem sqL_of {K : PySem.W.Frag} {H : Hp} {p : Addr} {xs : List V} (h : H p = some (.lst xs)) : SqL K H p xs := .inl (.inl h)
theorem sqT_of {K : PySem.W.Frag} {H : Hp} {p : Addr} {xs : List V} (h : H p = some (.tup xs)) : SqT K H p xs := .inl (.inl h)

/-! ### == of nothing -/
section
variable {X : Cx}
/-- t == () -/
def rEqNilT (K : PySem.W.Frag) : R2 := fun x y H Q => ∃ (d : List PyData) (b : Addr), TD K H x (.tuple d) ∧ y = .ref b ∧ H b = some (.tup []) ∧ SeqAt.shaped (.tuple d) = true ∧ Q (.bl (decide (d = []))) H
theorem op_eqNilT (hu : X.A.units + 64 < cLine) : OpR X (compareOp .Eq) (rEqNilT X.K) := OpR.imp (op_eqD hu) fun x y H Q ⟨d, b, h1, e, h2, h3, q⟩ =>
  ⟨_, .tuple [], h1.dp, by rw [e]; exact .tup (sqT_of h2) .nil, h3, by decide, by rw [eqv_tupNil]; exact q⟩
def rNeNilT (K : PySem.W.Frag) : R2 := fun x y H Q => ∃ (d : List PyData) (b : Addr), TD K H x (.tuple d) ∧ y = .ref b ∧ H b = some (.tup []) ∧ SeqAt.shaped (.tuple d) = true ∧ Q (.bl (!decide (d = []))) H
theorem op_neNilT (hu : X.A.units + 64 < cLine) : OpR X (compareOp .NotEq) (rNeNilT X.K) := OpR.imp (op_neD hu) fun x y H Q ⟨d, b, h1, e, h2, h3, q⟩ =>
  ⟨_, .tuple [], h1.dp, by rw [e]; exact .tup (sqT_of h2) .nil, h3, by decide, by rw [eqv_tupNil]; exact q⟩
/-- xs == [], xs a list of flat data -/
def rEqNilL (K : PySem.W.Frag) : R2 := fun x y H Q => ∃ (a b : Addr) (xs : List V) (d : List PyData), x = .ref a ∧ y = .ref b ∧ SqL K H a xs ∧ DpAll K H xs d ∧ H b = some (.lst []) ∧ SeqAt.shaped (.list d) = true ∧ Q (.bl (decide (xs = []))) H
theorem dpAll_nil {K : PySem.W.Frag} {H : Hp} {xs : List V} {d : List PyData} (h : DpAll K H xs d) : decide (d = []) = decide (xs = []) := by
  cases h <;> simp
theorem op_eqNilL (hu : X.A.units + 64 < cLine) : OpR X (compareOp .Eq) (rEqNilL X.K) := OpR.imp (op_eqD hu) fun x y H Q ⟨a, b, xs, d, e1, e2, h1, h0, h2, h3, q⟩ =>
  ⟨.list d, .list [], by rw [e1]; exact .lst h1 h0, by rw [e2]; exact .lst (sqL_of h2) .nil, h3, by decide, by rw [eqv_lstNil, dpAll_nil h0]; exact q⟩
def rNeNilL (K : PySem.W.Frag) : R2 := fun x y H Q => ∃ (a b : Addr) (xs : List V) (d : List PyData), x = .ref a ∧ y = .ref b ∧ SqL K H a xs ∧ DpAll K H xs d ∧ H b = some (.lst []) ∧ SeqAt.shaped (.list d) = true ∧ Q (.bl (!decide (xs = []))) H
theorem op_neNilL (hu : X.A.units + 64 < cLine) : OpR X (compareOp .NotEq) (rNeNilL X.K) := OpR.imp (op_neD hu) fun x y H Q ⟨a, b, xs, d, e1, e2, h1, h0, h2, h3, q⟩ =>
  ⟨.list d, .list [], by rw [e1]; exact .lst h1 h0, by rw [e2]; exact .lst (sqL_of h2) .nil, h3, by decide, by rw [eqv_lstNil, dpAll_nil h0]; exact q⟩
theorem dpAll_ints {K : PySem.W.Frag} {H : Hp} : ∀ ns : List Int, DpAll K H (ns.map V.int) (ns.map PyData.int)
  | [] => .nil
  | n :: ns => .cons (.int n) (dpAll_ints ns)
theorem shp_ints (ns : List Int) : SeqAt.shaped (.list (ns.map PyData.int)) = true := shaped_of (k := 1) (shp_lst fun d hd => by
  obtain ⟨n, _, rfl⟩ := List.mem_map.mp hd
  exact shp_int _)
end
end Fx

set_option Elab.async false
set_option linter.all false
set_option maxRecDepth 100000
set_option maxHeartbeats 2000000
namespace Fx
open PySem PySem.Spec PyProof.Rows L2
section
variable {X : Cx}
theorem sw_trueD {kx vx : Expr} {gs : List Comprehension} {scope : Scope} {pos py : Pos} {y : Str} {l : Nat} {env : Env}
    (hk : env.scope.kind = .function) (hy : env.scope.names.lookup y = some .local) (hl : (py.line == pos.line) = true)
    (ha : (scope.names.any fun (n, k) => n == y && (k == .local || k == .cell)) = false) :
    swapsWith (.DictComp kx vx gs scope pos) (some (.Name y py)) l env = pure true := by
  have z1 : env.kindOf y = some .local := hy
  have z2 : env.blockKind = .function := by
    unfold Env.blockKind
    rw [hk]
    rfl
  unfold swapsWith
  simp only [z1, z2, ha, Expr.pos, hl]
  rfl
/-- y = {k: v for ..}, y a name of the def that no block reads -/
theorem ps_setDc {i : Nat} {y : Str} {py : Pos} {kx vx tg iter : Expr} {ifs : List Expr} {scope : Scope} {own : List (Str × Nat)} {pos spos : Pos} {wi : TI} {g : TG} {tt : TT} {tk tv : TE}
    (hc : X.calm = true) (hN : X.N.Nodup) (hy : X.N[i]? = some y) (hyl : X.env.scope.names.lookup y = some .local)
    (hsw : swapsWith (.DictComp kx vx [⟨tg, iter, ifs, 0⟩] scope pos) (some (.Name y py)) spos.line X.env = pure true)
    (hi : PI X tg iter wi) (ok : BlkOk X.N X.env.scope scope own)
    (hg : ∀ (s : Shared) (H : Hp) (C : Addr) (cl : List (Str × Addr)) (fp : List Addr), PG (X.blk s H scope (compEnvC scope cl C X.env) fp) tg g)
    (ht : ∀ (s : Shared) (H : Hp) (C : Addr) (cl : List (Str × Addr)) (fp : List Addr), PTs (X.blk s H scope (compEnvC scope cl C X.env) fp) ifs tt)
    (hk : ∀ (s : Shared) (H : Hp) (C : Addr) (cl : List (Str × Addr)) (fp : List Addr), PE (X.blk s H scope (compEnvC scope cl C X.env) fp) kx tk)
    (he : ∀ (s : Shared) (H : Hp) (C : Addr) (cl : List (Str × Addr)) (fp : List Addr), PE (X.blk s H scope (compEnvC scope cl C X.env) fp) vx tv)
    (hs : ∀ x, foldedSetIterable iter X.env x = pure x := by intro _; rfl) :
    PS X (.Assign [.Name y py] (.DictComp kx vx [⟨tg, iter, ifs, 0⟩] scope pos) spos) (tAsg (tDc wi g tt tk tv (own.map (·.2))) (gName i)) := by
  refine ⟨fun pins s σ H D I h0 => ?_⟩
  rw [exec_Assign_Name_used _ _ _ _ hsw]
  refine wpAny_bind (wpAny_standAt (wpAny_bind ?_))
  show wpAny _ X.A (do
    let _ ← comprehension (.DictComp kx vx [⟨tg, iter, ifs, 0⟩] scope pos) scope X.env (firstIterPos [⟨tg, iter, ifs, 0⟩] pos) newDict false
      (eval iter X.env) (some (assign (.Name y py) X.env))) _ _ s
  have h : tDc wi g tt tk tv (own.map (·.2)) σ H (fun x H1 => gName i x σ H1 D.nx) := h0
  refine wpAny_bind (thn (dc_core (Qf := fun _ s' => SP X pins D .next s') hc hN I hi ok hg ht hk he hs h fun L C s' m H' I' q hn f => ?_)
    fun _ s' hq => wpAny_pure (wpAny_pure hq))
  show wpAny _ _ (assign (.Name y py) X.env (.ref L)) _ _ _
  obtain ⟨f0, f1, f2, f3, f4, f5⟩ := f
  refine wpAny_assign_Name (store_ok2 (v := V.ref L) I' hN hy (.inl hyl) rfl
    (fun s2 I2 ⟨a, sb, ha⟩ => ?_) (.inr hyl))
  have nca : C ≠ a := by
    cases ha with
    | inl z => rw [z]; exact f1
    | inr z => exact fun e => f4 y a z e.symm
  exact ⟨m, hn.sameBut sb nca, fun h3 sb3 =>
    ⟨_, H', I2.turned (t' := s2.toks) (fun b o hb e => (sb3.2 b hb).trans e) f0 f1 f3 f4 f5, q⟩⟩
end
end Fx

set_option Elab.async false
set_option linter.all false
set_option maxRecDepth 100000
set_option maxHeartbeats 2000000
/-! The text by places; a def that stands, a def that keeps its promise. -/
namespace Fx
open PySem PySem.Spec PyProof.Rows L2
def topS (i : Nat) : Stmt := PySem.Challenge.pw_faxhouse_k60_whole_late_lines.main.body.getD i (.Pass ⟨0, 0, 0, 0⟩)

/-- a def of the top, by its name; no defaults -/
structure Df (K : PySem.W.Frag) (mg : Str → Option Value) (x : Str) (st : Stmt) (ps : List Str) : Prop where
  ex : ∃ f fd, Fun K x x st f fd ∧ mg x = some (.ref f) ∧ Binds K fd ps []
/-- it keeps the promise sp, by at most k calls one in another; nothing is raised -/
structure Cal (P : Program) (w : World) (K : PySem.W.Frag) (mg : Str → Option Value) (base : Heap) (x : Str) (k : Nat) (ps : List Str) (sp : Sp) : Prop where
  ex : ∃ f fd, FnOk P w K mg base CX0 k f fd ps sp ∧ mg x = some (.ref f) ∧ PySem.W.keepIn K (.ref f) = true ∧ Binds K fd ps []
def tCal (sp : Sp) (t : TA) : TE := fun σ H Q => t σ H fun vs H1 => sp vs H1 Q E0
section
variable {P : Program} {w : World} {K : PySem.W.Frag} {mg : Str → Option Value} {base : Heap}
theorem Df.cal {x : Str} {st : Stmt} {N ps : List Str} {k : Nat} {sp : Sp} (D : Df K mg x st ps) (S : FnScope N ps (defScope st)) (len : ∀ vs H Q E, sp vs H Q E → vs.length = ps.length)
    (hbody : ∀ (f : Addr) (cdv : Value) (A : Around) (outer : List Env) (s : Shared) (H : Hp) (vs : List V) (Q : VK) (E : XK), Room k (A.deeper (envOfC x (defScope st) s.heap.objs.size f cdv)) → sp vs H Q E →
      ∃ t, PSs (cxOf CX0 P w K mg base N x (defScope st) f cdv A outer s H E).nox (defBody st) t ∧ t { nx := fun _ H' => Q .non H', rt := Q } (start N vs) H) :
    Cal P w K mg base x (k + 1) ps sp := by
  obtain ⟨f, fd, F, g, b⟩ := D.ex
  exact ⟨f, fd, F.ok S len fun cdv A outer s H vs Q E hr h => hbody f cdv A outer s H vs Q E hr h, g, F.kp, b⟩
end
section
variable {X : Cx} {x : Str} {k : Nat} {ps : List Str} {sp : Sp} {e : Expr} {es : List Expr} {t : TA} {p pos : Pos}
theorem pe_cal (C : Cal X.prog X.w X.K X.mg X.base x k ps sp) (hr : Room k X.A) (ha : PA X (e :: es) t) (hg : Gl X x := by rfl)
    (hs : starEach (e :: es) X.env = (false, eval e X.env) :: starEach es X.env := by rfl) (hl : (backTo pos (starEach es X.env)).any (·.1) = false := by rfl)
    (hdb : (x == ("__debug__" : Str)) = false := by decide) :
    PE X (.Call (.Name x p) (e :: es) [] pos) (tCal sp t) := by
  obtain ⟨f, fd, F, g, kp, b⟩ := C.ex
  have h := pe_call (E := E0) (p := p) (pos := pos) F hr hg g kp b .nil pass0 ha (hdb := hdb) (he := hs) (hpl := hl)
  have e : tCall sp [] E0 t = tCal sp t := by
    funext σ H Q
    unfold tCall tCal
    simp only [List.append_nil]
  rw [e] at h
  exact h
/-- a number of the module -/
theorem pe_num {i : Int} (hm : ∃ t, X.mg x = some (.int i t)) (hg : Gl X x := by rfl) (hd : (x == ("__debug__" : Str)) = false := by decide) : PE X (.Name x pos) (tC (.int i)) := by
  obtain ⟨t, hm⟩ := hm
  exact pe_glob hg hm ⟨t, rfl⟩ (hd := hd)
theorem pe_txt {z : Str} (hm : ∃ t, X.mg x = some (.str z t)) (hg : Gl X x := by rfl) (hd : (x == ("__debug__" : Str)) = false := by decide) : PE X (.Name x pos) (tC (.str z)) := by
  obtain ⟨t, hm⟩ := hm
  exact pe_glob hg hm ⟨t, rfl⟩ (hd := hd)
theorem pe_lnN {z : Str} (l : List Bool) (hm : ∃ t, X.mg x = some (.str z t)) (h : z = ln l) (hg : Gl X x := by rfl) (hd : (x == ("__debug__" : Str)) = false := by decide) : PE X (.Name x pos) (tC (.str (ln l))) := by
  obtain ⟨t, hm⟩ := hm
  exact pe_lnG hg hm h (hd := hd)
/-- a built-in class as a value -/
theorem pe_ty {T : String} (hm : X.mg x = none) (hv : bootBuiltins x = some (.type T)) (hg : Gl X x := by rfl) (hn : x ≠ "__name__" := by decide) (hd : (x == ("__debug__" : Str)) = false := by decide) : PE X (.Name x pos) (tC (.ty T)) :=
  pe_bltn hg hm hv rfl (hn := hn) (hd := hd)
end
/-- what the top has left -/
structure Txt (mg : Str → Option Value) : Prop where
  white : ∃ t, mg "WHITE" = some (.str "." t)
  black : ∃ t, mg "BLACK" = some (.str "#" t)
  mostWidth : ∃ t, mg "MOST_WIDTH" = some (.int 40 t)
  mostModes : ∃ t, mg "MOST_MODES" = some (.int 80 t)
  mostStay : ∃ t, mg "MOST_STAY" = some (.int 3 t)
  stay : ∃ t, mg "STAY" = some (.str "stay" t)
  pas : ∃ t, mg "PASS" = some (.str "pass" t)
  runs : ∃ t, mg "RUNS" = some (.str "runs" t)
  full : ∃ t, mg "FULL" = some (.str "full" t)
  unsure : ∃ t, mg "UNSURE" = some (.str "?" t)
  mostLate : ∃ t, mg "MOST_LATE" = some (.int 10 t)
  mostTellings : ∃ t, mg "MOST_TELLINGS" = some (.int 60 t)
  b_isinstance : mg "isinstance" = none
  b_int : mg "int" = none
  b_bool : mg "bool" = none
  b_str : mg "str" = none
  b_tuple : mg "tuple" = none
  b_list : mg "list" = none
  b_set : mg "set" = none
  b_all : mg "all" = none
  b_sum : mg "sum" = none
  b_len : mg "len" = none
  b_range : mg "range" = none
  b_enumerate : mg "enumerate" = none
  b_sorted : mg "sorted" = none
  b_repr : mg "repr" = none
  b_min : mg "min" = none
end Fx

set_option Elab.async false
set_option linter.all false
set_option maxRecDepth 100000
set_option maxHeartbeats 2000000
namespace Fx
open PySem PySem.Spec PyProof.Rows L2
section
variable {X : Cx}
theorem call_isInt : CallR X (.builtin "isinstance") (fun xs H Q => ∃ i, xs = [.int i, .ty "int"] ∧ Q (.bl true) H) :=
  CallR.imp call_isi fun xs H Q ⟨i, e, q⟩ => ⟨_, _, _, _, true, e, .ty _, .base (.int i), kit_ty (by decide +kernel), q⟩
theorem call_isBool : CallR X (.builtin "isinstance") (fun xs H Q => ∃ i, xs = [.int i, .ty "bool"] ∧ Q (.bl false) H) :=
  CallR.imp call_isi fun xs H Q ⟨i, e, q⟩ => ⟨_, _, _, _, false, e, .ty _, .base (.int i), kit_ty (by decide +kernel), q⟩
theorem call_isStr : CallR X (.builtin "isinstance") (fun xs H Q => ∃ z, xs = [.str z, .ty "str"] ∧ Q (.bl true) H) :=
  CallR.imp call_isi fun xs H Q ⟨i, e, q⟩ => ⟨_, _, _, _, true, e, .ty _, .base (.str i), kit_ty (by decide +kernel), q⟩
theorem call_isTup : CallR X (.builtin "isinstance") (fun xs H Q => ∃ a ys, xs = [.ref a, .ty "tuple"] ∧ SqT X.K H a ys ∧ Q (.bl true) H) :=
  CallR.imp call_isi fun xs H Q ⟨a, ys, e, h, q⟩ => by
    refine ⟨_, _, _, _, true, e, .ty _, ?_, kit_ty (a := "tuple") (by decide +kernel), q⟩
    rcases h with (h | ⟨o, h⟩) | ⟨o, its, n, hk, hc, _⟩
    · exact .base (.tup h)
    · exact .fTuple h
    · exact .kTuple hk hc
end
section
variable {P : Program} {w : World} {K : PySem.W.Frag} {mg : Str → Option Value} {base : Heap}
local macro_rules | `(tactic| walk_at "rd") => `(tactic| repeat (first
  | refine ⟨_, rfl, ?_⟩ | refine ⟨_, _, rfl, rfl, ?_⟩ | refine ⟨rfl, ?_⟩ | refine iteT ?_ | refine iteF ?_
  | refine ⟨_, _, rfl, by assumption, ?_⟩ | refine ⟨_, _, rfl, .inr (by assumption), ?_⟩ | refine ⟨_, _, rfl, .inl (by assumption), ?_⟩
  | refine ⟨_, _, _, _, rfl, rfl, by assumption, by first | rfl | exact atI_nat (j := 0) rfl | exact atI_nat (j := 1) rfl | exact atI_nat (j := 2) rfl, ?_⟩))

/-! ### is_whole -/
abbrev sIsWhole : Stmt := topS 8
theorem scIsWhole : FnScope ["thing", "least", "most"] ["thing", "least", "most"] (defScope sIsWhole) := ⟨rfl, rfl, rfl, by decide +kernel, rfl, by decide +kernel, by decide +kernel⟩
def spIsWhole : Sp := fun vs H Q _ => ∃ a l m : Int, vs = [.int a, .int l, .int m] ∧ Q (.bl (decide (l ≤ a) && decide (a ≤ m))) H
theorem ok_isWhole (D : Df K mg "is_whole" sIsWhole ["thing", "least", "most"]) (T : Txt mg) : Cal P w K mg base "is_whole" 1 ["thing", "least", "most"] spIsWhole := by
  refine D.cal scIsWhole (fun vs H Q E h => ?_) (fun f cdv A outer s H vs Q E hr h => ?_)
  · obtain ⟨a, l, m, rfl, _⟩ := h; rfl
  · obtain ⟨a, l, m, rfl, q⟩ := h
    refine ⟨_, pss_cons (ps_if (PW.pt (pw_or (pt_not (pt_val (pe_callB call_isInt (by rfl) T.b_isinstance (by decide +kernel) (pa_cons (pv 0) (pa_cons (pe_ty (T := "int") T.b_int (by decide +kernel)) pa_nil)))))
        (pw_or1 (pt_val (pe_callB call_isBool (by rfl) T.b_isinstance (by decide +kernel) (pa_cons (pv 0) (pa_cons (pe_ty (T := "bool") T.b_bool (by decide +kernel)) pa_nil)))))))
        (pss_one (ps_ret pe_bl)) pss_nil)
      (pss_one (ps_ret (pe_and (pe_or (pe_cmpR op_isN (pv 1) pe_non (nomark _)) (pe_one (pe_cmpR op_ge (pv 0) (pv 1) (nomark _))))
        (pe_one (pe_or (pe_cmpR op_isN (pv 2) pe_non (nomark _)) (pe_one (pe_cmpR op_le (pv 0) (pv 2) (nomark _)))))))), ?_⟩
    walk_at "rd"
    refine d2 (fun h1 => ?_) (fun h1 => ?_)
    · walk_at "rd"
      simpa [h1] using q
    · simpa [h1] using q

/-! ### other_colour -/
abbrev sOther : Stmt := topS 9
theorem scOther : FnScope ["colour"] ["colour"] (defScope sOther) := ⟨rfl, rfl, rfl, by decide +kernel, rfl, by decide +kernel, by decide +kernel⟩
def spOther : Sp := fun vs H Q _ => ∃ c : Bool, vs = [.str (ln [c])] ∧ Q (.str (ln [!c])) H
theorem ok_other (D : Df K mg "other_colour" sOther ["colour"]) (T : Txt mg) : Cal P w K mg base "other_colour" 1 ["colour"] spOther := by
  refine D.cal scOther (fun vs H Q E h => ?_) (fun f cdv A outer s H vs Q E hr h => ?_)
  · obtain ⟨c, rfl, _⟩ := h; rfl
  · obtain ⟨c, rfl, q⟩ := h
    refine ⟨_, pss_one (ps_ret (pe_ifExp (pt_cmpR op_eqLn (pv 0) (pe_lnN [false] T.white w_white) (nomark _)) (pe_lnN [true] T.black w_black) (pe_lnN [false] T.white w_white))), ?_⟩
    walk_at "rd"
    cases c
    · exact dT rfl q
    · exact dF (by decide) q

/-! ### line_in -/
abbrev sLineIn : Stmt := topS 11
theorem scLineIn : FnScope ["runs", "found", "colour", "run"] ["runs"] (defScope sLineIn) := ⟨rfl, rfl, rfl, by decide +kernel, rfl, by decide +kernel, by decide +kernel⟩
def spLineIn (K : PySem.W.Frag) : Sp := fun vs H Q _ => ∃ (v : V) (rs : List Nat), vs = [v] ∧ TD K H v (runsD rs) ∧ rs.sum ≤ 1000 ∧ Q (.str (ln (lineFrom rs false))) H
theorem ok_lineIn (D : Df K mg "line_in" sLineIn ["runs"]) (T : Txt mg) (C : Cal P w K mg base "other_colour" 1 ["colour"] spOther) : Cal P w K mg base "line_in" 2 ["runs"] (spLineIn K) := by
  refine D.cal scLineIn (fun vs H Q E h => ?_) (fun f cdv A outer s H vs Q E hr h => ?_)
  · obtain ⟨v, rs, rfl, _⟩ := h; rfl
  · obtain ⟨v, rs, rfl, hd, hz, q⟩ := h
    obtain ⟨a, xs, rfl, hq, hs⟩ := hd.tupI
    obtain rfl := hs.ints
    refine ⟨_, pss_cons (ps_par (i := 1) (j := 2) (by rfl) scLineIn.nd rfl rfl (by decide) rfl rfl (pa_cons (pe_lnC w_empty) (pa_cons (pe_lnN [false] T.white w_white) pa_nil)) (by rfl))
      (pss_cons (ps_for PassesOwn.never rfl (pi_tup (pv 0)) (pg_name (i := 3) scLineIn.nd rfl (.inl rfl))
        (pss_cons (ps_aug (i := 1) scLineIn.nd rfl (.inl rfl) (pe_op op_mulLn (pv 2) (pv 3)) ip_addLn)
        (pss_one (ps_set (i := 2) scLineIn.nd rfl (.inl rfl) (pe_cal C hr (pa_cons (pv 2) pa_nil))))))
      (pss_one (ps_ret (pv 1)))), ?_⟩
    refine ⟨_, _, rfl, ?_⟩
    refine ⟨_, rfl, a, rfl, ⟨_, hq⟩, for_tup (xs := rs.map fun (n : Nat) => V.int (n : Int))
      (fun i σ H1 => H1 = H ∧ ∃ f c y, σ = [some (.ref a), some (.str (ln f)), some (.str (ln [c])), y] ∧ f ++ lineFrom (rs.drop i) c = lineFrom rs false)
      ⟨rfl, [], false, none, rfl, rfl⟩ (fun i σ H1 _ h => h.1 ▸ hq) ?_ ?_⟩
    · rintro i x σ H1 hx ⟨rfl, f, c, y, rfl, e⟩
      rw [List.getElem?_map] at hx
      cases hr0 : rs[i]? with
      | none => rw [hr0] at hx; cases hx
      | some r =>
        rw [hr0] at hx
        obtain rfl := (Option.some.inj hx)
        have hdr : rs.drop i = r :: rs.drop (i + 1) := by
          obtain ⟨h1, h2⟩ := List.getElem?_eq_some_iff.mp hr0
          rw [List.drop_eq_getElem_cons h1, h2]
        rw [hdr] at e
        have hl : f.length + r ≤ 1000 := by
          have := congrArg List.length e
          rw [lineFrom_len, List.length_append] at this
          simp [lineFrom] at this
          omega
        refine ⟨_, rfl, _, rfl, _, rfl, c, r, rfl, rfl, by omega, f, _, rfl, rfl, by simpa using hl, ?_⟩
        walk_at "rd"
        exact ⟨_, _, _, rfl, by rw [← e]; simp [lineFrom]⟩
    · rintro σ H1 ⟨rfl, f, c, y, rfl, e⟩
      rw [List.length_map, List.drop_length] at e
      walk_at "rd"
      have : f = lineFrom rs false := by simpa [lineFrom] using e
      rw [this]; exact q

/-! ### is_full -/
abbrev sIsFull : Stmt := topS 20
theorem scIsFull : FnScope ["telling"] ["telling"] (defScope sIsFull) := ⟨rfl, rfl, rfl, by decide +kernel, rfl, by decide +kernel, by decide +kernel⟩
def Tl.isFull : Tl → Bool
  | .full _ => true
  | .modes _ => false
def spIsFull (K : PySem.W.Frag) : Sp := fun vs H Q _ => ∃ (v : V) (t : Tl), vs = [v] ∧ TD K H v t.data ∧ Q (.bl t.isFull) H
theorem tag_ne (m : Md) : ¬ V.str m.tag = V.str "full" := by cases m <;> (simp only [Md.tag]; decide +kernel)
theorem ok_isFull (D : Df K mg "is_full" sIsFull ["telling"]) (T : Txt mg) : Cal P w K mg base "is_full" 1 ["telling"] (spIsFull K) := by
  refine D.cal scIsFull (fun vs H Q E h => ?_) (fun f cdv A outer s H vs Q E hr h => ?_)
  · obtain ⟨v, t, rfl, _⟩ := h; rfl
  · obtain ⟨v, t, rfl, hd, q⟩ := h
    obtain ⟨a, xs, rfl, hq, hs⟩ := hd.tupI
    refine ⟨_, pss_one (ps_ret (pe_and (pe_cmpR op_gt (pe_callB call_len_seq (by rfl) T.b_len PySem.boot_len (pa_cons (pv 0) pa_nil)) pe_int (nomark _))
      (pe_one (pe_cmpR op_eq (pe_ix ix_tup (pe_ix ix_tup (pv 0) pe_int (fun _ _ => rfl)) pe_int (fun _ _ => rfl)) (pe_txt T.full) (nomark _))))), ?_⟩
    refine ⟨_, rfl, _, _, rfl, .inr hq, ?_⟩
    walk_at "rd"
    cases t with
    | full rs =>
      cases hs with
      | cons h0 ht =>
        cases ht
        obtain ⟨b, ys, rfl, hq2, hs2⟩ := h0.tupI
        cases hs2 with
        | cons h1 h2 =>
          obtain rfl := h1.strI
          refine dT (by simp) ?_
          walk_at "rd"
          exact q
    | modes ms =>
      cases ms with
      | nil =>
        cases hs
        exact dF (by decide) q
      | cons m ms =>
        cases hs with
        | cons h0 ht =>
          obtain ⟨b, ys, rfl, hq2, hs2⟩ := h0.tupI
          cases hs2 with
          | cons h1 h2 =>
            obtain rfl := h1.strI
            refine dT (by simp only [List.length_cons]; omega) ?_
            walk_at "rd"
            rw [decide_eq_false (tag_ne m)]
            exact q

/-! ### are_runs -/
theorem cut1 (xs : List V) : cutV xs (some 1) none = xs.drop 1 := by
  unfold cutV
  rw [show HT.sIx xs.length 0 (some 1) = min 1 xs.length from HT.sIx_nat xs.length 0 1, HT.sIx_none]
  cases xs with
  | nil => rfl
  | cons x r =>
    have e : min 1 (x :: r).length = 1 := by rw [List.length_cons]; omega
    rw [e, List.take_of_length_le (by simp)]
theorem notIn0 : ∀ {rs : List Nat}, (∀ r ∈ rs, r ≠ 0) → inV (.int 0) (rs.map fun (n : Nat) => V.int (n : Int)) = false
  | [], _ => rfl
  | r :: rs, h => by
    have h1 := h r List.mem_cons_self
    have h2 := notIn0 fun x hx => h x (List.mem_cons_of_mem _ hx)
    unfold inV at h2 ⊢
    rw [List.map_cons, List.any_cons, h2]
    simp [eqV, h1]
theorem flat_nats : ∀ rs : List Nat, (rs.map fun (n : Nat) => V.int (n : Int)).all flatV = true
  | [] => rfl
  | r :: rs => by rw [List.map_cons, List.all_cons, flat_nats rs]; rfl
theorem sum_nats : ∀ rs : List Nat, (rs.map fun (n : Nat) => (n : Int)).sum = (rs.sum : Int)
  | [] => rfl
  | r :: rs => by rw [List.map_cons, List.sum_cons, List.sum_cons, sum_nats rs]; omega
theorem len_le_sum : ∀ {rs : List Nat}, (∀ r ∈ rs, r ≠ 0) → rs.length ≤ rs.sum
  | [], _ => Nat.le_refl _
  | r :: rs, h => by
    have h1 := h r List.mem_cons_self
    have h2 := len_le_sum fun x hx => h x (List.mem_cons_of_mem _ hx)
    rw [List.length_cons, List.sum_cons]; omega
theorem GoodRs.len {rs : List Nat} (h : GoodRs rs) : rs.length ≤ 41 := by
  have h1 := len_le_sum h.pos
  have h2 := h.most
  cases rs with
  | nil => exact Nat.zero_le _
  | cons r rs =>
    simp only [List.drop_succ_cons, List.drop_zero] at h1
    rw [List.sum_cons] at h2
    rw [List.length_cons]; omega
abbrev sAreRuns : Stmt := topS 10
theorem scAreRuns : FnScope ["thing", "run"] ["thing"] (defScope sAreRuns) := ⟨rfl, rfl, rfl, by decide +kernel, rfl, by decide +kernel, by decide +kernel⟩
def spAreRuns (K : PySem.W.Frag) : Sp := fun vs H Q _ => ∃ (v : V) (rs : List Nat), vs = [v] ∧ TD K H v (runsD rs) ∧ GoodRs rs ∧ ∀ H', Same H H' → Q (.bl true) H'
theorem ok_areRuns (D : Df K mg "are_runs" sAreRuns ["thing"]) (T : Txt mg) (C : Cal P w K mg base "is_whole" 1 ["thing", "least", "most"] spIsWhole) : Cal P w K mg base "are_runs" 2 ["thing"] (spAreRuns K) := by
  refine D.cal scAreRuns (fun vs H Q E h => ?_) (fun f cdv A outer s H vs Q E hr h => ?_)
  · obtain ⟨v, rs, rfl, _⟩ := h; rfl
  · obtain ⟨v, rs, rfl, hd, hg, q⟩ := h
    obtain ⟨a, xs, rfl, hq, hs⟩ := hd.tupI
    obtain rfl := hs.ints
    refine ⟨_, pss_cons (ps_if (PW.pt (pw_or (pt_not (pt_val (pe_callB call_isTup (by rfl) T.b_isinstance (by decide +kernel) (pa_cons (pv 0) (pa_cons (pe_ty (T := "tuple") T.b_tuple (by decide +kernel)) pa_nil)))))
        (pw_or (pt_cmpR (op_eqNilT hr.units) (pv 0) (pe_tup pa_nil) (nomark _))
        (pw_or1 (pt_not (pt_val (pe_callB (cr_all rfl) (by rfl) T.b_all (by decide +kernel) (pa_cons
          (pe_lc (own := [("run", 1)]) (g := gName 1) (tt := tYes) rfl scAreRuns.nd (pi_tup (pv 0)) (blkOk_by (own := [("run", 1)]) (N := ["thing", "run"]) (sc := defScope sAreRuns) (by decide +kernel))
            (fun _ _ _ _ _ => pg_name (i := 1) scAreRuns.nd rfl (Or.inl rfl)) (fun _ _ _ _ _ => pts_nil)
            (fun _ _ _ _ _ => pe_cal C hr (pa_cons (pv 1) (pa_cons pe_int (pa_cons (pe_num T.mostWidth) pa_nil))))) pa_nil))))))))
        (pss_one (ps_ret pe_bl)) pss_nil)
      (pss_one (ps_ret (pe_and (pe_cmpR op_notIn_seq pe_int (pe_slice sl_tupA (pv 0) (po_some pe_int) po_none) (by rfl))
        (pe_one (pe_chain op_le op_le pe_int (pe_callB (cr_sumT rfl) (by rfl) T.b_sum (by decide +kernel) (pa_cons (pv 0) pa_nil)) (pe_num T.mostWidth)))))), ?_⟩
    walk_at "rd"
    refine ⟨Nat.zero_le _, fun p hp => ?_⟩
    have s1 := same_new (o := .tup []) hp
    refine ⟨_, p, hd.same s1, rfl, upd_same, shaped_of (shp_runs rs), ?_⟩
    rw [decide_eq_false (by simpa using hg.ne)]
    walk_at "rd"
    have hq1 := same_t s1 _ _ hq
    refine ⟨⟨_, hq1⟩, fun d hd1 => ?_⟩
    have s2 := s1.trans (same_new (o := .lst []) hd1)
    refine lc_it (walk_tup (K := K) (a := a) (xs := rs.map fun (n : Nat) => V.int (n : Int))) (fun i H2 => Same (upd H p (.tup [])) H2 ∧ H2 d = some (.lst ((List.replicate i true).map V.bl)))
      ⟨same_new hd1, upd_same⟩ (fun i H2 _ h => same_t h.1 _ _ hq1) ?_ ?_
    · rintro i x H2 H3 hi ⟨h1, h2⟩ ⟨rfl, hx⟩
      rw [List.getElem?_map] at hx
      cases hr0 : rs[i]? with
      | none => rw [hr0] at hx; cases hx
      | some r =>
        rw [hr0] at hx
        obtain rfl := (Option.some.inj hx)
        walk_at "rd"
        refine ⟨_, _, _, rfl, ?_⟩
        have hb := hg.le r (List.mem_of_getElem? hr0)
        rw [decide_eq_true (show (0 : Int) ≤ (r : Int) by omega), decide_eq_true (show (r : Int) ≤ 40 by omega)]
        refine ⟨_, h2, ?_, same_mut h1 hd1, ?_⟩
        · have := hg.len
          simp at hi ⊢
          exact szLt (by omega)
        · rw [upd_same, List.replicate_succ', List.map_append]; rfl
    · rintro H2 ⟨h1, h2⟩
      rw [List.length_map] at h2
      have s3 := s1.trans h1
      have hq3 := same_t s3 _ _ hq
      refine ⟨d, _, rfl, sqL_of h2, true, ?_, ?_⟩
      · simp
      walk_at "rd"
      have hne : rs.length ≠ 0 := fun z => hg.ne (List.eq_nil_of_length_eq_zero z)
      refine ⟨fun z => ?_, fun _ p2 hp2 => ?_⟩
      · exfalso
        have z1 := z.1
        rw [show HT.sIx _ 0 (some 1) = min 1 _ from HT.sIx_nat _ 0 1, List.length_map] at z1
        omega
      · rw [cut1, ← List.map_drop]
        have s4 := s3.trans (same_new (o := .tup ((rs.drop 1).map fun (n : Nat) => V.int (n : Int))) hp2)
        refine ⟨p2, _, rfl, .inr sqT_new, rfl, flat_nats _, ?_⟩
        rw [notIn0 hg.pos]
        refine ⟨true, rfl, ?_⟩
        refine iteT ?_
        refine ⟨_, rfl, a, rs.map fun (n : Nat) => (n : Int), rfl, ?_, ?_⟩
        · rw [List.map_map]; exact same_t s4 _ _ hq
        · rw [sum_nats]
          walk_at "rd"
          refine dT (by have := hg.one; omega) ?_
          walk_at "rd"
          show Q (V.bl (decide ((rs.sum : Int) ≤ 40))) _
          rw [decide_eq_true (show (rs.sum : Int) ≤ 40 by have := hg.most; omega)]
          exact q _ s4

end
end Fx

set_option Elab.async false
set_option linter.all false
set_option maxRecDepth 100000
set_option maxHeartbeats 2000000
namespace Fx
open PySem PySem.Spec PyProof.Rows L2
section
variable {P : Program} {w : World} {K : PySem.W.Frag} {mg : Str → Option Value} {base : Heap}
local macro_rules | `(tactic| walk_at "rd") => `(tactic| repeat (first
  | refine ⟨_, rfl, ?_⟩ | refine ⟨_, _, rfl, rfl, ?_⟩ | refine ⟨rfl, ?_⟩ | refine iteT ?_ | refine iteF ?_
  | refine ⟨_, _, rfl, by assumption, ?_⟩ | refine ⟨_, _, rfl, .inr (by assumption), ?_⟩ | refine ⟨_, _, rfl, .inl (by assumption), ?_⟩
  | refine ⟨_, _, _, _, rfl, rfl, by assumption, by first | rfl | exact atI_nat (j := 0) rfl | exact atI_nat (j := 1) rfl | exact atI_nat (j := 2) rfl, ?_⟩))

/-! ### is_mode -/
abbrev s_is_mode : Stmt := topS 19
theorem sc_is_mode : FnScope ["thing"] ["thing"] (defScope s_is_mode) := ⟨rfl, rfl, rfl, by decide +kernel, rfl, by decide +kernel, by decide +kernel⟩
def GoodD (d : PyData) : Prop := (∃ m : Md, d = m.data ∧ GoodM m) ∨ ∃ rs, d = fullD rs ∧ GoodRs rs
def spIsMode (K : PySem.W.Frag) : Sp := fun vs H Q _ => ∃ (v : V) (d : PyData), vs = [v] ∧ TD K H v d ∧ GoodD d ∧ ∀ H', Same H H' → Q (.bl true) H'
theorem ok_isMode (D : Df K mg "is_mode" s_is_mode ["thing"]) (T : Txt mg) (C_is_whole : Cal P w K mg base "is_whole" 1 ["thing", "least", "most"] spIsWhole)
    (C_are_runs : Cal P w K mg base "are_runs" 2 ["thing"] (spAreRuns K)) : Cal P w K mg base "is_mode" 3 ["thing"] (spIsMode K) := by
  refine D.cal sc_is_mode (fun vs H Q E h => ?_) (fun f cdv A outer s H vs Q E hr h => ?_)
  · obtain ⟨v, rs, rfl, _⟩ := h; rfl
  · obtain ⟨v, d, rfl, hd, hg, q⟩ := h
    refine ⟨_, (pss_cons (ps_if (PW.pt (pw_or (pt_not (pt_val (pe_callB call_isTup (by rfl) T.b_isinstance (by decide +kernel) (pa_cons (pv 0) (pa_cons (pe_ty (T := "tuple") T.b_tuple (by decide +kernel)) pa_nil))))) (pw_or (pt_cmpR (op_eqNilT hr.units) (pv 0) (pe_tup pa_nil) (nomark _)) (pw_or1 (pt_not (pt_val (pe_callB call_isStr (by rfl) T.b_isinstance (by decide +kernel) (pa_cons (pe_ix ix_tup (pv 0) pe_int (fun _ _ => rfl)) (pa_cons (pe_ty (T := "str") T.b_str (by decide +kernel)) pa_nil))))))))) (pss_one (ps_ret pe_bl)) pss_nil)
      (pss_cons (ps_if (pt_cmpR op_eq (pe_ix ix_tup (pv 0) pe_int (fun _ _ => rfl)) (pe_txt T.pas) (nomark _)) (pss_one (ps_ret (pe_cmpR op_eq (pe_callB call_len_seq (by rfl) T.b_len PySem.boot_len (pa_cons (pv 0) pa_nil)) pe_int (nomark _)))) pss_nil)
      (pss_cons (ps_if (pt_cmpR op_eq (pe_ix ix_tup (pv 0) pe_int (fun _ _ => rfl)) (pe_txt T.stay) (nomark _)) (pss_one (ps_ret (pe_and (pe_cmpR op_eq (pe_callB call_len_seq (by rfl) T.b_len PySem.boot_len (pa_cons (pv 0) pa_nil)) pe_int (nomark _)) (pe_one (pe_cal C_is_whole (hr.mono (by decide)) (pa_cons (pe_ix ix_tup (pv 0) pe_int (fun _ _ => rfl)) (pa_cons (pe_un un_neg (pe_num T.mostStay)) (pa_cons (pe_num T.mostStay) pa_nil)))))))) pss_nil)
      (pss_cons (ps_if (pt_cmpR op_eq (pe_ix ix_tup (pv 0) pe_int (fun _ _ => rfl)) (pe_txt T.full) (nomark _)) (pss_one (ps_ret (pe_and (pe_cmpR op_eq (pe_callB call_len_seq (by rfl) T.b_len PySem.boot_len (pa_cons (pv 0) pa_nil)) pe_int (nomark _)) (pe_one (pe_cal C_are_runs (hr.mono (by decide)) (pa_cons (pe_ix ix_tup (pv 0) pe_int (fun _ _ => rfl)) pa_nil)))))) pss_nil)
      (pss_cons (ps_if (PW.pt (pw_or (pt_cmpR op_ne (pe_ix ix_tup (pv 0) pe_int (fun _ _ => rfl)) (pe_txt T.runs) (nomark _)) (pw_or1 (pt_cmpR op_ne (pe_callB call_len_seq (by rfl) T.b_len PySem.boot_len (pa_cons (pv 0) pa_nil)) pe_int (nomark _))))) (pss_one (ps_ret pe_bl)) pss_nil)
      (pss_one (ps_ret (pe_and (pe_cal C_is_whole (hr.mono (by decide)) (pa_cons (pe_ix ix_tup (pv 0) pe_int (fun _ _ => rfl)) (pa_cons pe_int (pa_cons (pe_num T.mostWidth) pa_nil)))) (pe_one (pe_cal C_is_whole (hr.mono (by decide)) (pa_cons (pe_ix ix_tup (pv 0) pe_int (fun _ _ => rfl)) (pa_cons pe_int (pa_cons (pe_num T.mostWidth) pa_nil))))))))))))), ?_⟩
    rcases hg with ⟨m, rfl, hg⟩ | ⟨rs, rfl, hg⟩
    · obtain ⟨a, xs, rfl, hq, hs⟩ := hd.tupI
      cases m with
      | stay z =>
        cases hs with
        | cons h0 ht =>
          obtain rfl := h0.strI
          cases ht with
          | cons h1 ht =>
            cases ht
            obtain rfl := h1.intI
            walk_at "rd"
            refine ⟨Nat.zero_le _, fun p hp => ?_⟩
            have s1 := same_new (o := .tup []) hp
            have hq1 := same_t s1 _ _ hq
            refine ⟨_, p, hd.same s1, rfl, upd_same, shaped_of (shp_md _), ?_⟩
            walk_at "rd"
            refine ⟨_, _, _, rfl, ?_⟩
            show Q (V.bl (decide (-3 ≤ z) && decide (z ≤ 3))) _
            rw [decide_eq_true hg.1, decide_eq_true hg.2]
            exact q _ s1
      | pass =>
        cases hs with
        | cons h0 ht =>
          obtain rfl := h0.strI
          cases ht
          walk_at "rd"
          refine ⟨Nat.zero_le _, fun p hp => ?_⟩
          have s1 := same_new (o := .tup []) hp
          have hq1 := same_t s1 _ _ hq
          refine ⟨_, p, hd.same s1, rfl, upd_same, shaped_of (shp_md _), ?_⟩
          walk_at "rd"
          exact q _ s1
      | runs n k =>
        cases hs with
        | cons h0 ht =>
          obtain rfl := h0.strI
          cases ht with
          | cons h1 ht =>
            cases ht with
            | cons h2 ht =>
              cases ht
              obtain rfl := h1.intI
              obtain rfl := h2.intI
              walk_at "rd"
              refine ⟨Nat.zero_le _, fun p hp => ?_⟩
              have s1 := same_new (o := .tup []) hp
              have hq1 := same_t s1 _ _ hq
              refine ⟨_, p, hd.same s1, rfl, upd_same, shaped_of (shp_md _), ?_⟩
              walk_at "rd"
              refine ⟨_, _, _, rfl, ?_⟩
              rw [decide_eq_true (show (0 : Int) ≤ (n : Int) by omega), decide_eq_true (show (n : Int) ≤ 40 by have := hg.1; omega)]
              walk_at "rd"
              refine ⟨_, _, _, rfl, ?_⟩
              show Q (V.bl (decide ((0 : Int) ≤ (k : Int)) && decide ((k : Int) ≤ 40))) _
              rw [decide_eq_true (show (0 : Int) ≤ (k : Int) by omega), decide_eq_true (show (k : Int) ≤ 40 by have := hg.2; omega)]
              exact q _ s1
    · obtain ⟨a, xs, rfl, hq, hs⟩ := hd.tupI
      cases hs with
      | cons h0 ht =>
        obtain rfl := h0.strI
        cases ht with
        | cons h1 ht =>
          cases ht
          walk_at "rd"
          refine ⟨Nat.zero_le _, fun p hp => ?_⟩
          have s1 := same_new (o := .tup []) hp
          have hq1 := same_t s1 _ _ hq
          refine ⟨_, p, hd.same s1, rfl, upd_same, shaped_of (shp_full _), ?_⟩
          walk_at "rd"
          refine ⟨_, rs, rfl, h1.same s1, hg, fun H' e => ?_⟩
          exact q _ (s1.trans e)
end
end Fx

set_option Elab.async false
set_option linter.all false
set_option maxRecDepth 100000
set_option maxHeartbeats 2000000
namespace Fx
open PySem PySem.Spec PyProof.Rows L2
section
variable {P : Program} {w : World} {K : PySem.W.Frag} {mg : Str → Option Value} {base : Heap}
local macro_rules | `(tactic| walk_at "rd") => `(tactic| repeat (first
  | refine ⟨_, rfl, ?_⟩ | refine ⟨_, _, rfl, rfl, ?_⟩ | refine ⟨rfl, ?_⟩ | refine iteT ?_ | refine iteF ?_
  | refine ⟨_, _, rfl, by assumption, ?_⟩ | refine ⟨_, _, rfl, .inr (by assumption), ?_⟩ | refine ⟨_, _, rfl, .inl (by assumption), ?_⟩
  | refine ⟨_, _, _, _, rfl, rfl, by assumption, by first | rfl | exact atI_nat (j := 0) rfl | exact atI_nat (j := 1) rfl | exact atI_nat (j := 2) rfl, ?_⟩
  | refine And.intro (by omega) ?_))

/-! ### need_telling -/
abbrev s_need_telling : Stmt := topS 21
theorem sc_need_telling : FnScope ["thing", "number", "mode"] ["thing"] (defScope s_need_telling) := ⟨rfl, rfl, rfl, by decide +kernel, rfl, by decide +kernel, by decide +kernel⟩
theorem items_good {t : Tl} (h : GoodT t) : t.items.length ≤ 80 ∧ ∀ d ∈ t.items, GoodD d := by
  cases t with
  | full rs => exact ⟨show 1 ≤ 80 by decide, fun d hd => .inr ⟨rs, List.mem_singleton.mp hd, h⟩⟩
  | modes ms =>
    refine ⟨by rw [Tl.items, List.length_map]; exact h.1, fun d hd => ?_⟩
    obtain ⟨m, hm, rfl⟩ := List.mem_map.mp hd
    exact .inl ⟨m, rfl, h.2 m hm⟩
def spNeed (K : PySem.W.Frag) : Sp := fun vs H Q _ => ∃ (v : V) (t : Tl), vs = [v] ∧ TD K H v t.data ∧ GoodT t ∧ ∀ H', Same H H' → Q v H'
theorem ok_need (D : Df K mg "need_telling" s_need_telling ["thing"]) (T : Txt mg) (C_is_mode : Cal P w K mg base "is_mode" 3 ["thing"] (spIsMode K)) : Cal P w K mg base "need_telling" 4 ["thing"] (spNeed K) := by
  refine D.cal sc_need_telling (fun vs H Q E h => ?_) (fun f cdv A outer s H vs Q E hr h => ?_)
  · obtain ⟨v, rs, rfl, _⟩ := h; rfl
  · obtain ⟨v, t, rfl, hd, hg, q⟩ := h
    refine ⟨_, (pss_cons (ps_if (PW.pt (pw_or (pt_not (pt_val (pe_callB call_isTup (by rfl) T.b_isinstance (by decide +kernel) (pa_cons (pv 0) (pa_cons (pe_ty (T := "tuple") T.b_tuple (by decide +kernel)) pa_nil))))) (pw_or1 (pt_cmpR op_gt (pe_callB call_len_seq (by rfl) T.b_len PySem.boot_len (pa_cons (pv 0) pa_nil)) (pe_num T.mostModes) (nomark _))))) pss_never pss_nil)
      (pss_cons (ps_for PassesOwn.never rfl (pi_enumT (by rfl) T.b_enumerate (pa_cons (pv 0) pa_nil)) (pg_tup rfl (pgs_cons (pg_name (i := 1) sc_need_telling.nd rfl (.inl rfl)) (pgs_cons (pg_name (i := 2) sc_need_telling.nd rfl (.inl rfl)) pgs_nil))) (pss_one (ps_if (PW.pt (pw_or (pt_not (pt_val (pe_cal C_is_mode (hr.mono (by decide)) (pa_cons (pv 2) pa_nil)))) (pw_or1 (PW.pt (pw_and (pt_cmpR op_gt (pv 1) pe_int (nomark _)) (pw_and1 (pt_cmpR op_in_seq (pe_txt T.full) (pe_tup (pa_cons (pe_ix ix_tup (pv 2) pe_int (fun _ _ => rfl)) (pa_cons (pe_ix ix_tup (pe_ix ix_tup (pv 0) pe_int (fun _ _ => rfl)) pe_int (fun _ _ => rfl)) pa_nil))) (by rfl)))))))) pss_never pss_nil)))
      (pss_one (ps_ret (pv 0))))), ?_⟩
    obtain ⟨hl, hg⟩ := items_good hg
    obtain ⟨a, xs, rfl, hq, hs⟩ := hd.tupI
    have hxl := hs.length
    walk_at "rd"
    refine dF (by omega) ?_
    walk_at "rd"
    refine for_it (walk_enumT (K := K) (a := a) (xs := xs)) (fun i σ H1 => Same H H1 ∧ ∃ x y, σ = [some (.ref a), x, y])
      ⟨Same.refl _, _, _, rfl⟩ (fun i σ H1 _ h => same_t h.1 _ _ hq) ?_ ?_
    · rintro i x σ H1 H2 hi ⟨e1, y1, y2, rfl⟩ ⟨T, u1, u2, rfl, hT, rfl, z1, z2⟩
      obtain ⟨dd, hdi, htd⟩ := hs.getV z2
      have hgd := hg dd (List.mem_of_getElem? hdi)
      have s1 := e1.trans (same_new (o := .tup [u1, u2]) hT)
      cases z1
      refine ⟨T, _, rfl, sqT_new, rfl, _, _, rfl, _, _, rfl, rfl, ?_⟩
      refine ⟨_, rfl, u2, dd, rfl, htd.same s1, hgd, fun H3 e3 => ?_⟩
      have s2 := s1.trans e3
      walk_at "rd"
      refine d2 (fun h0 => ?_) (fun h0 => ?_)
      · have hi0 : 0 < i := by omega
        cases t with
        | full rs =>
          simp [Tl.items] at hxl
          omega
        | modes ms =>
          obtain ⟨m, hm, rfl⟩ : ∃ m, ms[i]? = some m ∧ dd = m.data := by
            rw [Tl.items, List.getElem?_map] at hdi
            cases hz : ms[i]? with
            | none => rw [hz] at hdi; cases hdi
            | some m => rw [hz] at hdi; exact ⟨m, rfl, (Option.some.inj hdi).symm⟩
          obtain ⟨m0, hm0⟩ : ∃ m0, ms[0]? = some m0 := ⟨_, List.getElem?_eq_getElem (by have := (List.getElem?_eq_some_iff.mp hm).1; omega)⟩
          obtain ⟨b, vs, rfl, hqb, hsb⟩ := htd.tupI
          obtain ⟨v0, hv0, htd0⟩ := hs.get (i := 0) (d := m0.data) (by rw [Tl.items, List.getElem?_map, hm0]; rfl)
          obtain ⟨b0, vs0, rfl, hqb0, hsb0⟩ := htd0.tupI
          cases hsb with
          | cons k1 k2 =>
          cases hsb0 with
          | cons k3 k4 =>
          obtain rfl := k1.strI
          obtain rfl := k3.strI
          have g1 := same_t s2 _ _ hq
          have g2 := same_t (s1.trans e3) _ _ hqb
          have g3 := same_t s2 _ _ hqb0
          walk_at "rd"
          refine ⟨a, xs, 0, _, rfl, rfl, g1, atI_nat (j := 0) hv0, ?_⟩
          walk_at "rd"
          refine ⟨szOf (show 2 ≤ 100000 by decide), fun p hp => ?_⟩
          refine ⟨p, _, rfl, .inr sqT_new, rfl, rfl, ?_⟩
          have e : inV (.str "full") [V.str m.tag, V.str m0.tag] = false := by
            cases m <;> cases m0 <;> (simp only [Md.tag]; decide +kernel)
          rw [e]
          exact ⟨false, rfl, s2.trans (same_new hp), _, _, rfl⟩
      · exact ⟨s2, _, _, rfl⟩
    · rintro σ H1 ⟨e1, y1, y2, rfl⟩
      exact ⟨_, rfl, q _ e1⟩

/-! ### change_from -/
abbrev s_change_from : Stmt := topS 22
theorem sc_change_from : FnScope ["reference", "place", "colour", "is_told", "here", "ahead"] ["reference", "place", "colour", "is_told"] (defScope s_change_from) := ⟨rfl, rfl, rfl, by decide +kernel, rfl, by decide +kernel, by decide +kernel⟩
def spChange : Sp := fun vs H Q _ => ∃ (ref : List Bool) (p : Nat) (c told : Bool), vs = [.str (ln ref), .int (p : Int), .str (ln [c]), .bl told] ∧ p < ref.length ∧ ref.length ≤ 100 ∧ (told = false → p = 0) ∧
  Q (.int ((change ref p c told : Nat) : Int)) H
theorem ok_change (D : Df K mg "change_from" s_change_from ["reference", "place", "colour", "is_told"]) (T : Txt mg) : Cal P w K mg base "change_from" 1 ["reference", "place", "colour", "is_told"] spChange := by
  refine D.cal sc_change_from (fun vs H Q E h => ?_) (fun f cdv A outer s H vs Q E hr h => ?_)
  · obtain ⟨_, _, _, _, rfl, _⟩ := h; rfl
  · obtain ⟨ref, p, c, told, rfl, hp, hz, ht, q⟩ := h
    refine ⟨_, (pss_cons (ps_for PassesOwn.never rfl (pi_range2 (by rfl) T.b_range (pa_cons (pe_ifExp (pt_val (pv 3)) (pe_op op_add (pv 1) pe_int) (pv 1)) (pa_cons (pe_callB call_lenLn (by rfl) T.b_len PySem.boot_len (pa_cons (pv 0) pa_nil)) pa_nil))) (pg_name (i := 4) sc_change_from.nd rfl (.inl rfl)) (pss_cons (ps_set (i := 5) sc_change_from.nd rfl (.inl rfl) (pe_ifExp (pt_cmpR op_gt (pv 4) pe_int (nomark _)) (pe_ix ix_ln (pv 0) (pe_op op_sub (pv 4) pe_int) (fun _ _ => rfl)) (pe_lnN [false] T.white w_white)))
      (pss_one (ps_if (PW.pt (pw_and (pt_cmpR op_eqLn (pv 5) (pv 2) (nomark _)) (pw_and1 (pt_cmpR op_neLn (pe_ix ix_ln (pv 0) (pv 4) (fun _ _ => rfl)) (pv 2) (nomark _))))) (pss_one (ps_ret (pv 4))) pss_nil))))
      (pss_one (ps_ret (pe_callB call_lenLn (by rfl) T.b_len PySem.boot_len (pa_cons (pv 0) pa_nil))))), ?_⟩
    obtain ⟨lo, hlo⟩ : ∃ lo : Nat, lo = (if told = true then p + 1 else 0) := ⟨_, rfl⟩
    have hl2 : lo ≤ ref.length := by rw [hlo]; split <;> omega
    have ec : change ref p c told = firstIn (isCh ref c) lo ref.length := by rw [hlo]; rfl
    rw [ec] at q
    have hT : told = true → ((p : Int) + 1) = (lo : Int) := fun z => by rw [hlo, if_pos z]; omega
    have hF : told = false → (p : Int) = (lo : Int) := fun z => by rw [hlo, if_neg (by simp [z]), ht z]
    clear hlo ec
    cases told
    all_goals
      first | have hz0 := hT rfl | have hz0 := hF rfl
      walk_at "rd"
      refine ⟨_, _, rfl, ⟨by omega, by omega, by omega, by omega⟩, for_range (fun i σ H1 => H1 = H ∧ (∃ y1 y2, σ = [some (.str (ln ref)), some (.int (p : Int)), some (.str (ln [c])), some (.bl _), y1, y2]) ∧
        ∀ j, lo ≤ j → j < lo + i → isCh ref c j = false) ⟨rfl, ⟨_, _, rfl⟩, fun j h1 h2 => by omega⟩ ?_ ?_⟩
      · rintro i σ H1 hi ⟨rfl, ⟨y1, y2, rfl⟩, hn⟩
        rw [show V.int (_ + (i : Int)) = V.int ((lo + i : Nat) : Int) from congrArg V.int (by omega)]
        have hk : lo + i < ref.length := by omega
        obtain ⟨b2, hb2⟩ : ∃ b, ref[lo + i]? = some b := ⟨_, List.getElem?_eq_getElem hk⟩
        have hb1 : ∃ b, (false :: ref)[lo + i]? = some b := ⟨_, List.getElem?_eq_getElem (by rw [List.length_cons]; omega)⟩
        obtain ⟨b1, hb1⟩ := hb1
        have hch : isCh ref c (lo + i) = (b1 == c && b2 != c) := by
          unfold isCh
          rw [List.getD_eq_getElem?_getD, List.getD_eq_getElem?_getD, hb1, hb2]; rfl
        walk_at "rd"
        refine d2 (fun h0 => ?_) (fun h0 => ?_)
        · refine ⟨_, rfl, _, rfl, _, _, rfl, rfl, ref, lo + i - 1, b1, rfl, congrArg V.int (by omega), by omega, ?_, ?_⟩
          · rw [show lo + i = (lo + i - 1) + 1 by omega] at hb1
            simpa using hb1
          · refine ⟨_, rfl, _, rfl, [b1], [c], rfl, rfl, _, rfl, d2 (fun h1 => ?_) (fun h1 => ?_)⟩
            · refine ⟨_, rfl, _, rfl, ref, lo + i, b2, rfl, rfl, by omega, hb2, _, rfl, [b2], [c], rfl, rfl, _, rfl, n2 (fun h2 => ?_) (fun h2 => ?_)⟩
              · refine ⟨_, rfl, ?_⟩
                rw [firstIn_hit hn (by omega) hk (by rw [hch]; clear hn hch; revert h1 h2; cases b2 <;> cases c <;> first | decide | (cases b1 <;> decide))] at q
                exact q
              · refine ⟨rfl, ⟨_, _, rfl⟩, fun j h3 h4 => ?_⟩
                by_cases ej : j = lo + i
                · subst ej; rw [hch]; clear hn hch; revert h1 h2; cases b2 <;> cases c <;> first | decide | (cases b1 <;> decide)
                · exact hn j h3 (by omega)
            · refine iteF ⟨rfl, ⟨_, _, rfl⟩, fun j h3 h4 => ?_⟩
              by_cases ej : j = lo + i
              · subst ej; rw [hch]; simp at h1; simp [h1]
              · exact hn j h3 (by omega)
        · have hl0 : lo + i = 0 := by omega
          rw [hl0] at hb1
          obtain rfl : false = b1 := Option.some.inj hb1
          · refine ⟨_, rfl, _, rfl, [false], [c], rfl, rfl, _, rfl, d2 (fun h1 => ?_) (fun h1 => ?_)⟩
            · refine ⟨_, rfl, _, rfl, ref, lo + i, b2, rfl, rfl, by omega, hb2, _, rfl, [b2], [c], rfl, rfl, _, rfl, n2 (fun h2 => ?_) (fun h2 => ?_)⟩
              · refine ⟨_, rfl, ?_⟩
                rw [firstIn_hit hn (by omega) hk (by rw [hch]; clear hn hch; revert h1 h2; cases b2 <;> cases c <;> first | decide | (cases b1 <;> decide))] at q
                exact q
              · refine ⟨rfl, ⟨_, _, rfl⟩, fun j h3 h4 => ?_⟩
                by_cases ej : j = lo + i
                · subst ej; rw [hch]; clear hn hch; revert h1 h2; cases b2 <;> cases c <;> first | decide | (cases b1 <;> decide)
                · exact hn j h3 (by omega)
            · refine iteF ⟨rfl, ⟨_, _, rfl⟩, fun j h3 h4 => ?_⟩
              by_cases ej : j = lo + i
              · subst ej; rw [hch]; simp at h1; simp [h1]
              · exact hn j h3 (by omega)
      · rintro σ H1 ⟨rfl, ⟨y1, y2, rfl⟩, hn⟩
        walk_at "rd"
        rw [firstIn_none (fun j h1 h2 => hn j h1 (by omega))] at q
        exact q

/-! ### change_back -/
abbrev s_change_back : Stmt := topS 23
theorem sc_change_back : FnScope ["reference", "place", "colour", "here"] ["reference", "place", "colour"] (defScope s_change_back) := ⟨rfl, rfl, rfl, by decide +kernel, rfl, by decide +kernel, by decide +kernel⟩
def spBack : Sp := fun vs H Q _ => ∃ (ref : List Bool) (p : Nat) (c : Bool), vs = [.str (ln ref), .int (p : Int), .str (ln [c])] ∧ p < ref.length ∧ ref.length ≤ 100 ∧
  Q (.int ((back ref p c : Nat) : Int)) H
theorem ok_back (D : Df K mg "change_back" s_change_back ["reference", "place", "colour"]) (T : Txt mg) : Cal P w K mg base "change_back" 1 ["reference", "place", "colour"] spBack := by
  refine D.cal sc_change_back (fun vs H Q E h => ?_) (fun f cdv A outer s H vs Q E hr h => ?_)
  · obtain ⟨_, _, _, rfl, _⟩ := h; rfl
  · obtain ⟨ref, p, c, rfl, hp, hz, q⟩ := h
    refine ⟨_, (pss_cons (ps_for PassesOwn.never rfl (pi_range2 (by rfl) T.b_range (pa_cons (pe_op op_add (pv 1) pe_int) (pa_cons (pe_callB call_lenLn (by rfl) T.b_len PySem.boot_len (pa_cons (pv 0) pa_nil)) pa_nil))) (pg_name (i := 3) sc_change_back.nd rfl (.inl rfl)) (pss_one (ps_if (pt_cmpR op_eqLn (pe_ix ix_ln (pv 0) (pv 3) (fun _ _ => rfl)) (pv 2) (nomark _)) (pss_one (ps_ret (pv 3))) pss_nil)))
      (pss_one (ps_ret (pe_callB call_lenLn (by rfl) T.b_len PySem.boot_len (pa_cons (pv 0) pa_nil))))), ?_⟩
    have ec : back ref p c = firstIn (fun k => ref.getD k false == c) (p + 1) ref.length := rfl
    rw [ec] at q
    walk_at "rd"
    refine ⟨_, _, rfl, ⟨by omega, by omega, by omega, by omega⟩, for_range (fun i σ H1 => H1 = H ∧ (∃ y1, σ = [some (.str (ln ref)), some (.int (p : Int)), some (.str (ln [c])), y1]) ∧
      ∀ j, p + 1 ≤ j → j < p + 1 + i → (ref.getD j false == c) = false) ⟨rfl, ⟨_, rfl⟩, fun j h1 h2 => by omega⟩ ?_ ?_⟩
    · rintro i σ H1 hi ⟨rfl, ⟨y1, rfl⟩, hn⟩
      rw [show V.int ((p : Int) + 1 + (i : Int)) = V.int ((p + 1 + i : Nat) : Int) from congrArg V.int (by omega)]
      have hk : p + 1 + i < ref.length := by omega
      obtain ⟨b2, hb2⟩ : ∃ b, ref[p + 1 + i]? = some b := ⟨_, List.getElem?_eq_getElem hk⟩
      have hch : (ref.getD (p + 1 + i) false == c) = (b2 == c) := by
        rw [List.getD_eq_getElem?_getD, hb2]; rfl
      refine ⟨_, rfl, _, rfl, ref, p + 1 + i, b2, rfl, rfl, by omega, hb2, _, rfl, [b2], [c], rfl, rfl, _, rfl, d2 (fun h2 => ?_) (fun h2 => ?_)⟩
      · refine ⟨_, rfl, ?_⟩
        rw [firstIn_hit hn (by omega) hk (by rw [hch]; simp at h2; simp [h2])] at q
        exact q
      · refine ⟨rfl, ⟨_, rfl⟩, fun j h3 h4 => ?_⟩
        by_cases ej : j = p + 1 + i
        · subst ej; rw [hch]; simp at h2; simp [h2]
        · exact hn j h3 (by omega)
    · rintro σ H1 ⟨rfl, ⟨y1, rfl⟩, hn⟩
      walk_at "rd"
      rw [firstIn_none (fun j h1 h2 => hn j h1 (by omega))] at q
      exact q

/-! ### dots_of -/
abbrev s_dots_of : Stmt := topS 25
theorem sc_dots_of : FnScope ["mode", "place", "end", "colour"] ["mode", "place", "end", "colour"] (defScope s_dots_of) := ⟨rfl, rfl, rfl, by decide +kernel, rfl, by decide +kernel, by decide +kernel⟩
def spDots (K : PySem.W.Frag) : Sp := fun vs H Q _ => ∃ (v : V) (m : Md) (p e : Nat) (c : Bool), vs = [v, .int (p : Int), .int (e : Int), .str (ln [c])] ∧ TD K H v m.data ∧ (∀ n k, m = .runs n k → n + k ≤ 1000) ∧ p ≤ e ∧ e ≤ 100 ∧
  Q (.str (ln (dots m p e c))) H
theorem ok_dots (D : Df K mg "dots_of" s_dots_of ["mode", "place", "end", "colour"]) (T : Txt mg) (C_other_colour : Cal P w K mg base "other_colour" 1 ["colour"] spOther) : Cal P w K mg base "dots_of" 2 ["mode", "place", "end", "colour"] (spDots K) := by
  refine D.cal sc_dots_of (fun vs H Q E h => ?_) (fun f cdv A outer s H vs Q E hr h => ?_)
  · obtain ⟨_, _, _, _, _, rfl, _⟩ := h; rfl
  · obtain ⟨v, m, p, e, c, rfl, hd, hm, hp, hz, q⟩ := h
    refine ⟨_, (pss_cons (ps_if (pt_cmpR op_eq (pe_ix ix_tup (pv 0) pe_int (fun _ _ => rfl)) (pe_txt T.runs) (nomark _)) (pss_one (ps_ret (pe_op op_addLn (pe_op op_mulLn (pv 3) (pe_ix ix_tup (pv 0) pe_int (fun _ _ => rfl))) (pe_op op_mulLn (pe_cal C_other_colour (hr.mono (by decide)) (pa_cons (pv 3) pa_nil)) (pe_ix ix_tup (pv 0) pe_int (fun _ _ => rfl)))))) pss_nil)
      (pss_one (ps_ret (pe_op op_mulLn (pv 3) (pe_op op_sub (pv 2) (pv 1)))))), ?_⟩
    obtain ⟨a, xs, rfl, hq, hs⟩ := hd.tupI
    cases hs with
    | cons k1 k2 =>
    obtain rfl := k1.strI
    cases m with
    | runs n k =>
      cases k2 with
      | cons k2 k3 =>
      cases k3 with
      | cons k3 k4 =>
      cases k4
      obtain rfl := k2.intI
      obtain rfl := k3.intI
      have hnk := hm n k rfl
      walk_at "rd"
      exact ⟨by simpa using hnk, q⟩
    | pass =>
      walk_at "rd"
      refine ⟨c, e - p, rfl, congrArg V.int (by omega), by omega, q⟩
    | stay z =>
      walk_at "rd"
      refine ⟨c, e - p, rfl, congrArg V.int (by omega), by omega, q⟩

/-! ### after_mode -/
abbrev s_after_mode : Stmt := topS 24
theorem sc_after_mode : FnScope ["reference", "mode", "place", "colour", "is_told", "width", "middle", "end", "change"] ["reference", "mode", "place", "colour", "is_told"] (defScope s_after_mode) := ⟨rfl, rfl, rfl, by decide +kernel, rfl, by decide +kernel, by decide +kernel⟩
def ansV (K : PySem.W.Frag) (H : Hp) (v : V) : Option (Nat × Bool) → Prop
  | none => v = .non
  | some (e, c) => ∃ a, v = .ref a ∧ SqT K H a [.int (e : Int), .str (ln [c])]
def spAfter (K : PySem.W.Frag) : Sp := fun vs H Q _ => ∃ (ref : List Bool) (v : V) (m : Md) (p : Nat) (c told : Bool), vs = [.str (ln ref), v, .int (p : Int), .str (ln [c]), .bl told] ∧ TD K H v m.data ∧
  p < ref.length ∧ ref.length ≤ 100 ∧ (told = false → p = 0) ∧ ∀ H' u, Same H H' → ansV K H' u (step ref m p c told) → Q u H'
theorem ok_after (D : Df K mg "after_mode" s_after_mode ["reference", "mode", "place", "colour", "is_told"]) (T : Txt mg) (C_other_colour : Cal P w K mg base "other_colour" 1 ["colour"] spOther)
    (C_change_from : Cal P w K mg base "change_from" 1 ["reference", "place", "colour", "is_told"] spChange) (C_change_back : Cal P w K mg base "change_back" 1 ["reference", "place", "colour"] spBack) :
    Cal P w K mg base "after_mode" 2 ["reference", "mode", "place", "colour", "is_told"] (spAfter K) := by
  refine D.cal sc_after_mode (fun vs H Q E h => ?_) (fun f cdv A outer s H vs Q E hr h => ?_)
  · obtain ⟨_, _, _, _, _, _, rfl, _⟩ := h; rfl
  · obtain ⟨ref, v, m, p, c, told, rfl, hd, hp, hz, ht, q⟩ := h
    refine ⟨_, (pss_cons (ps_set (i := 5) sc_after_mode.nd rfl (.inl rfl) (pe_callB call_lenLn (by rfl) T.b_len PySem.boot_len (pa_cons (pv 0) pa_nil)))
      (pss_cons (ps_if (pt_cmpR op_eq (pe_ix ix_tup (pv 1) pe_int (fun _ _ => rfl)) (pe_txt T.runs) (nomark _)) (pss_cons (ps_set (i := 6) sc_after_mode.nd rfl (.inl rfl) (pe_op op_add (pv 2) (pe_ix ix_tup (pv 1) pe_int (fun _ _ => rfl))))
      (pss_cons (ps_set (i := 7) sc_after_mode.nd rfl (.inl rfl) (pe_op op_add (pv 6) (pe_ix ix_tup (pv 1) pe_int (fun _ _ => rfl))))
      (pss_cons (ps_if (PW.pt (pw_or (pt_cmpR op_gt (pv 7) (pv 5) (nomark _)) (pw_or (PW.pt (pw_and (pt_cmpR op_eq (pe_ix ix_tup (pv 1) pe_int (fun _ _ => rfl)) pe_int (nomark _)) (pw_and1 (pt_val (pv 4))))) (pw_or1 (PW.pt (pw_and (pt_cmpR op_eq (pe_ix ix_tup (pv 1) pe_int (fun _ _ => rfl)) pe_int (nomark _)) (pw_and1 (pt_cmpR op_lt (pv 6) (pv 5) (nomark _))))))))) (pss_one (ps_ret pe_non)) pss_nil)
      (pss_one (ps_ret (pe_tup (pa_cons (pv 7) (pa_cons (pv 3) pa_nil)))))))) pss_nil)
      (pss_cons (ps_set (i := 8) sc_after_mode.nd rfl (.inl rfl) (pe_cal C_change_from (hr.mono (by decide)) (pa_cons (pv 0) (pa_cons (pv 2) (pa_cons (pv 3) (pa_cons (pv 4) pa_nil))))))
      (pss_cons (ps_if (pt_cmpR op_eq (pe_ix ix_tup (pv 1) pe_int (fun _ _ => rfl)) (pe_txt T.pas) (nomark _)) (pss_one (ps_ret (pe_ifExp (pt_cmpR op_lt (pv 8) (pv 5) (nomark _)) (pe_tup (pa_cons (pe_cal C_change_back (hr.mono (by decide)) (pa_cons (pv 0) (pa_cons (pv 8) (pa_cons (pv 3) pa_nil)))) (pa_cons (pv 3) pa_nil))) pe_non))) pss_nil)
      (pss_cons (ps_set (i := 7) sc_after_mode.nd rfl (.inl rfl) (pe_op op_add (pv 8) (pe_ix ix_tup (pv 1) pe_int (fun _ _ => rfl))))
      (pss_cons (ps_if (PW.pt (pw_or (pt_cmpR op_gt (pv 7) (pv 5) (nomark _)) (pw_or (pt_cmpR op_lt (pv 7) pe_int (nomark _)) (pw_or1 (PW.pt (pw_and (pt_cmpR op_le (pv 7) (pv 2) (nomark _)) (pw_and1 (pt_val (pv 4))))))))) (pss_one (ps_ret pe_non)) pss_nil)
      (pss_one (ps_ret (pe_tup (pa_cons (pv 7) (pa_cons (pe_cal C_other_colour (hr.mono (by decide)) (pa_cons (pv 3) pa_nil)) pa_nil))))))))))), ?_⟩
    obtain ⟨a, xs, rfl, hq, hs⟩ := hd.tupI
    cases hs with
    | cons k1 k2 =>
    obtain rfl := k1.strI
    cases m with
    | runs n k =>
      cases k2 with
      | cons k2 k3 =>
      cases k3 with
      | cons k3 k4 =>
      cases k4
      obtain rfl := k2.intI
      obtain rfl := k3.intI
      have fn : (p + n + k > ref.length ∨ (n = 0 ∧ told = true) ∨ (k = 0 ∧ p + n < ref.length)) → Q .non H := fun h => q H .non (Same.refl _) (by simp only [step]; rw [if_pos h]; rfl)
      have fs : ¬ (p + n + k > ref.length ∨ (n = 0 ∧ told = true) ∨ (k = 0 ∧ p + n < ref.length)) → ∀ b, H b = none → Q (.ref b) (upd H b (.tup [.int ((p + n + k : Nat) : Int), .str (ln [c])])) := fun h b hb =>
        q _ _ (same_new hb) (by simp only [step]; rw [if_neg h]; exact ⟨b, rfl, sqT_new⟩)
      have c0 : ∀ j : Nat, V.int (j : Int) = V.int 0 ↔ j = 0 := fun j => ⟨fun z => by injection z with z; omega, fun z => by subst z; rfl⟩
      walk_at "rd"
      refine d2 (fun h1 => iteT ?_) (fun h1 => ?_)
      · exact fn (.inl (by omega))
      · walk_at "rd"
        refine d2 (fun h2 => ?_) (fun h2 => ?_)
        · walk_at "rd"
          cases told with
          | true =>
            walk_at "rd"
            exact fn (.inr (.inl ⟨(c0 n).mp h2, rfl⟩))
          | false =>
            walk_at "rd"
            refine d2 (fun h3 => ?_) (fun h3 => ?_)
            · walk_at "rd"
              refine d2 (fun h4 => ?_) (fun h4 => ?_)
              · have z := fn (.inr (.inr ⟨(c0 k).mp h3, by omega⟩)); first | exact z | exact iteT z
              · walk_at "rd"
                exact ⟨szOf (show 2 ≤ 100000 by decide), fs (by have h3' := (c0 k).mp h3; rintro (y | ⟨y, y2⟩ | ⟨y, y2⟩) <;> first | omega | cases y2)⟩
            · walk_at "rd"
              exact ⟨szOf (show 2 ≤ 100000 by decide), fs (by have h3' := fun z => h3 ((c0 k).mpr z); rintro (y | ⟨y, y2⟩ | ⟨y, y2⟩) <;> first | omega | exact h3' y | cases y2)⟩
        · walk_at "rd"
          have h2' := fun z => h2 ((c0 n).mpr z)
          refine d2 (fun h3 => ?_) (fun h3 => ?_)
          · walk_at "rd"
            refine d2 (fun h4 => ?_) (fun h4 => ?_)
            · have z := fn (.inr (.inr ⟨(c0 k).mp h3, by omega⟩)); first | exact z | exact iteT z
            · walk_at "rd"
              exact ⟨szOf (show 2 ≤ 100000 by decide), fs (by have h3' := (c0 k).mp h3; rintro (y | ⟨y, y2⟩ | ⟨y, y2⟩) <;> first | omega | exact h2' y)⟩
          · walk_at "rd"
            exact ⟨szOf (show 2 ≤ 100000 by decide), fs (by have h3' := fun z => h3 ((c0 k).mpr z); rintro (y | ⟨y, y2⟩ | ⟨y, y2⟩) <;> first | omega | exact h3' y | exact h2' y)⟩
    | pass =>
      walk_at "rd"
      refine ⟨_, _, _, _, rfl, hp, hz, ht, ?_⟩
      walk_at "rd"
      refine d2 (fun h1 => ?_) (fun h1 => ?_)
      · have h1' : change ref p c told < ref.length := by omega
        walk_at "rd"
        refine ⟨_, _, _, rfl, h1', hz, ?_⟩
        walk_at "rd"
        refine ⟨szOf (show 2 ≤ 100000 by decide), fun b hb => q _ _ (same_new hb) ?_⟩
        simp only [step]
        rw [if_pos h1']
        exact ⟨b, rfl, sqT_new⟩
      · refine q _ _ (Same.refl _) ?_
        simp only [step]
        rw [if_neg (by omega)]
        exact rfl
    | stay z =>
      cases k2 with
      | cons k2 k3 =>
      cases k3
      obtain rfl := k2.intI
      walk_at "rd"
      refine ⟨_, _, _, _, rfl, hp, hz, ht, ?_⟩
      have fn : ((change ref p c told : Int) + z > ref.length ∨ (change ref p c told : Int) + z < 0 ∨ ((change ref p c told : Int) + z ≤ p ∧ told = true)) → Q .non H := fun h => q H .non (Same.refl _) (by simp only [step]; rw [if_pos h]; rfl)
      have fs : ¬ ((change ref p c told : Int) + z > ref.length ∨ (change ref p c told : Int) + z < 0 ∨ ((change ref p c told : Int) + z ≤ p ∧ told = true)) → ∀ b, H b = none → Q (.ref b) (upd H b (.tup [.int ((change ref p c told : Int) + z), .str (ln [!c])])) := fun h b hb =>
        q _ _ (same_new hb) (by
          simp only [step]; rw [if_neg h]
          refine ⟨b, rfl, ?_⟩
          rw [show ((((change ref p c told : Int) + z).toNat : Nat) : Int) = (change ref p c told : Int) + z by omega]
          exact sqT_new)
      walk_at "rd"
      refine d2 (fun h1 => iteT ?_) (fun h1 => ?_)
      · exact fn (.inl (by omega))
      · walk_at "rd"
        refine d2 (fun h2 => iteT ?_) (fun h2 => ?_)
        · exact fn (.inr (.inl (by omega)))
        · walk_at "rd"
          refine d2 (fun h3 => ?_) (fun h3 => ?_)
          · walk_at "rd"
            cases told with
            | true =>
              walk_at "rd"
              exact fn (.inr (.inr ⟨by omega, rfl⟩))
            | false =>
              walk_at "rd"
              exact ⟨szOf (show 2 ≤ 100000 by decide), fs (by rintro (y | y | ⟨y, y2⟩) <;> first | omega | cases y2)⟩
          · walk_at "rd"
            exact ⟨szOf (show 2 ≤ 100000 by decide), fs (by intro hh; omega)⟩
end
end Fx

set_option Elab.async false
set_option linter.all false
set_option maxRecDepth 100000
set_option maxHeartbeats 2000000
namespace Fx
open PySem PySem.Spec PyProof.Rows L2
section
variable {P : Program} {w : World} {K : PySem.W.Frag} {mg : Str → Option Value} {base : Heap}
local macro_rules | `(tactic| walk_at "rd") => `(tactic| repeat (first
  | refine ⟨_, rfl, ?_⟩ | refine ⟨_, _, rfl, rfl, ?_⟩ | refine ⟨rfl, ?_⟩ | refine iteT ?_ | refine iteF ?_
  | refine ⟨_, _, rfl, by assumption, ?_⟩ | refine ⟨_, _, rfl, .inr (by assumption), ?_⟩ | refine ⟨_, _, rfl, .inl (by assumption), ?_⟩
  | refine ⟨_, _, _, _, rfl, rfl, by assumption, by first | rfl | exact atI_nat (j := 0) rfl | exact atI_nat (j := 1) rfl | exact atI_nat (j := 2) rfl, ?_⟩
  | refine And.intro (by omega) ?_))
/-! ### read_beside -/
abbrev s_read_beside : Stmt := topS 26
theorem sc_read_beside : FnScope ["reference", "telling", "line", "place", "colour", "found", "is_told", "mode", "there"] ["reference", "telling"] (defScope s_read_beside) := ⟨rfl, rfl, rfl, by decide +kernel, rfl, by decide +kernel, by decide +kernel⟩
theorem vint {a b : Nat} : V.int (a : Int) = V.int (b : Int) ↔ a = b := ⟨fun h => by injection h with h; omega, fun h => by rw [h]⟩
def lnO : Option (List Bool) → V
  | none => .non
  | some l => .str (ln l)
def spRead (K : PySem.W.Frag) : Sp := fun vs H Q _ => ∃ (ref : List Bool) (v : V) (t : Tl), vs = [.str (ln ref), v] ∧ TD K H v t.data ∧ GoodT t ∧ ref.length ≤ 100 ∧ ∀ H', Same H H' → Q (lnO (readTl ref t)) H'
theorem ok_read (D : Df K mg "read_beside" s_read_beside ["reference", "telling"]) (T : Txt mg) (C_is_full : Cal P w K mg base "is_full" 1 ["telling"] (spIsFull K)) (C_line_in : Cal P w K mg base "line_in" 2 ["runs"] (spLineIn K))
    (C_after_mode : Cal P w K mg base "after_mode" 2 ["reference", "mode", "place", "colour", "is_told"] (spAfter K)) (C_dots_of : Cal P w K mg base "dots_of" 2 ["mode", "place", "end", "colour"] (spDots K)) :
    Cal P w K mg base "read_beside" 3 ["reference", "telling"] (spRead K) := by
  refine D.cal sc_read_beside (fun vs H Q E h => ?_) (fun f cdv A outer s H vs Q E hr h => ?_)
  · obtain ⟨_, _, _, rfl, _⟩ := h; rfl
  · obtain ⟨ref, v, t, rfl, hd, hg, hz, q⟩ := h
    refine ⟨_, (pss_cons (ps_if (pt_val (pe_cal C_is_full (hr.mono (by decide)) (pa_cons (pv 1) pa_nil))) (pss_cons (ps_set (i := 2) sc_read_beside.nd rfl (.inl rfl) (pe_cal C_line_in (hr.mono (by decide)) (pa_cons (pe_ix ix_tup (pe_ix ix_tup (pv 1) pe_int (fun _ _ => rfl)) pe_int (fun _ _ => rfl)) pa_nil)))
      (pss_one (ps_ret (pe_ifExp (pt_cmpR op_eq (pe_callB call_lenLn (by rfl) T.b_len PySem.boot_len (pa_cons (pv 2) pa_nil)) (pe_callB call_lenLn (by rfl) T.b_len PySem.boot_len (pa_cons (pv 0) pa_nil)) (nomark _)) (pv 2) pe_non)))) pss_nil)
      (pss_cons (ps_asg (pe_tup (pa_cons pe_int (pa_cons (pe_lnN [false] T.white w_white) (pa_cons (pe_lnC w_empty) (pa_cons pe_bl pa_nil))))) (pg_tup rfl (pgs_cons (pg_name (i := 3) sc_read_beside.nd rfl (.inl rfl)) (pgs_cons (pg_name (i := 4) sc_read_beside.nd rfl (.inl rfl)) (pgs_cons (pg_name (i := 5) sc_read_beside.nd rfl (.inl rfl)) (pgs_cons (pg_name (i := 6) sc_read_beside.nd rfl (.inl rfl)) pgs_nil))))))
      (pss_cons (ps_for PassesOwn.never rfl (pi_tup (pv 1)) (pg_name (i := 7) sc_read_beside.nd rfl (.inl rfl)) (pss_cons (ps_set (i := 8) sc_read_beside.nd rfl (.inl rfl) (pe_ifExp (pt_cmpR op_lt (pv 3) (pe_callB call_lenLn (by rfl) T.b_len PySem.boot_len (pa_cons (pv 0) pa_nil)) (nomark _)) (pe_cal C_after_mode (hr.mono (by decide)) (pa_cons (pv 0) (pa_cons (pv 7) (pa_cons (pv 3) (pa_cons (pv 4) (pa_cons (pv 6) pa_nil)))))) pe_non))
      (pss_cons (ps_if (pt_cmpR op_isN (pv 8) pe_non (nomark _)) (pss_one (ps_ret pe_non)) pss_nil)
      (pss_cons (ps_aug (i := 5) sc_read_beside.nd rfl (.inl rfl) (pe_cal C_dots_of (hr.mono (by decide)) (pa_cons (pv 7) (pa_cons (pv 3) (pa_cons (pe_ix ix_tup (pv 8) pe_int (fun _ _ => rfl)) (pa_cons (pv 4) pa_nil))))) ip_addLn)
      (pss_cons (ps_asg (pv 8) (pg_tup rfl (pgs_cons (pg_name (i := 3) sc_read_beside.nd rfl (.inl rfl)) (pgs_cons (pg_name (i := 4) sc_read_beside.nd rfl (.inl rfl)) pgs_nil))))
      (pss_one (ps_set (i := 6) sc_read_beside.nd rfl (.inl rfl) pe_bl)))))))
      (pss_one (ps_ret (pe_ifExp (pt_cmpR op_eq (pv 3) (pe_callB call_lenLn (by rfl) T.b_len PySem.boot_len (pa_cons (pv 0) pa_nil)) (nomark _)) (pv 5) pe_non)))))), ?_⟩
    obtain ⟨a, xs, rfl, hq, hs⟩ := hd.tupI
    cases t with
    | full rs =>
      cases hs with
      | cons k1 k2 =>
      cases k2
      obtain ⟨b, ys, rfl, hq2, hs2⟩ := k1.tupI
      cases hs2 with
      | cons k1 k2 =>
      cases k2 with
      | cons k2 k3 =>
      cases k3
      obtain rfl := k1.strI
      walk_at "rd"
      have hL : (lineFrom rs false).length ≤ 1000 := by rw [lineFrom_len]; have := hg.most; omega
      refine ⟨Nat.le_trans hg.most (by decide), ?_⟩
      walk_at "rd"
      have q := q H (Same.refl _)
      simp only [readTl] at q
      refine d2 (fun h1 => ?_) (fun h1 => ?_)
      · rw [if_pos (vint.mp h1)] at q
        exact ⟨_, rfl, q⟩
      · rw [if_neg fun z => h1 (vint.mpr z)] at q
        exact q
    | modes ms =>
      walk_at "rd"
      refine ⟨szOf (show 4 ≤ 100000 by decide), fun p hp => ?_⟩
      walk_at "rd"
      have s1 := same_new (o := .tup [.int 0, .str (ln [false]), .str (ln []), .bl false]) hp
      refine ⟨p, _, rfl, sqT_new, rfl, ?_⟩
      refine ⟨_, _, rfl, _, _, rfl, _, _, rfl, _, _, rfl, rfl, ?_⟩
      have hl : xs.length = ms.length := by rw [hs.length, Tl.items, List.length_map]
      refine ⟨_, rfl, a, rfl, ⟨_, same_t s1 _ _ hq⟩, for_tup (xs := xs) (fun i σ H1 => Same H H1 ∧ ∃ (f : List Bool) (c told : Bool) (y1 y2 y3 : Option V),
          σ = [some (.str (ln ref)), some (.ref a), y1, some (.int (f.length : Int)), some (.str (ln [c])), some (.str (ln f)), some (.bl told), y2, y3] ∧
          f.length ≤ ref.length ∧ (told = false → f.length = 0) ∧ rd ref (ms.drop i) f c told = rd ref ms [] false false)
        ⟨s1, [], false, false, none, none, none, rfl, Nat.zero_le _, fun _ => rfl, rfl⟩ (fun i σ H1 _ h => same_t h.1 _ _ hq) ?_ ?_⟩
      · rintro i x σ H1 hx ⟨e1, f, c, told, y1, y2, y3, rfl, hf, ht, hrd⟩
        obtain ⟨d, hdi, htd⟩ := hs.getV hx
        obtain ⟨m, hm, rfl⟩ : ∃ m, ms[i]? = some m ∧ d = m.data := by
          rw [Tl.items, List.getElem?_map] at hdi
          cases hz : ms[i]? with
          | none => rw [hz] at hdi; cases hdi
          | some m => rw [hz] at hdi; exact ⟨m, rfl, (Option.some.inj hdi).symm⟩
        have hgm := hg.2 m (List.mem_of_getElem? hm)
        have hdr : ms.drop i = m :: ms.drop (i + 1) := by
          obtain ⟨h1, h2⟩ := List.getElem?_eq_some_iff.mp hm
          rw [List.drop_eq_getElem_cons h1, h2]
        rw [hdr] at hrd
        walk_at "rd"
        refine d2 (fun h1 => ?_) (fun h1 => ?_)
        · have h1' : f.length < ref.length := by omega
          walk_at "rd"
          refine ⟨_, _, m, _, _, _, rfl, htd.same e1, h1', hz, ht, fun H3 u e3 hu => ?_⟩
          have e4 := e1.trans e3
          rw [rd, if_pos h1'] at hrd
          cases hst : step ref m f.length c told with
          | none =>
            rw [hst] at hrd hu
            obtain rfl : u = .non := hu
            have q := q H3 e4
            simp only [readTl] at q
            rw [← hrd] at q
            walk_at "rd"
            exact q
          | some ec =>
            obtain ⟨e, c'⟩ := ec
            rw [hst] at hrd hu
            obtain ⟨b, rfl, hqb⟩ := hu
            have hdl := dots_len hst ht h1'
            walk_at "rd"
            refine ⟨_, m, f.length, e, c, rfl, (htd.same e1).same e3, ?_, by omega, by omega, ?_⟩
            · rintro n k rfl
              have := hgm.1
              have := hgm.2
              omega
            refine ⟨f, _, rfl, rfl, by omega, ?_⟩
            refine ⟨_, rfl, b, _, rfl, hqb, rfl, _, _, rfl, _, _, rfl, rfl, ?_⟩
            refine ⟨e4, f ++ dots m f.length e c, c', true, y1, some x, some (.ref b), ?_, by rw [List.length_append]; omega, fun z => (by cases z), hrd⟩
            rw [List.length_append, hdl.1]
            rfl
        · have h1' : ¬ f.length < ref.length := by omega
          rw [rd, if_neg h1'] at hrd
          have q := q H1 e1
          simp only [readTl] at q
          rw [← hrd] at q
          walk_at "rd"
          exact q
      · rintro σ H1 ⟨e1, f, c, told, y1, y2, y3, rfl, hf, ht, hrd⟩
        rw [hl, List.drop_length] at hrd
        have q := q H1 e1
        simp only [readTl] at q
        rw [← hrd, rd] at q
        walk_at "rd"
        refine d2 (fun h1 => ?_) (fun h1 => ?_)
        · rw [if_pos (vint.mp h1)] at q
          exact ⟨_, rfl, q⟩
        · rw [if_neg fun z => h1 (vint.mpr z)] at q
          exact q
end
end Fx

set_option Elab.async false
set_option linter.all false
set_option maxRecDepth 100000
set_option maxHeartbeats 2000000
namespace Fx
open PySem PySem.Spec PyProof.Rows L2
section
variable {P : Program} {w : World} {K : PySem.W.Frag} {mg : Str → Option Value} {base : Heap}
local macro_rules | `(tactic| walk_at "rd") => `(tactic| repeat (first
  | refine ⟨_, rfl, ?_⟩ | refine ⟨_, _, rfl, rfl, ?_⟩ | refine ⟨rfl, ?_⟩ | refine iteT ?_ | refine iteF ?_
  | refine ⟨_, _, rfl, by assumption, ?_⟩ | refine ⟨_, _, rfl, .inr (by assumption), ?_⟩ | refine ⟨_, _, rfl, .inl (by assumption), ?_⟩
  | refine ⟨_, _, _, _, rfl, rfl, by assumption, by first | rfl | exact atI_nat (j := 0) rfl | exact atI_nat (j := 1) rfl | exact atI_nat (j := 2) rfl, ?_⟩
  | refine And.intro (by omega) ?_))
theorem loop_it {J : It} {n : Nat} {G : Hp → Prop} {Y : Nat → Hp → V → Hp → Prop} (w : Walk J n G Y) {B : V → Hp → (Hp → Prop) → Prop} {H1 : Hp} {Qd : Hp → Prop} (Pv : Nat → Hp → Prop) (h0 : Pv 0 H1) (hG : ∀ i H, i ≤ n → Pv i H → G H)
    (hs : ∀ i x H H', i < n → Pv i H → Y i H x H' → B x H' (Pv (i + 1))) (hd : ∀ H, Pv n H → Qd H) :
    ∃ W : Nat → Nat → Hp → Prop, (∃ m, W 0 m H1) ∧ ∀ i m H, W i m H →
      (J.stop i H ∧ Qd H) ∨ (J.go i H ∧ ∃ Nx : Hp → Prop, (∀ H', Nx H' → ∃ m', m' < m ∧ W (i + 1) m' H') ∧ ∀ x H', J.yld i H x H' → B x H' Nx) := by
  refine ⟨fun i m H => m = n - i ∧ i ≤ n ∧ Pv i H, ⟨n, by simp, Nat.zero_le _, h0⟩, ?_⟩
  rintro i m H ⟨rfl, hi, p⟩
  have q := hG i H hi p
  by_cases hlt : i < n
  · exact .inr ⟨w.goes i H hlt q, Pv (i + 1), fun H' p' => ⟨n - (i + 1), by omega, rfl, hlt, p'⟩, fun x H' y => hs i x H H' hlt p (w.yields i H x H' hlt q y)⟩
  · obtain rfl : i = n := by omega
    exact .inl ⟨w.stops H q, hd H p⟩

/-! ### need_width -/
abbrev s_need_width : Stmt := topS 29
theorem sc_need_width : FnScope ["width"] ["width"] (defScope s_need_width) := ⟨rfl, rfl, rfl, by decide +kernel, rfl, by decide +kernel, by decide +kernel⟩
def spNeedW : Sp := fun vs H Q _ => ∃ n : Nat, vs = [.int (n : Int)] ∧ 1 ≤ n ∧ n ≤ 40 ∧ Q .non H
theorem ok_needW (D : Df K mg "need_width" s_need_width ["width"]) (T : Txt mg) (C_is_whole : Cal P w K mg base "is_whole" 1 ["thing", "least", "most"] spIsWhole) : Cal P w K mg base "need_width" 2 ["width"] spNeedW := by
  refine D.cal sc_need_width (fun vs H Q E h => ?_) (fun f cdv A outer s H vs Q E hr h => ?_)
  · obtain ⟨_, rfl, _⟩ := h; rfl
  · obtain ⟨n, rfl, h1, h2, q⟩ := h
    refine ⟨_, (pss_one (ps_if (pt_not (pt_val (pe_cal C_is_whole (hr.mono (by decide)) (pa_cons (pv 0) (pa_cons pe_int (pa_cons (pe_num T.mostWidth) pa_nil)))))) pss_never pss_nil)), ?_⟩
    walk_at "rd"
    refine ⟨_, _, _, rfl, ?_⟩
    rw [decide_eq_true (show (1 : Int) ≤ (n : Int) by omega), decide_eq_true (show (n : Int) ≤ 40 by omega)]
    exact ⟨true, rfl, q⟩

/-! ### lines_of_width -/
abbrev s_lines_of_width : Stmt := topS 30
theorem sc_lines_of_width : FnScope ["width", "found", "place", "line", "dot"] ["width"] (defScope s_lines_of_width) := ⟨rfl, rfl, rfl, by decide +kernel, rfl, by decide +kernel, by decide +kernel⟩
def lnV (l : List Bool) : V := .str (ln l)
theorem rowsOf_snoc : ∀ n : Nat, rowsOf (n + 1) = (rowsOf n).flatMap fun l => [l ++ [true], l ++ [false]]
  | 0 => rfl
  | n + 1 => by
    show (rowsOf (n + 1)).map (true :: ·) ++ (rowsOf (n + 1)).map (false :: ·) = ((rowsOf n).map (true :: ·) ++ (rowsOf n).map (false :: ·)).flatMap _
    rw [rowsOf_snoc n]
    rw [List.flatMap_append, List.flatMap_map, List.flatMap_map, List.map_flatMap, List.map_flatMap]
    rfl
theorem rowsOf_length : ∀ n : Nat, (rowsOf n).length = 2 ^ n
  | 0 => rfl
  | n + 1 => by rw [rowsOf, List.length_append, List.length_map, List.length_map, rowsOf_length n, Nat.pow_succ]; omega
def spLines : Sp := fun vs H Q _ => ∃ n : Nat, vs = [.int (n : Int)] ∧ n ≤ 10 ∧ ∀ H' p, Same H H' → H p = none → H' p = some (.lst ((rowsOf n).map lnV)) → Q (.ref p) H'
theorem ok_lines (D : Df K mg "lines_of_width" s_lines_of_width ["width"]) (T : Txt mg) : Cal P w K mg base "lines_of_width" 1 ["width"] spLines := by
  refine D.cal sc_lines_of_width (fun vs H Q E h => ?_) (fun f cdv A outer s H vs Q E hr h => ?_)
  · obtain ⟨_, rfl, _⟩ := h; rfl
  · obtain ⟨n, rfl, h1, q⟩ := h
    refine ⟨_, (pss_cons (ps_set (i := 1) sc_lines_of_width.nd rfl (.inl rfl) (pe_lst (pa_cons (pe_lnC w_empty) pa_nil)))
      (pss_cons (ps_for PassesOwn.never rfl (pi_range1 (by rfl) T.b_range (pa_cons (pv 0) pa_nil)) (pg_name (i := 2) sc_lines_of_width.nd rfl (.inl rfl)) (pss_one (ps_setLc2 (i := 1) (own := [("line", 3), ("dot", 4)]) (vs1 := [4]) (g := (gName 3)) (g1 := (gName 4)) (tt := tYes) (tt1 := tYes) rfl sc_lines_of_width.nd rfl rfl (sw_true rfl rfl rfl (by decide +kernel)) (pi_list (pv 1)) (blkOk_by (own := [("line", 3), ("dot", 4)]) (N := ["width", "found", "place", "line", "dot"]) (sc := defScope s_lines_of_width) (by decide +kernel)) (by decide) (fun _ _ _ _ _ => (pg_name (i := 3) sc_lines_of_width.nd rfl (.inl rfl))) (fun _ _ _ _ _ => pts_nil) (wi1 := iTup K (tTup (tCons (tC (.str (ln [true]))) (tCons (tC (.str (ln [false]))) tNil)))) (fun _ _ _ _ _ => (pi_tup (pe_tup (pa_cons (pe_lnN [true] T.black w_black) (pa_cons (pe_lnN [false] T.white w_white) pa_nil))))) (fun _ _ _ _ _ => (pg_name (i := 4) sc_lines_of_width.nd rfl (.inl rfl))) (fun _ _ _ _ _ => pts_nil) (fun _ _ _ _ _ => (pe_op op_addLn (pv 3) (pv 4))))))
      (pss_one (ps_ret (pv 1))))), ?_⟩
    walk_at "rd"
    refine ⟨Nat.le_of_lt (szLt (show 1 < 100000 by decide)), fun p hp => ?_⟩
    have hcat : 2 ^ n ≤ 1024 := Nat.le_trans (Nat.pow_le_pow_right (by decide) h1) (by decide)
    walk_at "rd"
    refine for_range (lo := 0) (fun i σ H1 => Same H H1 ∧ ∃ p y1 y2 y3, σ = [some (.int (n : Int)), some (.ref p), y1, y2, y3] ∧ H p = none ∧ H1 p = some (.lst ((rowsOf i).map lnV)))
      ⟨same_new hp, p, _, _, _, rfl, hp, upd_same⟩ ?_ ?_
    · rintro i σ H1 hi ⟨e1, p1, y1, y2, y3, rfl, hp1, hl⟩
      have hin : i < n := by omega
      have hlen : (rowsOf i).length * 2 ≤ 1024 := by
        rw [rowsOf_length, ← Nat.pow_succ]
        exact Nat.le_trans (Nat.pow_le_pow_right (by decide) hin) hcat
      refine ⟨_, rfl, p1, rfl, ⟨_, sqL_of hl⟩, fun d hd => ?_⟩
      have e2 := e1.trans (same_new (o := .lst []) hd)
      refine loop_it (walk_list (K := K) (a := p1) (xs := (rowsOf i).map lnV)) (fun j H2 => Same H H2 ∧ H2 p1 = some (.lst ((rowsOf i).map lnV)) ∧ H2 d = some (.lst ((((rowsOf i).take j).flatMap fun l => [l ++ [true], l ++ [false]]).map lnV)))
        ⟨e2, by rw [upd_ne (ne_of_none hl hd)]; exact hl, upd_same⟩ (fun j H2 _ h => sqL_of h.2.1) ?_ ?_
      · rintro j x H2 H3 hj ⟨e3, hl3, hd3⟩ ⟨rfl, hx⟩
        rw [List.length_map] at hj
        obtain ⟨l, hl0, rfl⟩ : ∃ l, (rowsOf i)[j]? = some l ∧ x = lnV l := by
          rw [List.getElem?_map] at hx
          cases hz : (rowsOf i)[j]? with
          | none => rw [hz] at hx; cases hx
          | some l => rw [hz] at hx; exact ⟨l, rfl, (Option.some.inj hx).symm⟩
        have hll : l.length = i := rowsOf_mem.mp (List.mem_of_getElem? hl0)
        have htk : (rowsOf i).take (j + 1) = (rowsOf i).take j ++ [l] := by rw [List.take_succ, hl0]; rfl
        have hdn : H d = none := by
          cases hz : H d with
          | none => rfl
          | some o => rw [e1 d o hz] at hd; cases hd
        have hne : p1 ≠ d := ne_of_none hl hd
        refine ⟨rfl, ?_⟩
        refine ⟨szOf (show 2 ≤ 100000 by decide), fun pt hpt => ⟨pt, rfl, ⟨_, sqT_new⟩, ?_⟩⟩
        have hptd : pt ≠ d := fun z => by rw [z, hd3] at hpt; cases hpt
        refine loop_it (walk_tup (K := K) (a := pt) (xs := [V.str (ln [true]), V.str (ln [false])])) (fun k H4 => Same H H4 ∧ H4 p1 = some (.lst ((rowsOf i).map lnV)) ∧
            H4 d = some (.lst ((((rowsOf i).take j).flatMap fun l => [l ++ [true], l ++ [false]]).map lnV ++ [lnV (l ++ [true]), lnV (l ++ [false])].take k)) ∧ H4 pt = some (.tup [V.str (ln [true]), V.str (ln [false])]))
          ⟨e3.trans (same_new hpt), by rw [upd_ne (ne_of_none hl3 hpt)]; exact hl3, by rw [upd_ne (ne_of_none hd3 hpt), List.take_zero, List.append_nil]; exact hd3, upd_same⟩ (fun k H4 _ h => sqT_of h.2.2.2) ?_ ?_
        · rintro k x H4 H5 hk ⟨e4, g1, g2, g3⟩ ⟨rfl, hx⟩
          obtain ⟨b, rfl, hb⟩ : ∃ b : Bool, x = .str (ln [b]) ∧ [lnV (l ++ [true]), lnV (l ++ [false])].take (k + 1) = [lnV (l ++ [true]), lnV (l ++ [false])].take k ++ [lnV (l ++ [b])] := by
            match k, hx with
            | 0, hx => exact ⟨true, (Option.some.inj hx).symm, rfl⟩
            | 1, hx => exact ⟨false, (Option.some.inj hx).symm, rfl⟩
          refine ⟨rfl, ?_⟩
          refine ⟨_, rfl, _, rfl, l, [b], rfl, rfl, by simp; omega, _, g2, ?_, same_mut e4 hdn, by rw [upd_ne hne]; exact g1, ?_, by rw [upd_ne hptd]; exact g3⟩
          · have hj2 : (((rowsOf i).take j).flatMap fun l => [l ++ [true], l ++ [false]]).length = 2 * ((rowsOf i).take j).length := by
              generalize (rowsOf i).take j = z
              induction z with
              | nil => rfl
              | cons a z ih => rw [List.flatMap_cons, List.length_append, ih]; simp; omega
            refine szLt ?_
            rw [List.length_append, List.length_map, hj2, List.length_take, List.length_take]
            simp
            omega
          · rw [upd_same, hb, List.append_assoc]; rfl
        · rintro H4 ⟨e4, g1, g2, g3⟩
          refine ⟨e4, g1, ?_⟩
          rw [g2, htk, List.flatMap_append, List.map_append]
          rfl
      · rintro H2 ⟨e3, hl3, hd3⟩
        refine ⟨e3, d, _, _, _, rfl, ?_, ?_⟩
        · cases hz : H d with
          | none => rfl
          | some o => rw [e1 d o hz] at hd; cases hd
        · rw [hd3, List.length_map, List.take_length, rowsOf_snoc]
    · rintro σ H1 ⟨e1, p1, y1, y2, y3, rfl, hp1, hl⟩
      exact ⟨_, rfl, q _ _ e1 hp1 (by simpa using hl)⟩
end
end Fx

set_option Elab.async false
set_option linter.all false
set_option maxRecDepth 100000
set_option maxHeartbeats 2000000
namespace Fx
open PySem PySem.Spec PyProof.Rows L2
section
variable {P : Program} {w : World} {K : PySem.W.Frag} {mg : Str → Option Value} {base : Heap}
local macro_rules | `(tactic| walk_at "rd") => `(tactic| repeat (first
  | refine ⟨_, rfl, ?_⟩ | refine ⟨_, _, rfl, rfl, ?_⟩ | refine ⟨rfl, ?_⟩ | refine iteT ?_ | refine iteF ?_
  | refine ⟨_, _, rfl, by assumption, ?_⟩ | refine ⟨_, _, rfl, .inr (by assumption), ?_⟩ | refine ⟨_, _, rfl, .inl (by assumption), ?_⟩
  | refine ⟨_, _, _, _, rfl, rfl, by assumption, by first | rfl | exact atI_nat (j := 0) rfl | exact atI_nat (j := 1) rfl | exact atI_nat (j := 2) rfl, ?_⟩
  | refine And.intro (by omega) ?_))
/-! ### need_late -/
abbrev s_need_late : Stmt := topS 34
theorem sc_need_late : FnScope ["width", "tellings", "telling"] ["width", "tellings"] (defScope s_need_late) := ⟨rfl, rfl, rfl, by decide +kernel, rfl, by decide +kernel, by decide +kernel⟩
structure GoodTs (n : Nat) (ts : List Tl) : Prop where
  lo : 1 ≤ n
  hi : n ≤ 10
  few : ts.length ≤ 60
  good : ∀ t ∈ ts, GoodT t
def tsD (ts : List Tl) : PyData := .tuple (ts.map Tl.data)
def spNeedL (K : PySem.W.Frag) : Sp := fun vs H Q _ => ∃ (n : Nat) (v : V) (ts : List Tl), vs = [.int (n : Int), v] ∧ TD K H v (tsD ts) ∧ GoodTs n ts ∧ ∀ H', Same H H' → Q .non H'
theorem tl_at {ts : List Tl} {i : Nat} {d : PyData} (h : (ts.map Tl.data)[i]? = some d) : ∃ t, ts[i]? = some t ∧ d = t.data := by
  rw [List.getElem?_map] at h
  cases hz : ts[i]? with
  | none => rw [hz] at h; cases h
  | some m => rw [hz] at h; exact ⟨m, rfl, (Option.some.inj h).symm⟩
theorem ok_needL (D : Df K mg "need_late" s_need_late ["width", "tellings"]) (T : Txt mg) (C_need_width : Cal P w K mg base "need_width" 2 ["width"] spNeedW) (C_need_telling : Cal P w K mg base "need_telling" 4 ["thing"] (spNeed K)) :
    Cal P w K mg base "need_late" 5 ["width", "tellings"] (spNeedL K) := by
  refine D.cal sc_need_late (fun vs H Q E h => ?_) (fun f cdv A outer s H vs Q E hr h => ?_)
  · obtain ⟨_, _, _, rfl, _⟩ := h; rfl
  · obtain ⟨n, v, ts, rfl, hd, hg, q⟩ := h
    refine ⟨_, (pss_cons (ps_expr (pe_cal C_need_width (hr.mono (by decide)) (pa_cons (pv 0) pa_nil)))
      (pss_cons (ps_if (pt_cmpR op_gt (pv 0) (pe_num T.mostLate) (nomark _)) pss_never pss_nil)
      (pss_cons (ps_if (PW.pt (pw_or (pt_not (pt_val (pe_callB call_isTup (by rfl) T.b_isinstance (by decide +kernel) (pa_cons (pv 1) (pa_cons (pe_ty (T := "tuple") T.b_tuple (by decide +kernel)) pa_nil))))) (pw_or1 (pt_cmpR op_gt (pe_callB call_len_seq (by rfl) T.b_len PySem.boot_len (pa_cons (pv 1) pa_nil)) (pe_num T.mostTellings) (nomark _))))) pss_never pss_nil)
      (pss_one (ps_for PassesOwn.never rfl (pi_tup (pv 1)) (pg_name (i := 2) sc_need_late.nd rfl (.inl rfl)) (pss_one (ps_expr (pe_cal C_need_telling (hr.mono (by decide)) (pa_cons (pv 2) pa_nil))))))))), ?_⟩
    obtain ⟨a, xs, rfl, hq, hs⟩ := hd.tupI
    have hxl : xs.length = ts.length := by rw [hs.length, List.length_map]
    have g1 := hg.lo
    have g2 := hg.hi
    have g3 := hg.few
    walk_at "rd"
    refine dF (by omega) ?_
    walk_at "rd"
    refine dF (by omega) ?_
    walk_at "rd"
    refine ⟨⟨_, hq⟩, for_tup (xs := xs) (fun i σ H1 => Same H H1 ∧ ∃ y, σ = [some (.int (n : Int)), some (.ref a), y]) ⟨Same.refl _, _, rfl⟩ (fun i σ H1 _ h => same_t h.1 _ _ hq) ?_ ?_⟩
    · rintro i x σ H1 hx ⟨e1, y, rfl⟩
      obtain ⟨d, hdi, htd⟩ := hs.getV hx
      obtain ⟨t, ht, rfl⟩ := tl_at hdi
      exact ⟨_, rfl, x, t, rfl, htd.same e1, hg.good t (List.mem_of_getElem? ht), fun H3 e3 => ⟨e1.trans e3, _, rfl⟩⟩
    · rintro σ H1 ⟨e1, y, rfl⟩
      exact q _ e1

/-! ### next_known -/
def kLn (l : List Bool) : Key := .inr (ln l)
theorem kLn_inj {a b : List Bool} (h : kLn a = kLn b) : a = b := ln_inj (Sum.inr.inj h)
theorem put_keys {kvs : List (Key × V)} {ks : List (List Bool)} (l : List Bool) (v : V) (h : kvs.map (·.1) = ks.map kLn) :
    ∃ ks' : List (List Bool), (putK kvs (kLn l) v).map (·.1) = ks'.map kLn ∧ (ks.Nodup → ks'.Nodup) ∧ (∀ x, x ∈ ks' ↔ x ∈ ks ∨ x = l) ∧ ks'.length ≤ ks.length + 1 := by
  have hmem : (kvs.any fun kv => decide (kv.1 = kLn l)) = true ↔ l ∈ ks := by
    rw [List.any_eq_true]
    constructor
    · rintro ⟨kv, h1, h2⟩
      have h3 : kLn l ∈ ks.map kLn := by rw [← h]; exact List.mem_map.mpr ⟨kv, h1, of_decide_eq_true h2⟩
      obtain ⟨x, h4, h5⟩ := List.mem_map.mp h3
      rw [← kLn_inj h5]; exact h4
    · intro h1
      have h3 : kLn l ∈ kvs.map (·.1) := by rw [h]; exact List.mem_map.mpr ⟨l, h1, rfl⟩
      obtain ⟨kv, h4, h5⟩ := List.mem_map.mp h3
      exact ⟨kv, h4, decide_eq_true h5⟩
  unfold putK
  by_cases c : (kvs.any fun kv => decide (kv.1 = kLn l)) = true
  · rw [if_pos c]
    refine ⟨ks, ?_, id, fun x => ⟨.inl, fun z => z.elim id fun e => e ▸ hmem.mp c⟩, by omega⟩
    rw [← h, List.map_map]
    refine List.map_congr_left fun kv _ => ?_
    show (if kv.1 = kLn l then (kv.1, v) else kv).1 = kv.1
    split <;> rfl
  · rw [if_neg c]
    refine ⟨ks ++ [l], by rw [List.map_append, h, List.map_append]; rfl, fun hn => ?_, fun x => by simp, by simp⟩
    rw [List.nodup_append]
    refine ⟨hn, by simp, fun a ha b hb => ?_⟩
    rw [List.mem_singleton.mp hb]
    rintro rfl
    exact c (hmem.mpr ha)
/-- a holds the rows P: a list of them, or a dict whose keys they are -/
def Holds (K : PySem.W.Frag) (H : Hp) (a : Addr) (P : List (List Bool)) : Prop :=
  SqL K H a (P.map lnV) ∨ ∃ kvs : List (Key × V), H a = some (.dK kvs) ∧ kvs.map (·.1) = P.map kLn
def spNext (K : PySem.W.Frag) : Sp := fun vs H Q _ => ∃ (a : Addr) (v : V) (t : Tl) (P : List (List Bool)), vs = [.ref a, v] ∧ TD K H v t.data ∧ GoodT t ∧ Holds K H a P ∧ (∀ l ∈ P, l.length ≤ 10) ∧ P.length ≤ 5000 ∧
  ∀ (H' : Hp) (p : Addr) (kvs : List (Key × V)) (P' : List (List Bool)), Same H H' → H p = none → H' p = some (.dK kvs) → kvs.map (·.1) = P'.map kLn → P'.Nodup → (∀ l, l ∈ P' ↔ l ∈ img t P) → Q (.ref p) H'
theorem same_unlock {H H' : Hp} {d : Addr} {u o : HO} (h : H d = some u) (e : Same (upd H d o) H') : Same H (upd H' d u) := fun b x hb => by
  by_cases c : b = d
  · subst c; rw [upd_same, ← hb, h]
  · rw [upd_ne c]; exact e b x (by rw [upd_ne c]; exact hb)
theorem sqT_lock {K : PySem.W.Frag} {H : Hp} {d : Addr} {kvs : List (Key × V)} {o : HO} (h : H d = some (.dK kvs)) (a : Addr) (xs : List V) (q : SqT K H a xs) : SqT K (upd H d o) a xs := by
  have ne : ∀ {u : HO}, H a = some u → (∀ z, u ≠ .dK z) → a ≠ d := fun {u} z n e => by subst e; rw [h] at z; exact n kvs (Option.some.inj z).symm
  rcases q with (q | ⟨o, q⟩) | q
  · exact .inl (.inl (by rw [upd_ne (ne q fun _ z => nomatch z)]; exact q))
  · exact .inl (.inr ⟨o, by rw [upd_ne (ne q fun _ z => nomatch z)]; exact q⟩)
  · exact .inr q
theorem sqL_same {K : PySem.W.Frag} {H H' : Hp} (e : Same H H') {a : Addr} {xs : List V} (h : SqL K H a xs) : SqL K H' a xs := by
  rcases h with (h | ⟨o, h⟩) | h
  · exact .inl (.inl (e _ _ h))
  · exact .inl (.inr ⟨o, e _ _ h⟩)
  · exact .inr h
abbrev s_next_known : Stmt := topS 35
theorem sc_next_known : FnScope ["lines", "telling", "found", "line", "told"] ["lines", "telling"] (defScope s_next_known) := ⟨rfl, rfl, rfl, by decide +kernel, rfl, by decide +kernel, by decide +kernel⟩
theorem ok_next (D : Df K mg "next_known" s_next_known ["lines", "telling"]) (T : Txt mg) (C_read_beside : Cal P w K mg base "read_beside" 3 ["reference", "telling"] (spRead K)) :
    Cal P w K mg base "next_known" 4 ["lines", "telling"] (spNext K) := by
  refine D.cal sc_next_known (fun vs H Q E h => ?_) (fun f cdv A outer s H vs Q E hr h => ?_)
  · obtain ⟨_, _, _, _, rfl, _⟩ := h; rfl
  · obtain ⟨a, v, t, PL, rfl, hd, hg, hh, hl, hz, q⟩ := h
    have hu := Nat.lt_of_le_of_lt (Nat.add_le_add_left (show 1 ≤ 64 by decide) _) hr.units
    rcases hh with hh | ⟨kvs0, hh, hk0⟩
    · refine ⟨_, (pss_cons (ps_set (i := 2) sc_next_known.nd rfl (.inl rfl) pe_dnewK)
      (pss_cons (ps_for PassesOwn.never rfl (pi_list (pv 0)) (pg_name (i := 3) sc_next_known.nd rfl (.inl rfl)) (pss_cons (ps_set (i := 4) sc_next_known.nd rfl (.inl rfl) (pe_cal C_read_beside (hr.mono (by decide)) (pa_cons (pv 3) (pa_cons (pv 1) pa_nil))))
      (pss_one (ps_if (pt_cmpR op_notN (pv 4) pe_non (nomark _)) (pss_one (ps_dput hu (pv 2) (pv 4) pe_bl rfl)) pss_nil))))
      (pss_one (ps_ret (pv 2))))), ?_⟩
      intro p hp
      have hhp := sqL_same (same_new (o := .dK []) hp) hh
      have hdb := hd
      have hpb := hp
      refine ⟨_, rfl, a, rfl, ⟨_, hhp⟩, for_list (xs := PL.map lnV) (fun i σ H1 => Same H H1 ∧ ∃ (y1 y2 : Option V) (kvs : List (Key × V)) (P' : List (List Bool)), σ = [some (.ref a), some v, some (.ref p), y1, y2] ∧
          H1 p = some (.dK kvs) ∧ kvs.map (·.1) = P'.map kLn ∧ P'.Nodup ∧ (∀ x, x ∈ P' ↔ x ∈ img t (PL.take i)) ∧ P'.length ≤ i)
        ⟨same_new hp, none, none, [], [], rfl, upd_same, rfl, List.nodup_nil, fun x => by simp [img], Nat.zero_le _⟩ (fun i σ H1 _ h => sqL_same h.1 hh) ?_ ?_⟩
      · rintro i x σ H1 hx ⟨e1, y1, y2, kvs, P', rfl, g1, g2, g3, g4, g5⟩
        obtain ⟨l, hl0, rfl⟩ : ∃ l, PL[i]? = some l ∧ x = lnV l := by
          rw [List.getElem?_map] at hx
          cases hz : PL[i]? with
          | none => rw [hz] at hx; cases hx
          | some l => rw [hz] at hx; exact ⟨l, rfl, (Option.some.inj hx).symm⟩
        have htk : PL.take (i + 1) = PL.take i ++ [l] := by rw [List.take_succ, hl0]; rfl
        have hi : i < PL.length := (List.getElem?_eq_some_iff.mp hl0).1
        refine ⟨_, rfl, _, rfl, l, v, t, rfl, hdb.same e1, hg, Nat.le_trans (hl l (List.mem_of_getElem? hl0)) (by decide), fun H3 e3 => ?_⟩
        have e4 := e1.trans e3
        have g1' := e3 _ _ g1
        cases hrt : readTl l t with
        | none =>
          refine ⟨_, rfl, rfl, _, rfl, nF rfl ?_⟩
          refine ⟨e4, _, _, kvs, P', rfl, g1', g2, g3, fun x => ?_, by omega⟩
          rw [htk, img_snoc, g4, hrt]
          simp
        | some l' =>
          refine ⟨_, rfl, rfl, _, rfl, nT (fun z => nomatch z) ?_⟩
          obtain ⟨ks', k1, k2, k3, k4⟩ := put_keys l' (V.bl true) g2
          have hkl : kvs.length = P'.length := by simpa using congrArg List.length g2
          refine ⟨_, rfl, _, rfl, p, _, rfl, DPut.k (k := kLn l') g1' (szLt (by omega)), same_mut e4 hpb, _, _, _, ks', rfl, upd_same, k1, k2 g3, fun x => ?_, by omega⟩
          rw [k3, htk, img_snoc, g4, hrt]
          simp [eq_comm]
      · rintro σ H1 ⟨e1, y1, y2, kvs, P', rfl, g1, g2, g3, g4, g5⟩
        rw [List.length_map, List.take_length] at g4
        exact ⟨_, rfl, q H1 p kvs P' e1 hp g1 g2 g3 g4⟩
    · refine ⟨_, (pss_cons (ps_set (i := 2) sc_next_known.nd rfl (.inl rfl) pe_dnewK)
      (pss_cons (ps_lock (ps_for PassesOwn.never rfl (pi_keys (pv 0)) (pg_name (i := 3) sc_next_known.nd rfl (.inl rfl)) (pss_cons (ps_set (i := 4) sc_next_known.nd rfl (.inl rfl) (pe_cal C_read_beside (hr.mono (by decide)) (pa_cons (pv 3) (pa_cons (pv 1) pa_nil))))
      (pss_one (ps_if (pt_cmpR op_notN (pv 4) pe_non (nomark _)) (pss_one (ps_dput hu (pv 2) (pv 4) pe_bl rfl)) pss_nil)))))
      (pss_one (ps_ret (pv 2))))), ?_⟩
      intro p hp
      have hpa : p ≠ a := fun z => by rw [z, hh] at hp; cases hp
      have hap : (upd H p (.dK [])) a = some (.dK kvs0) := by rw [upd_ne (Ne.symm hpa)]; exact hh
      refine ⟨a, _, hap, True.intro, fun od => ?_⟩
      have hdb : TD K (upd H a (.frz od (.dK kvs0))) v t.data := hd.mono fun b ys z => sqT_lock hh b ys z
      have hpb : (upd H a (.frz od (.dK kvs0))) p = none := by rw [upd_ne hpa]; exact hp
      have e0 : Same (upd H a (.frz od (.dK kvs0))) (upd (upd H p (.dK [])) a (.frz od (.dK kvs0))) := fun b x hb => by
        by_cases c : b = a
        · subst c; rw [upd_same] at hb ⊢; exact hb
        · rw [upd_ne c] at hb ⊢
          rw [upd_ne (ne_of_none hb hp)]; exact hb
      have hkl0 : kvs0.length = PL.length := by simpa using congrArg List.length hk0
      refine ⟨_, rfl, a, od, rfl, .inl ⟨kvs0, upd_same, for_it (walk_keys (d := a) (o := od) (kvs := kvs0)) (fun i σ H1 => Same (upd H a (.frz od (.dK kvs0))) H1 ∧ ∃ (y1 y2 : Option V) (kvs : List (Key × V)) (P' : List (List Bool)), σ = [some (.ref a), some v, some (.ref p), y1, y2] ∧
          H1 p = some (.dK kvs) ∧ kvs.map (·.1) = P'.map kLn ∧ P'.Nodup ∧ (∀ x, x ∈ P' ↔ x ∈ img t (PL.take i)) ∧ P'.length ≤ i)
        ⟨e0, none, none, [], [], rfl, by rw [upd_ne hpa, upd_same], rfl, List.nodup_nil, fun x => by simp [img], Nat.zero_le _⟩ (fun i σ H1 _ h => h.1 _ _ upd_same) ?_ ?_⟩⟩
      · rintro i x σ H1 H2 hi ⟨e1, y1, y2, kvs, P', rfl, g1, g2, g3, g4, g5⟩ ⟨rfl, kk, vv, hkv, rfl⟩
        obtain ⟨l, hl0, rfl⟩ : ∃ l, PL[i]? = some l ∧ kk = kLn l := by
          have h1 : (kvs0.map (·.1))[i]? = some kk := by rw [List.getElem?_map, hkv]; rfl
          rw [hk0, List.getElem?_map] at h1
          cases hz : PL[i]? with
          | none => rw [hz] at h1; cases h1
          | some l => rw [hz] at h1; exact ⟨l, rfl, (Option.some.inj h1).symm⟩
        have htk : PL.take (i + 1) = PL.take i ++ [l] := by rw [List.take_succ, hl0]; rfl
        have hi : i < PL.length := (List.getElem?_eq_some_iff.mp hl0).1
        refine ⟨_, rfl, _, rfl, l, v, t, rfl, hdb.same e1, hg, Nat.le_trans (hl l (List.mem_of_getElem? hl0)) (by decide), fun H3 e3 => ?_⟩
        have e4 := e1.trans e3
        have g1' := e3 _ _ g1
        cases hrt : readTl l t with
        | none =>
          refine ⟨_, rfl, rfl, _, rfl, nF rfl ?_⟩
          refine ⟨e4, _, _, kvs, P', rfl, g1', g2, g3, fun x => ?_, by omega⟩
          rw [htk, img_snoc, g4, hrt]
          simp
        | some l' =>
          refine ⟨_, rfl, rfl, _, rfl, nT (fun z => nomatch z) ?_⟩
          obtain ⟨ks', k1, k2, k3, k4⟩ := put_keys l' (V.bl true) g2
          have hkl : kvs.length = P'.length := by simpa using congrArg List.length g2
          refine ⟨_, rfl, _, rfl, p, _, rfl, DPut.k (k := kLn l') g1' (szLt (by omega)), same_mut e4 hpb, _, _, _, ks', rfl, upd_same, k1, k2 g3, fun x => ?_, by omega⟩
          rw [k3, htk, img_snoc, g4, hrt]
          simp [eq_comm]
      · rintro σ H1 ⟨e1, y1, y2, kvs, P', rfl, g1, g2, g3, g4, g5⟩
        rw [hkl0, List.take_length] at g4
        refine ⟨e1 _ _ upd_same, _, rfl, q _ p kvs P' (same_unlock hh e1) hp ?_ g2 g3 g4⟩
        rw [upd_ne hpa]; exact g1
end
end Fx

set_option Elab.async false
set_option linter.all false
set_option maxRecDepth 100000
set_option maxHeartbeats 2000000
namespace Fx
open PySem PySem.Spec PyProof.Rows L2
section
variable {P : Program} {w : World} {K : PySem.W.Frag} {mg : Str → Option Value} {base : Heap}
local macro_rules | `(tactic| walk_at "rd") => `(tactic| repeat (first
  | refine ⟨_, rfl, ?_⟩ | refine ⟨_, _, rfl, rfl, ?_⟩ | refine ⟨rfl, ?_⟩ | refine iteT ?_ | refine iteF ?_
  | refine ⟨_, _, rfl, by assumption, ?_⟩ | refine ⟨_, _, rfl, .inr (by assumption), ?_⟩ | refine ⟨_, _, rfl, .inl (by assumption), ?_⟩
  | refine ⟨_, _, _, _, rfl, rfl, by assumption, by first | rfl | exact atI_nat (j := 0) rfl | exact atI_nat (j := 1) rfl | exact atI_nat (j := 2) rfl, ?_⟩
  | refine And.intro (by omega) ?_))
/-! ### known -/
theorem holds_same {H H' : Hp} (e : Same H H') {a : Addr} {Q : List (List Bool)} (h : Holds K H a Q) : Holds K H' a Q := by
  rcases h with h | ⟨kvs, h1, h2⟩
  · exact .inl (sqL_same e h)
  · exact .inr ⟨kvs, e _ _ h1, h2⟩
theorem take_snoc {α : Type} {xs : List α} {i : Nat} {x : α} (h : xs[i]? = some x) : xs.take (i + 1) = xs.take i ++ [x] := by rw [List.take_succ, h]; rfl
theorem none_of {H H' : Hp} {p : Addr} (e : Same H H') (h : H' p = none) : H p = none := by
  cases hz : H p with
  | none => rfl
  | some o => rw [e p o hz] at h; cases h
abbrev s_known : Stmt := topS 36
theorem sc_known : FnScope ["width", "tellings", "lines", "telling"] ["width", "tellings"] (defScope s_known) := ⟨rfl, rfl, rfl, by decide +kernel, rfl, by decide +kernel, by decide +kernel⟩
def spKnown (K : PySem.W.Frag) : Sp := fun vs H Q _ => ∃ (n : Nat) (v : V) (ts : List Tl), vs = [.int (n : Int), v] ∧ TD K H v (tsD ts) ∧ GoodTs n ts ∧
  ∀ H' p, Same H H' → H p = none → H' p = some (.tup ((canon n (knownL n ts)).map lnV)) → Q (.ref p) H'
theorem ok_known (D : Df K mg "known" s_known ["width", "tellings"]) (T : Txt mg) (C_need_late : Cal P w K mg base "need_late" 5 ["width", "tellings"] (spNeedL K))
    (C_lines_of_width : Cal P w K mg base "lines_of_width" 1 ["width"] spLines) (C_next_known : Cal P w K mg base "next_known" 4 ["lines", "telling"] (spNext K)) :
    Cal P w K mg base "known" 6 ["width", "tellings"] (spKnown K) := by
  refine D.cal sc_known (fun vs H Q E h => ?_) (fun f cdv A outer s H vs Q E hr h => ?_)
  · obtain ⟨_, _, _, rfl, _⟩ := h; rfl
  · obtain ⟨n, v, ts, rfl, hd, hg, q⟩ := h
    obtain ⟨a, xs, rfl, hq, hs⟩ := hd.tupI
    have hxl : xs.length = ts.length := by rw [hs.length, List.length_map]
    have hpow : 2 ^ n ≤ 1024 := Nat.le_trans (Nat.pow_le_pow_right (by decide) hg.hi) (by decide)
    by_cases hts : ts = []
    · subst hts
      refine ⟨_, (pss_cons (ps_expr (pe_cal C_need_late (hr.mono (by decide)) (pa_cons (pv 0) (pa_cons (pv 1) pa_nil))))
      (pss_cons (ps_set (i := 2) sc_known.nd rfl (.inl rfl) (pe_cal C_lines_of_width (hr.mono (by decide)) (pa_cons (pv 0) pa_nil)))
      (pss_cons (ps_for PassesOwn.never rfl (pi_tup (pv 1)) (pg_name (i := 3) sc_known.nd rfl (.inl rfl)) (pss_one (ps_set (i := 2) sc_known.nd rfl (.inl rfl) (pe_cal C_next_known (hr.mono (by decide)) (pa_cons (pv 2) (pa_cons (pv 3) pa_nil))))))
      (pss_one (ps_ret (pe_callTy call_tuple_of (by rfl) T.b_tuple (by decide +kernel) (pa_cons (pe_callB cr_sortedA (by rfl) T.b_sorted (by decide +kernel) (pa_cons (pe_callTy call_list_of (by rfl) T.b_list (by decide +kernel) (pa_cons (pv 2) pa_nil)) pa_nil)) pa_nil))))))), ?_⟩
      walk_at "rd"
      refine ⟨n, _, [], rfl, hd, hg, fun H1 e1 => ?_⟩
      refine ⟨_, rfl, n, rfl, hg.hi, fun H2 p e2 hp hl => ?_⟩
      have e3 := e1.trans e2
      have hx0 : xs = [] := List.eq_nil_of_length_eq_zero hxl
      subst hx0
      refine ⟨_, rfl, a, rfl, ⟨_, same_t e3 _ _ hq⟩, for_tup (xs := []) (fun i σ H1 => H1 = H2 ∧ σ = [some (.int (n : Int)), some (.ref a), some (.ref p), none]) ⟨rfl, rfl⟩ (fun i σ H1 _ h => h.1 ▸ same_t e3 _ _ hq) (fun i x σ H1 hx => by cases hx) ?_⟩
      rintro σ H3 ⟨rfl, rfl⟩
      refine ⟨_, rfl, p, _, rfl, .inl (sqL_of hl), fun q1 hq1 => ?_⟩
      refine ⟨q1, (rowsOf n).map ln, rfl, ?_, fun ys q2 h1 h2 hq2 => ?_⟩
      · rw [List.map_map]; exact sqL_new
      · refine ⟨q2, _, rfl, .inl ⟨sqL_new, fun q3 hq3 => ?_⟩⟩
        have s1 := e3.trans (same_new (o := .lst ((rowsOf n).map lnV)) hq1)
        have s2 := s1.trans (same_new (o := .lst (ys.map V.str)) hq2)
        refine q _ q3 (s2.trans (same_new hq3)) (none_of s2 hq3) ?_
        rw [upd_same, canon_unique (n := n) (P := rowsOf n) (h1.nodup_iff.mpr (nodup_ln (rowsOf_nodup n))) h2 (fun x => h1.mem_iff) (fun l hl => rowsOf_mem.mp hl), List.map_map]
        rfl
    · 
      refine ⟨_, (pss_cons (ps_expr (pe_cal C_need_late (hr.mono (by decide)) (pa_cons (pv 0) (pa_cons (pv 1) pa_nil))))
      (pss_cons (ps_set (i := 2) sc_known.nd rfl (.inl rfl) (pe_cal C_lines_of_width (hr.mono (by decide)) (pa_cons (pv 0) pa_nil)))
      (pss_cons (ps_for PassesOwn.never rfl (pi_tup (pv 1)) (pg_name (i := 3) sc_known.nd rfl (.inl rfl)) (pss_one (ps_set (i := 2) sc_known.nd rfl (.inl rfl) (pe_cal C_next_known (hr.mono (by decide)) (pa_cons (pv 2) (pa_cons (pv 3) pa_nil))))))
      (pss_one (ps_ret (pe_callTy call_tuple_of (by rfl) T.b_tuple (by decide +kernel) (pa_cons (pe_callB cr_sortedA (by rfl) T.b_sorted (by decide +kernel) (pa_cons (pe_callTy (call_listD rfl) (by rfl) T.b_list (by decide +kernel) (pa_cons (pv 2) pa_nil)) pa_nil)) pa_nil))))))), ?_⟩
      walk_at "rd"
      refine ⟨n, _, ts, rfl, hd, hg, fun H1 e1 => ?_⟩
      refine ⟨_, rfl, n, rfl, hg.hi, fun H2 p e2 hp hl => ?_⟩
      have e3 := e1.trans e2
      refine ⟨_, rfl, a, rfl, ⟨_, same_t e3 _ _ hq⟩, for_tup (xs := xs) (fun i σ H1 => Same H H1 ∧ ∃ (al : Addr) (y : Option V) (P' : List (List Bool)), σ = [some (.int (n : Int)), some (.ref a), some (.ref al), y] ∧
          (∀ l, l ∈ P' ↔ l ∈ knownL n (ts.take i)) ∧ P'.Nodup ∧ ((i = 0 ∧ H1 al = some (.lst (P'.map lnV))) ∨ (0 < i ∧ ∃ kvs : List (Key × V), H1 al = some (.dK kvs) ∧ kvs.map (·.1) = P'.map kLn)))
        ⟨e3, p, none, rowsOf n, rfl, fun l => Iff.rfl, rowsOf_nodup n, .inl ⟨rfl, hl⟩⟩ (fun i σ H1 _ h => same_t h.1 _ _ hq) ?_ ?_⟩
      · rintro i x σ H3 hx ⟨e4, al, y, P', rfl, g1, g2, g3⟩
        obtain ⟨d, hdi, htd⟩ := hs.getV hx
        obtain ⟨t, ht, rfl⟩ := tl_at hdi
        have hlen : ∀ l ∈ P', l.length = n := fun l hl => knownL_len _ l ((g1 l).mp hl)
        have hP := nodup_le g2 hlen
        refine ⟨_, rfl, _, rfl, al, x, t, P', rfl, htd.same e4, hg.good t (List.mem_of_getElem? ht), ?_, fun l hl => by rw [hlen l hl]; exact hg.hi, by omega, fun H4 p4 kvs P4 e5 hp4 k1 k2 k3 k4 => ?_⟩
        · rcases g3 with ⟨_, g3⟩ | ⟨_, kvs, g3, g4⟩
          · exact .inl (sqL_of g3)
          · exact .inr ⟨kvs, g3, g4⟩
        · refine ⟨e4.trans e5, p4, some x, P4, rfl, fun l => ?_, k3, .inr ⟨Nat.succ_pos _, kvs, k1, k2⟩⟩
          rw [k4, take_snoc ht, knownL_snoc]
          exact img_congr g1 l
      · rintro σ H3 ⟨e4, al, y, P', rfl, g1, g2, g3⟩
        have hlen : ∀ l ∈ P', l.length = n := fun l hl => knownL_len _ l ((g1 l).mp hl)
        rw [hxl, List.take_length] at g1
        rcases g3 with ⟨z, _⟩ | ⟨_, kvs, g3, g4⟩
        · exact absurd (List.eq_nil_of_length_eq_zero (hxl ▸ z)) hts
        have hkv : kvs.map (fun kv => kV kv.1) = (P'.map ln).map V.str := by
          have := congrArg (List.map kV) g4
          rw [List.map_map, List.map_map] at this
          rw [List.map_map]; exact this
        refine ⟨_, rfl, al, kvs, rfl, .inl g3, fun q1 hq1 => ?_⟩
        rw [hkv]
        refine ⟨q1, P'.map ln, rfl, sqL_new, fun ys q2 h1 h2 hq2 => ?_⟩
        refine ⟨q2, _, rfl, .inl ⟨sqL_new, fun q3 hq3 => ?_⟩⟩
        have s1 := e4.trans (same_new (o := .lst ((P'.map ln).map V.str)) hq1)
        have s2 := s1.trans (same_new (o := .lst (ys.map V.str)) hq2)
        refine q _ q3 (s2.trans (same_new hq3)) (none_of s2 hq3) ?_
        rw [upd_same, canon_unique (n := n) (P := P') (h1.nodup_iff.mpr (nodup_ln g2)) h2 (fun x => h1.mem_iff) hlen, canon_congr g1, List.map_map]
        rfl

/-! ### row_of -/
abbrev s_row_of : Stmt := topS 37
theorem sc_row_of : FnScope ["width", "lines", "some", "found", "place", "dots", "line"] ["width", "lines"] (defScope s_row_of) := ⟨rfl, rfl, rfl, by decide +kernel, rfl, by decide +kernel, by decide +kernel⟩
theorem ip_addS {X : Cx} : PIp X .Add (fun x y H Q => ∃ i j, x = .str i ∧ y = .str j ∧ i.length + j.length ≤ sizeLine ∧ Q (.str (i ++ j)) H) := by
  intro pins s σ H x y v u Q I rx ry h
  exact iop_add_str pins s σ H x y v u Q I rx ry h
theorem sure_of {P' ks : List (List Bool)} {k : Nat} (hne : P' ≠ []) (nd : ks.Nodup) (hm : ∀ x, x ∈ ks ↔ ∃ l ∈ P', x = [l.getD k false]) :
    (ks.length = 1 → ∀ l0 ∈ P', sureAt P' k = dot (l0.getD k false)) ∧ (ks.length ≠ 1 → sureAt P' k = 63) := by
  constructor
  · intro h1 l0 h0
    obtain ⟨x0, rfl⟩ := List.length_eq_one_iff.mp h1
    have e : ∀ l ∈ P', l.getD k false = l0.getD k false := fun l hl => by
      have z1 := (hm _).mpr ⟨l, hl, rfl⟩
      have z2 := (hm _).mpr ⟨l0, h0, rfl⟩
      rw [List.mem_singleton] at z1 z2
      rw [← z2] at z1
      injection z1
    cases hb : l0.getD k false with
    | true =>
      unfold sureAt
      rw [if_pos (List.all_eq_true.mpr fun l hl => by rw [e l hl, hb])]; rfl
    | false =>
      unfold sureAt
      rw [if_neg, if_pos (List.all_eq_true.mpr fun l hl => by rw [e l hl, hb]; rfl)]
      · rfl
      · intro z
        have := List.all_eq_true.mp z l0 h0
        rw [hb] at this; cases this
  · intro h1
    have key : ∀ b, ¬ ∀ l ∈ P', l.getD k false = b := fun b z => by
      apply h1
      have hall : ∀ x ∈ ks, x = [b] := fun x hx => by
        obtain ⟨l, hl, e⟩ := (hm x).mp hx
        rw [e, z l hl]
      obtain ⟨l, hl⟩ := List.exists_mem_of_ne_nil P' hne
      have hin : [b] ∈ ks := (hm _).mpr ⟨l, hl, by rw [z l hl]⟩
      match ks, nd, hall, hin with
      | [x], _, _, _ => rfl
      | x :: y :: r, nd, hall, _ =>
        exfalso
        have e1 := hall x (by simp)
        have e2 := hall y (by simp)
        rw [e1, e2] at nd
        simp at nd
    unfold sureAt
    rw [if_neg fun z => key true fun l hl => by simpa using List.all_eq_true.mp z l hl, if_neg fun z => key false fun l hl => by simpa using List.all_eq_true.mp z l hl]
theorem str_snoc (a : List Nat) (c : Nat) : (⟨a.toArray⟩ : Str) ++ ⟨#[c]⟩ = ⟨(a ++ [c]).toArray⟩ := by
  show Str.mk (a.toArray ++ #[c]) = _
  simp
theorem w_ask : ("?" : Str) = ⟨#[63]⟩ := by decide +kernel
theorem strOk_ln (l : List Bool) : PyData.strOk (ln l) = true := by
  unfold PyData.strOk ln
  simp only [List.all_toArray, List.all_map, List.all_eq_true]
  intro b _
  cases b <;> decide
theorem dpAll_lns {H : Hp} : ∀ L : List (List Bool), DpAll K H (L.map lnV) (L.map fun l => PyData.str (ln l))
  | [] => .nil
  | l :: L => .cons (.str _) (dpAll_lns L)
theorem shp_lns (L : List (List Bool)) : SeqAt.shaped (.list (L.map fun l => PyData.str (ln l))) = true := shaped_of (k := 1) (shp_lst fun d hd => by
  obtain ⟨l, _, rfl⟩ := List.mem_map.mp hd
  exact ⟨by simp only [PyData.canLay0]; exact strOk_ln l, Nat.zero_le _⟩)
def rowV : Option (List Nat) → V
  | none => .non
  | some r => .str ⟨r.toArray⟩
def spRow : Sp := fun vs H Q _ => ∃ (n : Nat) (a : Addr) (kvs : List (Key × V)) (P' : List (List Bool)), vs = [.int (n : Int), .ref a] ∧ H a = some (.dK kvs) ∧ kvs.map (·.1) = P'.map kLn ∧ (∀ l ∈ P', l.length = n) ∧ n ≤ 10 ∧ P'.length ≤ 5000 ∧
  ∀ H', Same H H' → Q (rowV (rowOf n P')) H'
theorem ok_row (D : Df K mg "row_of" s_row_of ["width", "lines"]) (T : Txt mg) : Cal P w K mg base "row_of" 1 ["width", "lines"] spRow := by
  refine D.cal sc_row_of (fun vs H Q E h => ?_) (fun f cdv A outer s H vs Q E hr h => ?_)
  · obtain ⟨_, _, _, _, rfl, _⟩ := h; rfl
  · obtain ⟨n, a, kvs, P', rfl, hh, hk, hl, hn, hz, q⟩ := h
    have hu := Nat.lt_of_le_of_lt (Nat.add_le_add_left (show 1 ≤ 64 by decide) _) hr.units
    refine ⟨_, (pss_cons (ps_set (i := 2) sc_row_of.nd rfl (.inl rfl) (pe_callTy (call_listD rfl) (by rfl) T.b_list (by decide +kernel) (pa_cons (pv 1) pa_nil)))
      (pss_cons (ps_if (pt_cmpR (op_eqNilL hr.units) (pv 2) (pe_lst pa_nil) (nomark _)) (pss_one (ps_ret pe_non)) pss_nil)
      (pss_cons (ps_set (i := 3) sc_row_of.nd rfl (.inl rfl) (pe_lnC w_empty))
      (pss_cons (ps_for PassesOwn.never rfl (pi_range1 (by rfl) T.b_range (pa_cons (pv 0) pa_nil)) (pg_name (i := 4) sc_row_of.nd rfl (.inr rfl)) (pss_cons (ps_setDc (i := 5) (own := [("line", 6)]) (g := (gName 6)) (tt := tYes) rfl sc_row_of.nd rfl rfl (sw_trueD rfl rfl rfl (by decide +kernel)) (pi_list (pv 2)) (blkOk_by (own := [("line", 6)]) (N := ["width", "lines", "some", "found", "place", "dots", "line"]) (sc := defScope s_row_of) (by decide +kernel)) (fun _ _ _ _ _ => (pg_name (i := 6) sc_row_of.nd rfl (.inl rfl))) (fun _ _ _ _ _ => pts_nil) (fun _ _ _ _ _ => (pe_ix ix_ln (pv 6) (pv 4) (fun _ _ => rfl))) (fun _ _ _ _ _ => pe_bl))
      (pss_one (ps_aug (i := 3) sc_row_of.nd rfl (.inl rfl) (pe_ifExp (pt_cmpR op_eq (pe_callB call_lenD (by rfl) T.b_len PySem.boot_len (pa_cons (pv 5) pa_nil)) pe_int (nomark _)) (pe_ix ix_ln (pe_ix ix_list (pv 2) pe_int (fun _ _ => rfl)) (pv 4) (fun _ _ => rfl)) (pe_txt T.unsure)) ip_addS))))
      (pss_one (ps_ret (pv 3))))))), ?_⟩
    have hkv : kvs.map (fun kv => kV kv.1) = P'.map lnV := by
      have := congrArg (List.map kV) hk
      rw [List.map_map, List.map_map] at this
      exact this
    refine ⟨_, rfl, a, kvs, rfl, .inl hh, fun p hp => ?_⟩
    rw [hkv]
    have s1 := same_new (o := .lst (P'.map lnV)) hp
    refine ⟨_, rfl, Nat.zero_le _, fun p2 hp2 => ?_⟩
    have s2 := s1.trans (same_new (o := .lst []) hp2)
    have hp' : (upd (upd H p (.lst (P'.map lnV))) p2 (.lst [])) p = some (.lst (P'.map lnV)) := by rw [upd_ne (ne_of_none upd_same hp2)]; exact upd_same
    refine ⟨p, p2, _, _, rfl, rfl, sqL_of hp', dpAll_lns P', upd_same, shp_lns P', _, rfl, d2 (fun h0 => ?_) (fun h0 => ?_)⟩
    · have e0 : P' = [] := by simpa using h0
      have := q _ s2
      rw [rowOf, if_pos e0] at this
      exact this
    · have e0 : P' ≠ [] := by simpa using h0
      have q2 : ∀ H', Same H H' → Q (.str ⟨((List.range n).map (sureAt P')).toArray⟩) H' := fun H' e => by
        have := q H' e
        rw [rowOf, if_neg e0] at this
        exact this
      obtain ⟨l0, hl0⟩ : ∃ l0, P'[0]? = some l0 := ⟨_, List.getElem?_eq_getElem (List.length_pos_iff.mpr e0)⟩
      refine ⟨_, rfl, _, rfl, by omega, by omega, for_range (lo := 0) (fun k σ H1 => Same H H1 ∧ H1 p = some (.lst (P'.map lnV)) ∧ ∃ y1 y2 y3 : Option V,
          σ = [some (.int (n : Int)), some (.ref a), some (.ref p), some (.str ⟨((List.range k).map (sureAt P')).toArray⟩), y1, y2, y3]) ⟨s2, hp', _, _, _, rfl⟩ ?_ ?_⟩
      · rintro k σ H1 hk0 ⟨e1, g1, y1, y2, y3, rfl⟩
        have hkn : k < n := by omega
        rw [show V.int (0 + (k : Int)) = V.int ((k : Nat) : Int) from congrArg V.int (by omega)]
        refine ⟨_, rfl, p, rfl, ⟨_, sqL_of g1⟩, fun d hd => ?_⟩
        have e2 := e1.trans (same_new (o := .dK []) hd)
        have hdn := none_of e1 hd
        have hpd : p ≠ d := ne_of_none g1 hd
        refine loop_it (walk_list (K := K) (a := p) (xs := P'.map lnV)) (fun j H2 => Same H H2 ∧ H2 p = some (.lst (P'.map lnV)) ∧ ∃ (kvs : List (Key × V)) (ks : List (List Bool)), H2 d = some (.dK kvs) ∧ kvs.map (·.1) = ks.map kLn ∧
            ks.Nodup ∧ (∀ x, x ∈ ks ↔ ∃ l ∈ P'.take j, x = [l.getD k false]) ∧ ks.length ≤ j)
          ⟨e2, by rw [upd_ne hpd]; exact g1, [], [], upd_same, rfl, List.nodup_nil, fun x => by simp, Nat.zero_le _⟩ (fun j H2 _ h => sqL_of h.2.1) ?_ ?_
        · rintro j x H2 H3 hj ⟨e3, g2, kvs, ks, g3, g4, g5, g6, g7⟩ ⟨rfl, hx⟩
          rw [List.length_map] at hj
          obtain ⟨l, hlj, rfl⟩ : ∃ l, P'[j]? = some l ∧ x = lnV l := by
            rw [List.getElem?_map] at hx
            cases hz : P'[j]? with
            | none => rw [hz] at hx; cases hx
            | some l => rw [hz] at hx; exact ⟨l, rfl, (Option.some.inj hx).symm⟩
          have hll := hl l (List.mem_of_getElem? hlj)
          obtain ⟨b, hb⟩ : ∃ b, l[k]? = some b := ⟨_, List.getElem?_eq_getElem (by omega)⟩
          have hbd : l.getD k false = b := by rw [List.getD_eq_getElem?_getD, hb]; rfl
          obtain ⟨ks', k1, k2, k3, k4⟩ := put_keys [b] (V.bl true) g4
          have hkl : kvs.length = ks.length := by simpa using congrArg List.length g4
          refine ⟨rfl, ?_⟩
          refine ⟨_, rfl, _, rfl, l, k, b, rfl, rfl, by omega, hb, kvs, kLn [b], rfl, g3, szLt (by omega), same_mut e3 hdn, by rw [upd_ne hpd]; exact g2, _, ks', upd_same, k1, k2 g5, fun x => ?_, by omega⟩
          rw [k3, take_snoc hlj, g6]
          constructor
          · rintro (⟨z, hz1, rfl⟩ | rfl)
            · exact ⟨z, List.mem_append_left _ hz1, rfl⟩
            · exact ⟨l, List.mem_append_right _ (List.mem_singleton.mpr rfl), by rw [hbd]⟩
          · rintro ⟨z, hz1, rfl⟩
            rcases List.mem_append.mp hz1 with hz1 | hz1
            · exact .inl ⟨z, hz1, rfl⟩
            · rw [List.mem_singleton.mp hz1, hbd]; exact .inr rfl
        · rintro H2 ⟨e3, g2, kvs, ks, g3, g4, g5, g6, g7⟩
          rw [List.length_map, List.take_length] at g6
          have hkl : kvs.length = ks.length := by simpa using congrArg List.length g4
          obtain ⟨su1, su2⟩ := sure_of e0 g5 g6
          have hll := hl l0 (List.mem_of_getElem? hl0)
          obtain ⟨b, hb⟩ : ∃ b, l0[k]? = some b := ⟨_, List.getElem?_eq_getElem (by omega)⟩
          have hbd : l0.getD k false = b := by rw [List.getD_eq_getElem?_getD, hb]; rfl
          have hnext : ∀ c, sureAt P' k = c → (⟨((List.range k).map (sureAt P')).toArray⟩ : Str) ++ ⟨#[c]⟩ = ⟨((List.range (k + 1)).map (sureAt P')).toArray⟩ := fun c hc => by
            rw [str_snoc, List.range_succ, List.map_append, ← hc]; rfl
          have hsz : ∀ c : Nat, (⟨((List.range k).map (sureAt P')).toArray⟩ : Str).length + (⟨#[c]⟩ : Str).length ≤ sizeLine := fun c => szOf (by simp [Str.length]; omega)
          refine ⟨_, rfl, _, rfl, d, kvs, rfl, g3, rfl, _, rfl, d2 (fun h1 => ?_) (fun h1 => ?_)⟩
          · have h1' : ks.length = 1 := by
              injection h1 with h1; omega
            refine ⟨_, rfl, p, _, 0, lnV l0, rfl, rfl, sqL_of g2, atI_nat (j := 0) (by rw [List.getElem?_map, hl0]; rfl), _, rfl, l0, k, b, rfl, rfl, by omega, hb, _, _, rfl, rfl, hsz (dot b), ?_⟩
            refine ⟨e3, g2, some (.int (k : Int)), some (.ref d), y3, ?_⟩
            rw [show ln [b] = ⟨#[dot b]⟩ from rfl, hnext (dot b) (by rw [su1 h1' l0 (List.mem_of_getElem? hl0), hbd])]
            rfl
          · have h1' : ks.length ≠ 1 := fun z => h1 (by rw [hkl, z]; rfl)
            refine ⟨_, _, rfl, rfl, by rw [w_ask]; exact hsz 63, ?_⟩
            refine ⟨e3, g2, some (.int (k : Int)), some (.ref d), y3, ?_⟩
            rw [w_ask, hnext 63 (su2 h1')]
            rfl
      · rintro σ H1 ⟨e1, g1, y1, y2, y3, rfl⟩
        exact ⟨_, rfl, q2 _ e1⟩
end
end Fx

set_option Elab.async false
set_option linter.all false
set_option maxRecDepth 100000
set_option maxHeartbeats 2000000
namespace Fx
open PySem PySem.Spec PyProof.Rows L2
section
variable {P : Program} {w : World} {K : PySem.W.Frag} {mg : Str → Option Value} {base : Heap}
local macro_rules | `(tactic| walk_at "rd") => `(tactic| repeat (first
  | refine ⟨_, rfl, ?_⟩ | refine ⟨_, _, rfl, rfl, ?_⟩ | refine ⟨rfl, ?_⟩ | refine iteT ?_ | refine iteF ?_
  | refine ⟨_, _, rfl, by assumption, ?_⟩ | refine ⟨_, _, rfl, .inr (by assumption), ?_⟩ | refine ⟨_, _, rfl, .inl (by assumption), ?_⟩
  | refine ⟨_, _, _, _, rfl, rfl, by assumption, by first | rfl | exact atI_nat (j := 0) rfl | exact atI_nat (j := 1) rfl | exact atI_nat (j := 2) rfl, ?_⟩
  | refine And.intro (by omega) ?_))
/-! ### rows_in -/
theorem rowsIn_congr {n : Nat} : ∀ (ts : List Tl) {P1 P2 : List (List Bool)}, (∀ l, l ∈ P1 ↔ l ∈ P2) → rowsIn n ts P1 = rowsIn n ts P2
  | [], _, _, _ => rfl
  | t :: ts, P1, P2, h => by
    have e := img_congr (t := t) h
    rw [rowsIn, rowsIn, rowOf_congr e]
    cases rowOf n (img t P2) with
    | none => rfl
    | some r => show _ :: _ = _ :: _; rw [rowsIn_congr ts e]
theorem rowOf_len {n : Nat} {P1 : List (List Bool)} {r : List Nat} (h : rowOf n P1 = some r) : r.length = n := by
  unfold rowOf at h
  split at h
  · cases h
  · rw [← Option.some.inj h]; simp
abbrev s_rows_in : Stmt := topS 38
theorem sc_rows_in : FnScope ["width", "tellings", "lines", "found", "telling"] ["width", "tellings"] (defScope s_rows_in) := ⟨rfl, rfl, rfl, by decide +kernel, rfl, by decide +kernel, by decide +kernel⟩
def spRows (K : PySem.W.Frag) : Sp := fun vs H Q _ => ∃ (n : Nat) (v : V) (ts : List Tl), vs = [.int (n : Int), v] ∧ TD K H v (tsD ts) ∧ GoodTs n ts ∧
  ∀ H' p, Same H H' → H p = none → H' p = some (.lst ((rowsIn n ts (rowsOf n)).map rowV)) → Q (.ref p) H'
theorem ok_rows (D : Df K mg "rows_in" s_rows_in ["width", "tellings"]) (T : Txt mg)
    (C_lines_of_width : Cal P w K mg base "lines_of_width" 1 ["width"] spLines) (C_next_known : Cal P w K mg base "next_known" 4 ["lines", "telling"] (spNext K)) (C_row_of : Cal P w K mg base "row_of" 1 ["width", "lines"] spRow) :
    Cal P w K mg base "rows_in" 5 ["width", "tellings"] (spRows K) := by
  refine D.cal sc_rows_in (fun vs H Q E h => ?_) (fun f cdv A outer s H vs Q E hr h => ?_)
  · obtain ⟨_, _, _, rfl, _⟩ := h; rfl
  · obtain ⟨n, v, ts, rfl, hd, hg, q⟩ := h
    obtain ⟨a, xs, rfl, hq, hs⟩ := hd.tupI
    have hxl : xs.length = ts.length := by rw [hs.length, List.length_map]
    have hpow : 2 ^ n ≤ 1024 := Nat.le_trans (Nat.pow_le_pow_right (by decide) hg.hi) (by decide)
    refine ⟨_, (pss_cons (ps_par (i := 2) (j := 3) (by rfl) sc_rows_in.nd rfl rfl (by decide) rfl rfl (pa_cons (pe_cal C_lines_of_width (hr.mono (by decide)) (pa_cons (pv 0) pa_nil)) (pa_cons (pe_lst pa_nil) pa_nil)) (by rfl))
      (pss_cons (ps_for PassesOwn.never rfl (pi_tup (pv 1)) (pg_name (i := 4) sc_rows_in.nd rfl (.inl rfl)) (pss_cons (ps_set (i := 2) sc_rows_in.nd rfl (.inl rfl) (pe_cal C_next_known (hr.mono (by decide)) (pa_cons (pv 2) (pa_cons (pv 4) pa_nil))))
      (pss_cons (ps_expr (pe_bm PySem.F.plainAttrs_list PySem.F.slot_list_append PySem.F.type_list_append mt_append (pv 3) (pa_cons (pe_cal C_row_of (hr.mono (by decide)) (pa_cons (pv 0) (pa_cons (pv 2) pa_nil))) pa_nil)))
      (pss_one (ps_if (pt_cmpR op_isN (pe_ix ix_list (pv 3) (pe_un un_neg pe_int) (fun _ _ => rfl)) pe_non (nomark _)) (pss_one (ps_ret (pv 3))) pss_nil)))))
      (pss_one (ps_ret (pv 3))))), ?_⟩
    refine ⟨_, rfl, n, rfl, hg.hi, fun H2 p e2 hp hl => ?_⟩
    refine ⟨Nat.zero_le _, fun pf hpf => ?_⟩
    have s2 := e2.trans (same_new (o := .lst []) hpf)
    have hpl : p ≠ pf := ne_of_none hl hpf
    refine ⟨_, _, rfl, ?_⟩
    refine ⟨_, rfl, a, rfl, ⟨_, same_t s2 _ _ hq⟩, for_tup (xs := xs) (fun i σ H1 => Same H H1 ∧ ∃ (al : Addr) (y : Option V) (P' : List (List Bool)) (done : List (Option (List Nat))),
        σ = [some (.int (n : Int)), some (.ref a), some (.ref al), some (.ref pf), y] ∧ al ≠ pf ∧ Holds K H1 al P' ∧ (∀ l ∈ P', l.length = n) ∧ P'.Nodup ∧
        H1 pf = some (.lst (done.map rowV)) ∧ rowsIn n ts (rowsOf n) = done ++ rowsIn n (ts.drop i) P' ∧ done.length = i)
      ⟨s2, p, none, rowsOf n, [], rfl, hpl, .inl (sqL_of (by rw [upd_ne hpl]; exact hl)), fun l hl => rowsOf_mem.mp hl, rowsOf_nodup n, upd_same, rfl, rfl⟩ (fun i σ H1 _ h => same_t h.1 _ _ hq) ?_ ?_⟩
    · rintro i x σ H3 hx ⟨e4, al, y, P', done, rfl, g0, g1, g2, g3, g4, g5, g6⟩
      obtain ⟨d, hdi, htd⟩ := hs.getV hx
      obtain ⟨t, ht, rfl⟩ := tl_at hdi
      have hil : i < ts.length := (List.getElem?_eq_some_iff.mp ht).1
      have hfew := hg.few
      have hP := nodup_le g3 g2
      have hdr : ts.drop i = t :: ts.drop (i + 1) := by
        obtain ⟨h1, h2⟩ := List.getElem?_eq_some_iff.mp ht
        rw [List.drop_eq_getElem_cons h1, h2]
      refine ⟨_, rfl, _, rfl, al, x, t, P', rfl, htd.same e4, hg.good t (List.mem_of_getElem? ht), g1, fun l hl => by rw [g2 l hl]; exact hg.hi, by omega, fun H4 p4 kvs P4 e5 hp4 k1 k2 k3 k4 => ?_⟩
      have e6 := e4.trans e5
      have hp4f : p4 ≠ pf := fun z => by rw [z, g4] at hp4; cases hp4
      have hl4 : ∀ l ∈ P4, l.length = n := fun l hl => img_len g2 l ((k4 l).mp hl)
      have hP4 := nodup_le k3 hl4
      have g5' := g5
      rw [hdr, rowsIn, ← rowOf_congr (w := n) k4] at g5'
      refine ⟨_, rfl, .inl ⟨rfl, _, sqL_of (e5 _ _ g4)⟩, _, rfl, _, rfl, n, p4, kvs, P4, rfl, k1, k2, hl4, hg.hi, by omega, fun H5 e7 => ?_⟩
      have e8 := e6.trans e7
      have hpfn : H pf = none := none_of e2 hpf
      refine ⟨pf, _, _, rfl, rfl, e7 _ _ (e5 _ _ g4), szLt (by rw [List.length_map, g6]; omega), ?_⟩
      have e9 := same_mut (o := .lst (done.map rowV ++ [rowV (rowOf n P4)])) e8 hpfn
      refine ⟨_, rfl, _, rfl, pf, _, -1, rowV (rowOf n P4), rfl, rfl, sqL_of upd_same, atI_last _ _, rfl, _, rfl, ?_⟩
      cases hrow : rowOf n P4 with
      | none =>
        rw [hrow] at g5'
        refine dT rfl ⟨_, rfl, q _ pf ?_ hpfn ?_⟩
        · rw [hrow] at e9; exact e9
        · rw [g5', upd_same, List.map_append]; rfl
      | some r =>
        rw [hrow] at g5'
        refine dF (fun z => nomatch z) ⟨?_, p4, some x, P4, done ++ [some r], rfl, hp4f, ?_, hl4, k3, ?_, ?_, by rw [List.length_append, g6]; rfl⟩
        · rw [hrow] at e9; exact e9
        · exact .inr ⟨kvs, by rw [upd_ne hp4f]; exact e7 _ _ k1, k2⟩
        · rw [upd_same, List.map_append]; rfl
        · rw [g5', rowsIn_congr _ k4, List.append_assoc]; rfl
    · rintro σ H3 ⟨e4, al, y, P', done, rfl, g0, g1, g2, g3, g4, g5, g6⟩
      rw [hxl, List.drop_length, rowsIn, List.append_nil] at g5
      exact ⟨_, rfl, q _ pf e4 (none_of e2 hpf) (by rw [g5]; exact g4)⟩

/-! ### sure_rows -/
abbrev s_sure_rows : Stmt := topS 39
theorem sc_sure_rows : FnScope ["width", "tellings"] ["width", "tellings"] (defScope s_sure_rows) := ⟨rfl, rfl, rfl, by decide +kernel, rfl, by decide +kernel, by decide +kernel⟩
def spSure (K : PySem.W.Frag) : Sp := fun vs H Q _ => ∃ (n : Nat) (v : V) (ts : List Tl), vs = [.int (n : Int), v] ∧ TD K H v (tsD ts) ∧ GoodTs n ts ∧
  ∀ H' p, Same H H' → H p = none → H' p = some (.tup ((rowsIn n ts (rowsOf n)).map rowV)) → Q (.ref p) H'
theorem ok_sure (D : Df K mg "sure_rows" s_sure_rows ["width", "tellings"]) (T : Txt mg) (C_need_late : Cal P w K mg base "need_late" 5 ["width", "tellings"] (spNeedL K))
    (C_rows_in : Cal P w K mg base "rows_in" 5 ["width", "tellings"] (spRows K)) : Cal P w K mg base "sure_rows" 6 ["width", "tellings"] (spSure K) := by
  refine D.cal sc_sure_rows (fun vs H Q E h => ?_) (fun f cdv A outer s H vs Q E hr h => ?_)
  · obtain ⟨_, _, _, rfl, _⟩ := h; rfl
  · obtain ⟨n, v, ts, rfl, hd, hg, q⟩ := h
    obtain ⟨a, xs, rfl, hq, hs⟩ := hd.tupI
    refine ⟨_, (pss_cons (ps_expr (pe_cal C_need_late (hr.mono (by decide)) (pa_cons (pv 0) (pa_cons (pv 1) pa_nil))))
      (pss_one (ps_ret (pe_callTy call_tuple_of (by rfl) T.b_tuple (by decide +kernel) (pa_cons (pe_cal C_rows_in (hr.mono (by decide)) (pa_cons (pv 0) (pa_cons (pv 1) pa_nil))) pa_nil))))), ?_⟩
    refine ⟨_, rfl, _, rfl, n, _, ts, rfl, hd, hg, fun H1 e1 => ?_⟩
    refine ⟨_, rfl, _, rfl, n, _, ts, rfl, hd.same e1, hg, fun H2 p e2 hp hl => ?_⟩
    exact ⟨p, _, rfl, .inl ⟨sqL_of hl, fun q1 hq1 => q _ q1 ((e1.trans e2).trans (same_new hq1)) (none_of (e1.trans e2) hq1) upd_same⟩⟩

/-! ### settled -/
theorem rowsIn_le {n : Nat} : ∀ (ts : List Tl) (P1 : List (List Bool)), (rowsIn n ts P1).length ≤ ts.length
  | [], _ => Nat.le_refl _
  | t :: ts, P1 => by
    rw [rowsIn]
    cases rowOf n (img t P1) with
    | none => simp
    | some r => show (_ :: _).length ≤ _; rw [List.length_cons, List.length_cons]; exact Nat.succ_le_succ (rowsIn_le ts _)
theorem rowsIn_codes {n : Nat} : ∀ (ts : List Tl) (P1 : List (List Bool)), ∀ r, some r ∈ rowsIn n ts P1 → ∀ c ∈ r, c < 0x110000
  | [], _, r, h => by cases h
  | t :: ts, P1, r, h => by
    rw [rowsIn] at h
    cases hro : rowOf n (img t P1) with
    | none => rw [hro] at h; simp at h
    | some r' =>
      rw [hro] at h
      rcases List.mem_cons.mp h with e | h
      · obtain rfl := Option.some.inj e
        intro c hc
        unfold rowOf at hro
        split at hro
        · cases hro
        · rw [← Option.some.inj hro] at hc
          obtain ⟨k, _, rfl⟩ := List.mem_map.mp hc
          unfold sureAt
          split
          · decide
          · split <;> decide
      · exact rowsIn_codes ts _ r h
theorem rowsIn_all {n : Nat} : ∀ (ts : List Tl) (P1 : List (List Bool)), (rowsIn n ts P1).getLast? ≠ some none → ∀ x ∈ rowsIn n ts P1, x ≠ none
  | [], _, _, x, hx => by cases hx
  | t :: ts, P1, h, x, hx => by
    rw [rowsIn] at h hx
    cases hro : rowOf n (img t P1) with
    | none => rw [hro] at h; exact absurd rfl h
    | some r =>
      rw [hro] at h hx
      rcases List.mem_cons.mp hx with e | hx
      · rw [e]; simp
      · refine rowsIn_all ts _ (fun z => h ?_) x hx
        show (_ :: _).getLast? = _
        rw [List.getLast?_cons, z]; rfl
def rowD : Option (List Nat) → PyData
  | none => .none
  | some r => .str ⟨r.toArray⟩
theorem dpAll_rows {H : Hp} : ∀ rows : List (Option (List Nat)), DpAll K H (rows.map rowV) (rows.map rowD)
  | [] => .nil
  | none :: rows => .cons .non (dpAll_rows rows)
  | some r :: rows => .cons (.str _) (dpAll_rows rows)
theorem shp_row {r : Option (List Nat)} (h : ∀ r', r = some r' → ∀ c ∈ r', c < 0x110000) : (rowD r).canLay0 = true ∧ (rowD r).depth ≤ 0 := by
  cases r with
  | none => exact ⟨rfl, Nat.le_refl _⟩
  | some r =>
    refine ⟨?_, Nat.le_refl _⟩
    simp only [rowD, PyData.canLay0, PyData.strOk]
    simpa using h r rfl
theorem shp_rows {rows : List (Option (List Nat))} (h : ∀ r, some r ∈ rows → ∀ c ∈ r, c < 0x110000) : SeqAt.shaped (.list (rows.map rowD)) = true := shaped_of (k := 1) (shp_lst fun d hd => by
  obtain ⟨r, hr, rfl⟩ := List.mem_map.mp hd
  exact shp_row fun r' e => h r' (e ▸ hr))
def isUns (rows : List (Option (List Nat))) (k : Nat) : Bool := match rows.getD k none with
  | some r => decide (63 ∈ r)
  | none => false
abbrev s_settled : Stmt := topS 40
theorem sc_settled : FnScope ["width", "tellings", "rows", "unsure", "first", "number", "row"] ["width", "tellings"] (defScope s_settled) := ⟨rfl, rfl, rfl, by decide +kernel, rfl, by decide +kernel, by decide +kernel⟩
def natO : Option Nat → V
  | none => .non
  | some k => .int (k : Int)
def spSettled (K : PySem.W.Frag) : Sp := fun vs H Q _ => ∃ (n : Nat) (v : V) (ts : List Tl), vs = [.int (n : Int), v] ∧ TD K H v (tsD ts) ∧ GoodTs n ts ∧
  ∀ H', Same H H' → Q (natO (settledOf (rowsIn n ts (rowsOf n)))) H'
theorem ok_settled (D : Df K mg "settled" s_settled ["width", "tellings"]) (T : Txt mg) (C_need_late : Cal P w K mg base "need_late" 5 ["width", "tellings"] (spNeedL K))
    (C_rows_in : Cal P w K mg base "rows_in" 5 ["width", "tellings"] (spRows K)) : Cal P w K mg base "settled" 6 ["width", "tellings"] (spSettled K) := by
  refine D.cal sc_settled (fun vs H Q E h => ?_) (fun f cdv A outer s H vs Q E hr h => ?_)
  · obtain ⟨_, _, _, rfl, _⟩ := h; rfl
  · obtain ⟨n, v, ts, rfl, hd, hg, q⟩ := h
    obtain ⟨a, xs, rfl, hq, hs⟩ := hd.tupI
    refine ⟨_, (pss_cons (ps_expr (pe_cal C_need_late (hr.mono (by decide)) (pa_cons (pv 0) (pa_cons (pv 1) pa_nil))))
      (pss_cons (ps_set (i := 2) sc_settled.nd rfl (.inl rfl) (pe_cal C_rows_in (hr.mono (by decide)) (pa_cons (pv 0) (pa_cons (pv 1) pa_nil))))
      (pss_cons (ps_if (PW.pt (pw_or (pt_cmpR (op_eqNilL hr.units) (pv 2) (pe_lst pa_nil) (nomark _)) (pw_or1 (pt_cmpR op_isN (pe_ix ix_list (pv 2) (pe_un un_neg pe_int) (fun _ _ => rfl)) pe_non (nomark _))))) (pss_one (ps_ret pe_non)) pss_nil)
      (pss_cons (ps_setLc (i := 3) (own := [("number", 5), ("row", 6)]) (g := (gTup K 2 (gCons (gName 5) (gCons (gName 6) gNil)))) rfl sc_settled.nd rfl rfl (sw_true rfl rfl rfl (by decide +kernel)) (pi_enum (by rfl) T.b_enumerate (pa_cons (pv 2) pa_nil)) (blkOk_by (own := [("number", 5), ("row", 6)]) (N := ["width", "tellings", "rows", "unsure", "first", "number", "row"]) (sc := defScope s_settled) (by decide +kernel)) (fun _ _ _ _ _ => (pg_tup rfl (pgs_cons (pg_name (i := 5) sc_settled.nd rfl (.inl rfl)) (pgs_cons (pg_name (i := 6) sc_settled.nd rfl (.inl rfl)) pgs_nil)))) (fun _ _ _ _ _ => pts_one (pt_cmpR op_in_sign (pe_txt T.unsure) (pv 6) (by rfl))) (fun _ _ _ _ _ => (pv 5)))
      (pss_cons (ps_set (i := 4) sc_settled.nd rfl (.inl rfl) (pe_ifExp (pt_cmpR (op_neNilL hr.units) (pv 3) (pe_lst pa_nil) (nomark _)) (pe_op op_add (pe_ix ix_list (pv 3) (pe_un un_neg pe_int) (fun _ _ => rfl)) pe_int) pe_int))
      (pss_one (ps_ret (pe_ifExp (pt_cmpR op_lt (pv 4) (pe_callB call_len_seq (by rfl) T.b_len PySem.boot_len (pa_cons (pv 2) pa_nil)) (nomark _)) (pv 4) pe_non)))))))), ?_⟩
    refine ⟨_, rfl, _, rfl, n, _, ts, rfl, hd, hg, fun H1 e1 => ?_⟩
    refine ⟨_, rfl, _, rfl, n, _, ts, rfl, hd.same e1, hg, fun H2 p e2 hp hl => ?_⟩
    have e3 := e1.trans e2
    have hzl : (rowsIn n ts (rowsOf n)).length ≤ 60 := Nat.le_trans (rowsIn_le ts _) hg.few
    have hcod := rowsIn_codes (n := n) ts (rowsOf n)
    have hall := rowsIn_all (n := n) ts (rowsOf n)
    generalize rowsIn n ts (rowsOf n) = rows at hl q hzl hcod hall
    refine ⟨_, rfl, Nat.zero_le _, fun p2 hp2 => ?_⟩
    have s4 := e3.trans (same_new (o := .lst []) hp2)
    have hl2 : (upd H2 p2 (.lst [])) p = some (.lst (rows.map rowV)) := by rw [upd_ne (ne_of_none hl hp2)]; exact hl
    refine ⟨p, p2, _, _, rfl, rfl, sqL_of hl2, dpAll_rows rows, upd_same, shp_rows hcod, _, rfl, d2 (fun h0 => ?_) (fun h0 => ?_)⟩
    · have h0' : rows = [] := by simpa using h0
      have q := q _ s4
      rw [settledOf, if_pos (.inl h0')] at q
      exact q
    · have h0' : rows ≠ [] := by simpa using h0
      obtain ⟨init, last, rfl⟩ : ∃ init last, rows = init ++ [last] := ⟨rows.dropLast, rows.getLast h0', (List.dropLast_concat_getLast h0').symm⟩
      have hlast : (init ++ [last]).getLast? = some last := by simp
      refine ⟨_, rfl, _, rfl, p, _, -1, rowV last, rfl, rfl, sqL_of hl2, by rw [List.map_append]; exact atI_last _ _, rfl, _, rfl, ?_⟩
      cases last with
      | none =>
        have q := q _ s4
        rw [settledOf, if_pos (.inr hlast)] at q
        exact dT rfl q
      | some rl =>
        have hall := hall (by rw [hlast]; simp)
        refine dF (fun z => nomatch z) ?_
        generalize hrows : init ++ [some rl] = rows at *
        have q : ∀ H', Same H H' → Q (natO (settledOf rows)) H' := q
        have hset : settledOf rows = (let first := match (unsure rows).getLast? with
            | some k => k + 1
            | none => 0
          if first < rows.length then some first else none) := by
          have hneg : ¬ (rows = [] ∨ rows.getLast? = some none) := by
            rintro (z | z)
            · exact h0' z
            · rw [hlast] at z; cases z
          rw [settledOf, if_neg hneg]; all_goals rfl
        rw [hset] at q
        refine ⟨_, rfl, p, _, rfl, sqL_of hl2, fun d hd5 => ?_⟩
        have e5 := s4.trans (same_new (o := .lst []) hd5)
        have hdn := none_of s4 hd5
        have hpd : p ≠ d := ne_of_none hl2 hd5
        refine loop_it (walk_enum (K := K) (a := p) (xs := rows.map rowV)) (fun j H3 => Same H H3 ∧ H3 p = some (.lst (rows.map rowV)) ∧ H3 d = some (.lst ((((List.range j).filter (isUns rows)).map fun (k : Nat) => (k : Int)).map V.int)))
          ⟨e5, by rw [upd_ne hpd]; exact hl2, upd_same⟩ (fun j H3 _ h => sqL_of h.2.1) ?_ ?_
        · rintro j x H3 H4 hj ⟨e6, g1, g2⟩ ⟨Tt, u1, u2, rfl, hT, rfl, z1, z2⟩
          rw [List.length_map] at hj
          obtain ⟨ro, hro⟩ : ∃ ro, rows[j]? = some ro := ⟨_, List.getElem?_eq_getElem hj⟩
          have z2' : (rows.map rowV)[j]? = some u2 := z2
          rw [List.getElem?_map, hro] at z2'
          obtain rfl := (Option.some.inj z2').symm
          obtain rfl := (Option.some.inj z1).symm
          cases ro with
          | none => exact absurd rfl (hall none (List.mem_of_getElem? hro))
          | some r =>
          have hun : isUns rows j = decide (63 ∈ r) := by
            unfold isUns
            rw [List.getD_eq_getElem?_getD, hro]; rfl
          have e7 := e6.trans (same_new (o := .tup [.int (j : Int), rowV (some r)]) hT)
          have g1' : (upd H3 Tt (.tup [.int (j : Int), rowV (some r)])) p = some (.lst (rows.map rowV)) := by rw [upd_ne (ne_of_none g1 hT)]; exact g1
          have g2' : (upd H3 Tt (.tup [.int (j : Int), rowV (some r)])) d = some (.lst ((((List.range j).filter (isUns rows)).map fun (k : Nat) => (k : Int)).map V.int)) := by rw [upd_ne (ne_of_none g2 hT)]; exact g2
          refine ⟨Tt, _, rfl, sqT_new, rfl, _, _, rfl, _, _, rfl, rfl, rfl, ?_⟩
          refine ⟨_, rfl, 63, ⟨r.toArray⟩, congrArg V.str w_ask, rfl, _, rfl, ?_⟩
          refine d2 (fun h1 => ?_) (fun h1 => ?_)
          · have hu1 : isUns rows j = true := by rw [hun]; simpa using h1
            refine ⟨_, rfl, _, g2', ?_, same_mut e7 hdn, by rw [upd_ne hpd]; exact g1', ?_⟩
            · rw [List.length_map, List.length_map]
              have := List.length_filter_le (isUns rows) (List.range j)
              rw [List.length_range] at this
              exact szLt (by omega)
            · rw [upd_same, List.range_succ, List.filter_append, List.map_append, List.map_append]
              simp [hu1]
          · have hu1 : isUns rows j = false := by rw [hun]; simpa using h1
            refine ⟨e7, g1', ?_⟩
            rw [g2', List.range_succ, List.filter_append]
            simp [hu1]
        · rintro H3 ⟨e6, g1, g2⟩
          rw [List.length_map] at g2
          have hus : (List.range rows.length).filter (isUns rows) = unsure rows := rfl
          rw [hus] at g2
          refine ⟨_, rfl, Nat.zero_le _, fun p3 hp3 => ?_⟩
          have e8 := e6.trans (same_new (o := .lst []) hp3)
          have g2' : (upd H3 p3 (.lst [])) d = _ := (upd_ne (ne_of_none g2 hp3)).trans g2
          have g1' : (upd H3 p3 (.lst [])) p = _ := (upd_ne (ne_of_none g1 hp3)).trans g1
          refine ⟨d, p3, _, _, rfl, rfl, sqL_of g2', dpAll_ints _, upd_same, shp_ints _, _, rfl, n2 (fun h1 => ?_) (fun h1 => ?_)⟩
          · have h1' : unsure rows ≠ [] := by simpa using h1
            obtain ⟨ui, ul, hul⟩ : ∃ ui ul, unsure rows = ui ++ [ul] := ⟨(unsure rows).dropLast, (unsure rows).getLast h1', (List.dropLast_concat_getLast h1').symm⟩
            rw [hul] at g2' q
            have hgl : (ui ++ [ul]).getLast? = some ul := by simp
            rw [hgl] at q
            refine ⟨_, rfl, _, rfl, d, _, -1, .int (ul : Int), rfl, rfl, sqL_of g2', by rw [List.map_append, List.map_append]; exact atI_last _ _, _, _, rfl, rfl, ?_⟩
            refine ⟨_, rfl, _, rfl, p, _, rfl, .inl (sqL_of g1'), _, _, rfl, rfl, _, rfl, d2 (fun h2 => ?_) (fun h2 => ?_)⟩
            · have q := q _ e8
              rw [List.length_map] at h2
              have h2' : ul + 1 < rows.length := by omega
              simp only [if_pos h2'] at q
              exact ⟨_, rfl, q⟩
            · have q := q _ e8
              rw [List.length_map] at h2
              have h2' : ¬ ul + 1 < rows.length := by omega
              simp only [if_neg h2'] at q
              exact q
          · have h1' : unsure rows = [] := by simpa using h1
            rw [h1'] at q
            refine ⟨_, rfl, _, rfl, p, _, rfl, .inl (sqL_of g1'), _, _, rfl, rfl, _, rfl, d2 (fun h2 => ?_) (fun h2 => ?_)⟩
            · have q := q _ e8
              rw [List.length_map] at h2
              have h2' : 0 < rows.length := by omega
              have q : Q (natO (if 0 < rows.length then some 0 else none)) _ := q
              rw [if_pos h2'] at q
              exact ⟨_, rfl, q⟩
            · exfalso
              rw [List.length_map] at h2
              have := List.length_pos_iff.mpr h0'
              omega
end
end Fx

set_option Elab.async false
set_option linter.all false
set_option maxRecDepth 100000
set_option maxHeartbeats 2000000
/-! The law's drawing machine: what stands, and what stays. -/
namespace Fx
open PySem PySem.Spec PyProof.Rows L2
def kC : Key := .inr "cells"
def kG : Key := .inr "great"
def kS : Key := .inr "spot"
theorem kCG : kC ≠ kG := by decide +kernel
theorem kCS : kC ≠ kS := by decide +kernel
theorem kGS : kG ≠ kS := by decide +kernel
def gK (c g : Addr) (k : Nat) : List (Key × V) := [(kC, .ref c), (kG, .ref g), (kS, .int (k : Int))]
section
variable {c g g' : Addr} {k k' : Nat}
theorem val_c : valV (gK c g k) kC = some (.ref c) := by simp [gK, valV]
theorem val_g : valV (gK c g k) kG = some (.ref g) := by simp [gK, valV, kCG]
theorem val_s : valV (gK c g k) kS = some (.int (k : Int)) := by simp [gK, valV, kCS, kGS]
theorem put_g : putK (gK c g k) kG (.ref g') = gK c g' k := by simp [gK, putK, kCG, kGS.symm]
theorem put_s : putK (gK c g k) kS (.int (k' : Int)) = gK c g k' := by simp [gK, putK, kCS, kGS]
end
/-- where it is -/
structure GS where
  c : Addr
  g : Addr
  cells : List Int
  gs : List Int
  k : Nat
structure Gen (H : Hp) (m : Addr) (S : GS) : Prop where
  hm : H m = some (.dK (gK S.c S.g S.k))
  hc : H S.c = some (.lst (S.cells.map V.int))
  hg : H S.g = some (.lst (S.gs.map V.int))
  ne : S.c ≠ S.g
/-- all but the machine's own stays as it was -/
structure Fr (m : Addr) (S S' : GS) (H H' : Hp) : Prop where
  st : ∀ b o, H b = some o → b ≠ m → b ≠ S.g → H' b = some o ∧ b ≠ S'.g
section
variable {H H1 H2 : Hp} {m : Addr} {S S1 S2 : GS}
theorem Gen.cm (G : Gen H m S) : S.c ≠ m := fun e => by
  have h1 := G.hc
  rw [e, G.hm] at h1
  cases h1
theorem Gen.gm (G : Gen H m S) : S.g ≠ m := fun e => by
  have h1 := G.hg
  rw [e, G.hm] at h1
  cases h1
theorem Gen.same (G : Gen H m S) (e : Same H H1) : Gen H1 m S := ⟨e _ _ G.hm, e _ _ G.hc, e _ _ G.hg, G.ne⟩
theorem Gen.mut (G : Gen H m S) {b : Addr} {o : HO} (h1 : b ≠ m) (h2 : b ≠ S.c) (h3 : b ≠ S.g) : Gen (upd H b o) m S :=
  ⟨by rw [upd_ne h1.symm]; exact G.hm, by rw [upd_ne h2.symm]; exact G.hc, by rw [upd_ne h3.symm]; exact G.hg, G.ne⟩
theorem Fr.refl (m : Addr) (S : GS) (H : Hp) : Fr m S S H H := ⟨fun b o h _ h2 => ⟨h, h2⟩⟩
theorem Fr.same (e : Same H H1) : Fr m S S H H1 := ⟨fun b o h _ h2 => ⟨e _ _ h, h2⟩⟩
theorem Fr.trans (a : Fr m S S1 H H1) (b : Fr m S1 S2 H1 H2) : Fr m S S2 H H2 := ⟨fun x o h h1 h2 =>
  let ⟨q1, q2⟩ := a.st x o h h1 h2
  b.st x o q1 h1 q2⟩
theorem Fr.same' (a : Fr m S S1 H H1) (e : Same H1 H2) : Fr m S S1 H H2 := a.trans (Fr.same e)
/-- a thing that H does not know may change -/
theorem Fr.mut (a : Fr m S S1 H H1) {p : Addr} {o : HO} (h : H p = none) : Fr m S S1 H (upd H1 p o) := ⟨fun x u hx h1 h2 => by
  rw [upd_ne (ne_of_none hx h)]
  exact a.st x u hx h1 h2⟩
theorem Fr.sqT {K : PySem.W.Frag} (a : Fr m S S1 H H1) (G : Gen H m S) {b : Addr} {xs : List V} (q : SqT K H b xs) : SqT K H1 b xs := by
  have key : ∀ u, H b = some u → (∀ z, u ≠ .dK z) → (∀ z, u ≠ .lst z) → H1 b = some u := fun u hu n1 n2 =>
    (a.st b u hu (fun e => by subst e; rw [G.hm] at hu; exact n1 _ (Option.some.inj hu).symm) (fun e => by subst e; rw [G.hg] at hu; exact n2 _ (Option.some.inj hu).symm)).1
  rcases q with (q | ⟨o, q⟩) | q
  · exact .inl (.inl (key _ q (fun _ z => nomatch z) fun _ z => nomatch z))
  · exact .inl (.inr ⟨o, key _ q (fun _ z => nomatch z) fun _ z => nomatch z⟩)
  · exact .inr q
theorem Fr.td {K : PySem.W.Frag} (a : Fr m S S1 H H1) (G : Gen H m S) {v : V} {d : PyData} (q : TD K H v d) : TD K H1 v d := q.mono fun _ _ z => a.sqT G z
theorem Fr.tds {K : PySem.W.Frag} (a : Fr m S S1 H H1) (G : Gen H m S) {v : List V} {d : List PyData} (q : TDs K H v d) : TDs K H1 v d := q.mono fun _ _ z => a.sqT G z
end
/-- it drew: it stands, all else stays, and it went on by at most n -/
structure Drew (m : Addr) (S S' : GS) (H H' : Hp) (n : Nat) : Prop where
  gen : Gen H' m S'
  fr : Fr m S S' H H'
  far : S'.k ≤ S.k + n
  few : S'.c = S.c
section
variable {H H1 H2 : Hp} {m : Addr} {S S1 S2 : GS} {n n1 n2 : Nat}
theorem Drew.refl (G : Gen H m S) : Drew m S S H H 0 := ⟨G, Fr.refl m S H, Nat.le_refl _, rfl⟩
theorem Drew.same (a : Drew m S S1 H H1 n) (e : Same H1 H2) : Drew m S S1 H H2 n := ⟨a.gen.same e, a.fr.same' e, a.far, a.few⟩
theorem Drew.trans (a : Drew m S S1 H H1 n1) (b : Drew m S1 S2 H1 H2 n2) : Drew m S S2 H H2 (n1 + n2) := ⟨b.gen, a.fr.trans b.fr, by have := a.far; have := b.far; omega, b.few.trans a.few⟩
theorem Drew.le (a : Drew m S S1 H H1 n1) (h : n1 ≤ n2) : Drew m S S1 H H1 n2 := ⟨a.gen, a.fr, by have := a.far; omega, a.few⟩
/-- a thing of one's own: it is none of the machine's -/
structure Own (m : Addr) (S : GS) (p : Addr) : Prop where
  nm : p ≠ m
  nc : p ≠ S.c
  ng : p ≠ S.g
theorem own_of (G : Gen H m S) {p : Addr} (h : H p = none) : Own m S p := ⟨fun e => (by rw [e, G.hm] at h; cases h), fun e => (by rw [e, G.hc] at h; cases h), fun e => (by rw [e, G.hg] at h; cases h)⟩
theorem Drew.own (a : Drew m S S1 H H1 n) {p : Addr} {o : HO} (w : Own m S p) (h : H p = some o) : Own m S1 p ∧ H1 p = some o :=
  let ⟨q1, q2⟩ := a.fr.st p o h w.nm w.ng
  ⟨⟨w.nm, by rw [a.few]; exact w.nc, q2⟩, q1⟩
theorem Drew.mut (a : Drew m S S1 H H1 n) {p : Addr} {o : HO} (h : H p = none) (w : Own m S1 p) : Drew m S S1 H (upd H1 p o) n :=
  ⟨a.gen.mut w.nm w.nc w.ng, a.fr.mut h, a.far, a.few⟩
end
end Fx

set_option Elab.async false
set_option linter.all false
set_option maxRecDepth 100000
set_option maxHeartbeats 2000000
namespace Fx
open PySem PySem.Spec PyProof.Rows L2
section
variable {P : Program} {w : World} {K : PySem.W.Frag} {mg : Str → Option Value} {base : Heap}
local macro_rules | `(tactic| walk_at "rd") => `(tactic| repeat (first
  | refine ⟨_, rfl, ?_⟩ | refine ⟨_, _, rfl, rfl, ?_⟩ | refine ⟨rfl, ?_⟩ | refine iteT ?_ | refine iteF ?_
  | refine ⟨_, _, rfl, by assumption, ?_⟩ | refine ⟨_, _, rfl, .inr (by assumption), ?_⟩ | refine ⟨_, _, rfl, .inl (by assumption), ?_⟩
  | refine ⟨_, _, _, _, rfl, rfl, by assumption, by first | rfl | exact atI_nat (j := 0) rfl | exact atI_nat (j := 1) rfl | exact atI_nat (j := 2) rfl, ?_⟩
  | refine And.intro (by omega) ?_))
/-! ### _law_next -/
abbrev s_law_next : Stmt := topS 43
theorem sc_law_next : FnScope ["_law_m", "_law_total", "_law_rest", "_law_k", "_law_cell", "_law_mixed"] ["_law_m", "_law_total"] (defScope s_law_next) := ⟨rfl, rfl, rfl, by decide +kernel, rfl, by decide +kernel, by decide +kernel⟩
theorem Gen.dg {H : Hp} {m : Addr} {S : GS} (G : Gen H m S) : DGet H m (.str "great") (some (.ref S.g)) := by
  have := DGet.k (k := kG) G.hm
  rw [val_g] at this; exact this
theorem Gen.dc {H : Hp} {m : Addr} {S : GS} (G : Gen H m S) : DGet H m (.str "cells") (some (.ref S.c)) := by
  have := DGet.k (k := kC) G.hm
  rw [val_c] at this; exact this
theorem Gen.ds {H : Hp} {m : Addr} {S : GS} (G : Gen H m S) : DGet H m (.str "spot") (some (.int (S.k : Int))) := by
  have := DGet.k (k := kS) G.hm
  rw [val_s] at this; exact this
theorem gK_len {c g : Addr} {k : Nat} : (gK c g k).length < sizeLine := szLt (show 3 < 100000 by decide)
/-- another list of the great ones -/
theorem Gen.putG {H : Hp} {m p : Addr} {S : GS} {gs : List Int} (G : Gen H m S) (h : H p = none) :
    Drew m S ⟨S.c, p, S.cells, gs, S.k⟩ H (upd (upd H p (.lst (gs.map V.int))) m (.dK (gK S.c p S.k))) 0 := by
  have hpm : p ≠ m := (ne_of_none G.hm h).symm
  have hpc : S.c ≠ p := ne_of_none G.hc h
  refine ⟨⟨upd_same, ?_, ?_, hpc⟩, ⟨fun b o hb h1 h2 => ?_⟩, Nat.le_refl _, rfl⟩
  · rw [upd_ne G.cm, upd_ne hpc]; exact G.hc
  · rw [upd_ne hpm]; exact upd_same
  · rw [upd_ne h1, upd_ne (ne_of_none hb h)]
    exact ⟨hb, ne_of_none hb h⟩
theorem Gen.setG {H : Hp} {m : Addr} {S : GS} {gs : List Int} (G : Gen H m S) : Drew m S ⟨S.c, S.g, S.cells, gs, S.k⟩ H (upd H S.g (.lst (gs.map V.int))) 0 :=
  ⟨⟨by rw [upd_ne G.gm.symm]; exact G.hm, by rw [upd_ne G.ne]; exact G.hc, upd_same, G.ne⟩, ⟨fun b o hb _ h2 => ⟨by rw [upd_ne h2]; exact hb, h2⟩⟩, Nat.le_refl _, rfl⟩
theorem Gen.putS {H : Hp} {m : Addr} {S : GS} (G : Gen H m S) (k : Nat) (hk : k ≤ S.k + 1) : Drew m S ⟨S.c, S.g, S.cells, S.gs, k⟩ H (upd H m (.dK (gK S.c S.g k))) 1 :=
  ⟨⟨upd_same, by rw [upd_ne G.cm]; exact G.hc, by rw [upd_ne G.gm]; exact G.hg, G.ne⟩, ⟨fun b o hb h1 h2 => ⟨by rw [upd_ne h1]; exact hb, h2⟩⟩, hk, rfl⟩
def spDraw : Sp := fun vs H Q _ => ∃ (m : Addr) (t : Nat) (S : GS), vs = [.ref m, .int (t : Int)] ∧ 0 < t ∧ t ≤ 100000 ∧ Gen H m S ∧ S.k ≤ 1000000 ∧
  ∀ (H' : Hp) (S' : GS) (r : Nat), Drew m S S' H H' 1 → r < t → Q (.int (r : Int)) H'
theorem ok_draw (D : Df K mg "_law_next" s_law_next ["_law_m", "_law_total"]) (T : Txt mg) : Cal P w K mg base "_law_next" 1 ["_law_m", "_law_total"] spDraw := by
  refine D.cal sc_law_next (fun vs H Q E h => ?_) (fun f cdv A outer s H vs Q E hr h => ?_)
  · obtain ⟨_, _, _, rfl, _⟩ := h; rfl
  · obtain ⟨m, t, S, rfl, ht, ht2, G, hk, q⟩ := h
    have hu := Nat.lt_of_le_of_lt (Nat.add_le_add_left (show 1 ≤ 64 by decide) _) hr.units
    refine ⟨_, (pss_cons (ps_while PassesOwn.never (PW.pt (pw_and (pt_cmpR (op_neNilL hr.units) (pe_dget hu (pv 0) pe_str (fun _ _ => rfl)) (pe_lst pa_nil) (nomark _)) (pw_and1 (pt_cmpR op_eq (pe_ix ix_list (pe_dget hu (pv 0) pe_str (fun _ _ => rfl)) pe_int (fun _ _ => rfl)) pe_int (nomark _))))) (pss_one (ps_dput hu (pv 0) pe_str (pe_slice sl_list (pe_dget hu (pv 0) pe_str (fun _ _ => rfl)) (po_some pe_int) po_none) rfl)))
      (pss_cons (ps_if (pt_cmpR (op_neNilL hr.units) (pe_dget hu (pv 0) pe_str (fun _ _ => rfl)) (pe_lst pa_nil) (nomark _)) (pss_cons (ps_set (i := 2) sc_law_next.nd rfl (.inl rfl) (pe_callTy call_int1 (by rfl) T.b_int (by decide +kernel) (pa_cons (pe_ix ix_list (pe_dget hu (pv 0) pe_str (fun _ _ => rfl)) pe_int (fun _ _ => rfl)) pa_nil)))
      (pss_cons (ps_asg (pe_op op_fdivN (pv 2) (pv 1)) (pg_sub (pe_dget hu (pv 0) pe_str (fun _ _ => rfl)) pe_int set_list))
      (pss_one (ps_ret (pe_op op_mod (pv 2) (pv 1)))))) pss_nil)
      (pss_cons (ps_set (i := 3) sc_law_next.nd rfl (.inl rfl) (pe_op op_add (pe_dget hu (pv 0) pe_str (fun _ _ => rfl)) pe_int))
      (pss_cons (ps_dput hu (pv 0) pe_str (pv 3) rfl)
      (pss_cons (ps_set (i := 4) sc_law_next.nd rfl (.inl rfl) (pe_ifExp (pt_cmpR (op_neNilL hr.units) (pe_dget hu (pv 0) pe_str (fun _ _ => rfl)) (pe_lst pa_nil) (nomark _)) (pe_ix ix_list (pe_dget hu (pv 0) pe_str (fun _ _ => rfl)) (pe_op op_mod (pe_callTy call_int1 (by rfl) T.b_int (by decide +kernel) (pa_cons (pv 3) pa_nil)) (pe_callB call_len_seq (by rfl) T.b_len PySem.boot_len (pa_cons (pe_dget hu (pv 0) pe_str (fun _ _ => rfl)) pa_nil))) (fun _ _ => rfl)) pe_int))
      (pss_cons (ps_set (i := 5) sc_law_next.nd rfl (.inl rfl) (pe_op op_mul (pe_callTy call_int1 (by rfl) T.b_int (by decide +kernel) (pa_cons (pe_op op_add (pe_op op_add (pe_op op_mod (pe_callTy call_int1 (by rfl) T.b_int (by decide +kernel) (pa_cons (pv 4) pa_nil)) pe_int) (pe_op op_mul pe_int (pv 3))) (pe_op op_mul (pe_op op_mul pe_int (pv 3)) (pv 3))) pa_nil)) pe_int))
      (pss_cons (ps_set (i := 5) sc_law_next.nd rfl (.inl rfl) (pe_op op_mul (pe_callTy call_int1 (by rfl) T.b_int (by decide +kernel) (pa_cons (pe_op op_add (pe_op op_mod (pe_callTy call_int1 (by rfl) T.b_int (by decide +kernel) (pa_cons (pv 5) pa_nil)) pe_int) (pe_op op_mul pe_int (pv 3))) pa_nil)) pe_int))
      (pss_one (ps_ret (pe_op op_mod (pe_callTy call_int1 (by rfl) T.b_int (by decide +kernel) (pa_cons (pe_op op_fdivN (pe_op op_mod (pe_callTy call_int1 (by rfl) T.b_int (by decide +kernel) (pa_cons (pv 5) pa_nil)) pe_int) pe_int) pa_nil)) (pv 1))))))))))), ?_⟩
    have g0 : Drew m S S H H 0 := Drew.refl G
    have tl : (⟨fun (n : Nat) (σ : L2.St) (H1 : Hp) => ∃ S1, Drew m S S1 H H1 0 ∧ S1.gs.length = n ∧ σ = [some (.ref m), some (.int (t : Int)), none, none, none, none]⟩ : PLift (Nat → L2.St → Hp → Prop)).down S.gs.length (start ["_law_m", "_law_total", "_law_rest", "_law_k", "_law_cell", "_law_mixed"] [.ref m, .int (t : Int)]) H := ⟨S, g0, rfl, rfl⟩
    refine ⟨fun (n : Nat) (σ : L2.St) (H1 : Hp) => ∃ S1, Drew m S S1 H H1 0 ∧ S1.gs.length = n ∧ σ = [some (.ref m), some (.int (t : Int)), none, none, none, none], ⟨_, tl⟩, ?_⟩
    clear tl
    rintro n σ H1 ⟨S1, d1, rfl, rfl⟩
    refine ⟨_, rfl, m, _, rfl, d1.gen.dg, Nat.zero_le _, fun p hp => ?_⟩
    have s2 := same_new (o := .lst []) hp
    have d2' := d1.same s2
    refine ⟨S1.g, p, _, _, rfl, rfl, sqL_of d2'.gen.hg, dpAll_ints _, upd_same, shp_ints _, _, rfl, n2 (fun h1 => ?_) (fun h1 => ?_)⟩
    · obtain ⟨g1, gr, hgs⟩ : ∃ g1 gr, S1.gs = g1 :: gr := by
        cases hz : S1.gs with
        | nil => rw [hz] at h1; exact absurd rfl h1
        | cons a b => exact ⟨a, b, rfl⟩
      refine ⟨_, rfl, m, _, rfl, d2'.gen.dg, S1.g, _, 0, .int g1, rfl, rfl, sqL_of d2'.gen.hg, atI_nat (j := 0) (by rw [hgs]; rfl), rfl, _, rfl, ?_⟩
      refine d2 (fun h2 => ⟨_, fun _ _ h => h, ?_⟩) (fun h2 => ?_)
      · refine ⟨_, rfl, m, _, rfl, d2'.gen.dg, _, rfl, S1.g, _, rfl, sqL_of d2'.gen.hg, fun p3 hp3 => ?_⟩
        rw [cut1, hgs, ← List.map_drop]
        have hk3 := d2'.gen.putG (gs := gr) hp3
        refine ⟨_, rfl, m, _, rfl, DPut.k (k := kG) (by rw [upd_ne (ne_of_none d2'.gen.hm hp3)]; exact d2'.gen.hm) gK_len, ?_⟩
        rw [put_g]
        exact ⟨gr.length, by simp, _, d2'.trans hk3, rfl, rfl⟩
      · refine ⟨_, rfl, m, _, rfl, d2'.gen.dg, Nat.zero_le _, fun p4 hp4 => ?_⟩
        have d4 := d2'.same (same_new (o := .lst []) hp4)
        refine ⟨S1.g, p4, _, _, rfl, rfl, sqL_of d4.gen.hg, dpAll_ints _, upd_same, shp_ints _, _, rfl, nT h1 ?_⟩
        refine ⟨_, rfl, m, _, rfl, d4.gen.dg, S1.g, _, 0, .int g1, rfl, rfl, sqL_of d4.gen.hg, atI_nat (j := 0) (by rw [hgs]; rfl), ?_⟩
        refine .inl ⟨_, rfl, ?_⟩
        refine ⟨_, rfl, _, rfl, _, _, rfl, rfl, ⟨by omega, by omega⟩, ?_⟩
        have hset : (S1.gs.map V.int).set 0 (.int (g1.fdiv (t : Int))) = (g1.fdiv (t : Int) :: gr).map V.int := by rw [hgs]; rfl
        refine ⟨_, rfl, m, _, rfl, d4.gen.dg, S1.g, _, 0, 0, rfl, rfl, d4.gen.hg, ?_, ?_⟩
        · rw [hgs]; simp [ixN]
        rw [hset]
        have d5 := d4.trans (d4.gen.setG (gs := g1.fdiv (t : Int) :: gr))
        refine ⟨_, rfl, _, rfl, _, _, rfl, rfl, (show (0 : Int) < (t : Int) by omega), ?_⟩
        have hmod : ((g1 % (t : Int)).toNat : Int) = g1 % (t : Int) := Int.toNat_of_nonneg (Int.emod_nonneg _ (by omega))
        have hlt : g1 % (t : Int) < (t : Int) := Int.emod_lt_of_pos _ (by omega)
        have q := q _ _ (g1 % (t : Int)).toNat (d5.le (by decide)) (by omega)
        rw [hmod] at q
        exact q
    · have hgs : S1.gs = [] := by simpa using h1
      refine ⟨_, rfl, m, _, rfl, d2'.gen.dg, Nat.zero_le _, fun p4 hp4 => ?_⟩
      have d4 := d2'.same (same_new (o := .lst []) hp4)
      refine ⟨S1.g, p4, _, _, rfl, rfl, sqL_of d4.gen.hg, dpAll_ints _, upd_same, shp_ints _, _, rfl, nF h1 ?_⟩
      refine ⟨_, rfl, m, _, rfl, d4.gen.ds, _, _, rfl, rfl, ?_⟩
      have hk1 : S1.k ≤ S.k := d1.far
      have d5 := d4.trans (d4.gen.putS (S1.k + 1) (Nat.le_refl _))
      refine ⟨_, rfl, _, rfl, m, _, rfl, DPut.k (k := kS) (v := .int ((S1.k + 1 : Nat) : Int)) d4.gen.hm gK_len, ?_⟩
      rw [put_s]
      refine ⟨_, rfl, m, _, rfl, d5.gen.dc, Nat.zero_le _, fun p6 hp6 => ?_⟩
      have d6 := d5.same (same_new (o := .lst []) hp6)
      have hkb : -(2 ^ 64) < (S1.k : Int) + 1 ∧ (S1.k : Int) + 1 < 2 ^ 64 := by omega
      have q : ∀ i : Int, Q (.int (i % (t : Int))) _ := fun i => by
        have hmod : ((i % (t : Int)).toNat : Int) = i % (t : Int) := Int.toNat_of_nonneg (Int.emod_nonneg _ (by omega))
        have hlt : i % (t : Int) < (t : Int) := Int.emod_lt_of_pos _ (by omega)
        have q := q _ _ (i % (t : Int)).toNat d6 (by omega)
        rw [hmod] at q
        exact q
      refine ⟨S1.c, p6, _, _, rfl, rfl, sqL_of d6.gen.hc, dpAll_ints _, upd_same, shp_ints _, _, rfl, n2 (fun h1 => ?_) (fun h1 => ?_)⟩
      · have h1' : S1.cells ≠ [] := by simpa using h1
        have hlp := List.length_pos_iff.mpr h1'
        obtain ⟨cv, hcv⟩ : ∃ cv, atI (S1.cells.map V.int) (((S1.k : Int) + 1) % ((S1.cells.map V.int).length : Int)) = some (.int cv) := by
          rw [List.length_map, show ((S1.k : Int) + 1) % (S1.cells.length : Int) = (((S1.k + 1) % S1.cells.length : Nat) : Int) from rfl]
          have hlt := Nat.mod_lt (S1.k + 1) hlp
          exact ⟨S1.cells[(S1.k + 1) % S1.cells.length], atI_nat (by rw [List.getElem?_map, List.getElem?_eq_getElem hlt]; rfl)⟩
        refine ⟨_, rfl, m, _, rfl, d6.gen.dc, _, rfl, .inl ⟨_, rfl, _, rfl, m, _, rfl, d6.gen.dc, S1.c, _, rfl, .inl (sqL_of d6.gen.hc), _, _, rfl, rfl, ?_, S1.c, _, _, .int cv, rfl, rfl, sqL_of d6.gen.hc, hcv, ?_⟩⟩
        · show (0 : Int) < ((S1.cells.map V.int).length : Int)
          rw [List.length_map]; omega
        refine ⟨_, rfl, .inl ⟨_, rfl, _, _, rfl, rfl, (show (0 : Int) < 2147483563 by decide), _, rfl, _, _, rfl, rfl, .inl (by decide), _, _, rfl, rfl, _, rfl, _, _, rfl, rfl, .inl (by decide), _, rfl, _, _, rfl, rfl, .inr hkb, _, _, rfl, rfl,
          .inl ⟨_, rfl, _, _, rfl, rfl, .inr (by decide), ?_⟩⟩⟩
        refine ⟨_, rfl, .inl ⟨_, rfl, _, _, rfl, rfl, (show (0 : Int) < 2147483563 by decide), _, rfl, _, _, rfl, rfl, .inl (by decide), _, _, rfl, rfl, .inl ⟨_, rfl, _, _, rfl, rfl, .inr (by decide), ?_⟩⟩⟩
        refine ⟨_, rfl, .inl ⟨_, rfl, _, _, rfl, rfl, (show (0 : Int) < 2147483549 by decide), _, _, rfl, rfl, ⟨by decide, by decide⟩, .inl ⟨_, rfl, _, rfl, _, _, rfl, rfl, (show (0 : Int) < (t : Int) by omega), q _⟩⟩⟩
      · refine ⟨_, rfl, .inl ⟨_, rfl, _, _, rfl, rfl, (show (0 : Int) < 2147483563 by decide), _, rfl, _, _, rfl, rfl, .inl (by decide), _, _, rfl, rfl, _, rfl, _, _, rfl, rfl, .inl (by decide), _, rfl, _, _, rfl, rfl, .inr hkb, _, _, rfl, rfl,
          .inl ⟨_, rfl, _, _, rfl, rfl, .inr (by decide), ?_⟩⟩⟩
        refine ⟨_, rfl, .inl ⟨_, rfl, _, _, rfl, rfl, (show (0 : Int) < 2147483563 by decide), _, rfl, _, _, rfl, rfl, .inl (by decide), _, _, rfl, rfl, .inl ⟨_, rfl, _, _, rfl, rfl, .inr (by decide), ?_⟩⟩⟩
        refine ⟨_, rfl, .inl ⟨_, rfl, _, _, rfl, rfl, (show (0 : Int) < 2147483549 by decide), _, _, rfl, rfl, ⟨by decide, by decide⟩, .inl ⟨_, rfl, _, rfl, _, _, rfl, rfl, (show (0 : Int) < (t : Int) by omega), q _⟩⟩⟩
end
end Fx

set_option Elab.async false
set_option linter.all false
set_option maxRecDepth 100000
set_option maxHeartbeats 2000000
namespace Fx
open PySem PySem.Spec PyProof.Rows L2
section
variable {P : Program} {w : World} {K : PySem.W.Frag} {mg : Str → Option Value} {base : Heap}
local macro_rules | `(tactic| walk_at "rd") => `(tactic| repeat (first
  | refine ⟨_, rfl, ?_⟩ | refine ⟨_, _, rfl, rfl, ?_⟩ | refine ⟨rfl, ?_⟩ | refine iteT ?_ | refine iteF ?_
  | refine ⟨_, _, rfl, by assumption, ?_⟩ | refine ⟨_, _, rfl, .inr (by assumption), ?_⟩ | refine ⟨_, _, rfl, .inl (by assumption), ?_⟩
  | refine ⟨_, _, _, _, rfl, rfl, by assumption, by first | rfl | exact atI_nat (j := 0) rfl | exact atI_nat (j := 1) rfl | exact atI_nat (j := 2) rfl, ?_⟩
  | refine And.intro (by omega) ?_))
/-! ### _law_of -/
abbrev s_law_of : Stmt := topS 44
theorem sc_law_of : FnScope ["_law_m", "_law_some"] ["_law_m", "_law_some"] (defScope s_law_of) := ⟨rfl, rfl, rfl, by decide +kernel, rfl, by decide +kernel, by decide +kernel⟩
def spOf (K : PySem.W.Frag) : Sp := fun vs H Q _ => ∃ (m : Addr) (v : V) (S : GS), vs = [.ref m, v] ∧ Gen H m S ∧ S.k ≤ 1000000 ∧
  ((∃ l : List Bool, v = .str (ln l) ∧ 0 < l.length ∧ l.length ≤ 1000 ∧ ∀ (H' : Hp) (S' : GS) (b : Bool), Drew m S S' H H' 1 → b ∈ l → Q (.str (ln [b])) H') ∨
   (∃ (a : Addr) (xs : List V), v = .ref a ∧ H a = some (.lst xs) ∧ Own m S a ∧ 0 < xs.length ∧ xs.length ≤ 1000 ∧ ∀ (H' : Hp) (S' : GS) (x : V), Drew m S S' H H' 1 → x ∈ xs → Q x H'))
theorem ok_of (D : Df K mg "_law_of" s_law_of ["_law_m", "_law_some"]) (T : Txt mg) (C_law_next : Cal P w K mg base "_law_next" 1 ["_law_m", "_law_total"] spDraw) : Cal P w K mg base "_law_of" 2 ["_law_m", "_law_some"] (spOf K) := by
  refine D.cal sc_law_of (fun vs H Q E h => ?_) (fun f cdv A outer s H vs Q E hr h => ?_)
  · obtain ⟨_, _, _, rfl, _⟩ := h; rfl
  · obtain ⟨m, v, S, rfl, G, hk, h⟩ := h
    rcases h with ⟨l, rfl, h0, h1, q⟩ | ⟨a, xs, rfl, ha, hw, h0, h1, q⟩
    · refine ⟨_, (pss_one (ps_ret (pe_ix ix_ln (pv 1) (pe_cal C_law_next (hr.mono (by decide)) (pa_cons (pv 0) (pa_cons (pe_callB call_lenLn (by rfl) T.b_len PySem.boot_len (pa_cons (pv 1) pa_nil)) pa_nil))) (fun _ _ => rfl)))), ?_⟩
      refine ⟨_, rfl, _, rfl, _, rfl, l, rfl, h1, ?_⟩
      refine ⟨m, l.length, S, rfl, h0, by omega, G, hk, fun H' S' r dr hrl => ?_⟩
      obtain ⟨b, hb⟩ : ∃ b, l[r]? = some b := ⟨_, List.getElem?_eq_getElem hrl⟩
      exact ⟨l, r, b, rfl, rfl, h1, hb, q _ _ b dr (List.mem_of_getElem? hb)⟩
    · 
      refine ⟨_, (pss_one (ps_ret (pe_ix ix_list (pv 1) (pe_cal C_law_next (hr.mono (by decide)) (pa_cons (pv 0) (pa_cons (pe_callB call_len_seq (by rfl) T.b_len PySem.boot_len (pa_cons (pv 1) pa_nil)) pa_nil))) (fun _ _ => rfl)))), ?_⟩
      refine ⟨_, rfl, _, rfl, _, rfl, a, xs, rfl, .inl (sqL_of ha), ?_⟩
      refine ⟨m, xs.length, S, rfl, h0, by omega, G, hk, fun H' S' r dr hrl => ?_⟩
      obtain ⟨b, hb⟩ : ∃ b, xs[r]? = some b := ⟨_, List.getElem?_eq_getElem hrl⟩
      exact ⟨a, xs, r, b, rfl, rfl, sqL_of (dr.own hw ha).2, atI_nat hb, q _ _ b dr (List.mem_of_getElem? hb)⟩

/-! ### _law_other -/
abbrev s_law_other : Stmt := topS 48
theorem sc_law_other : FnScope ["_law_dot"] ["_law_dot"] (defScope s_law_other) := ⟨rfl, rfl, rfl, by decide +kernel, rfl, by decide +kernel, by decide +kernel⟩
theorem ok_lother (D : Df K mg "_law_other" s_law_other ["_law_dot"]) (T : Txt mg) : Cal P w K mg base "_law_other" 1 ["_law_dot"] spOther := by
  refine D.cal sc_law_other (fun vs H Q E h => ?_) (fun f cdv A outer s H vs Q E hr h => ?_)
  · obtain ⟨c, rfl, _⟩ := h; rfl
  · obtain ⟨c, rfl, q⟩ := h
    refine ⟨_, (pss_one (ps_ret (pe_ifExp (pt_cmpR op_eqLn (pv 0) (pe_lnC w_white) (nomark _)) (pe_lnC w_black) (pe_lnC w_white)))), ?_⟩
    walk_at "rd"
    cases c
    · exact dT rfl q
    · exact dF (by decide) q

/-! ### _law_row -/
abbrev s_law_row : Stmt := topS 45
theorem sc_law_row : FnScope ["_law_m", "_law_wide", "_law_found", "_law_dot"] ["_law_m", "_law_wide"] (defScope s_law_row) := ⟨rfl, rfl, rfl, by decide +kernel, rfl, by decide +kernel, by decide +kernel⟩
def spLRow : Sp := fun vs H Q _ => ∃ (m : Addr) (n : Nat) (S : GS), vs = [.ref m, .int (n : Int)] ∧ n ≤ 6 ∧ Gen H m S ∧ S.k ≤ 900000 ∧
  ∀ (H' : Hp) (S' : GS) (l : List Bool), Drew m S S' H H' 50 → l.length = n → Q (.str (ln l)) H'
theorem ok_lrow (D : Df K mg "_law_row" s_law_row ["_law_m", "_law_wide"]) (T : Txt mg) (C_law_next : Cal P w K mg base "_law_next" 1 ["_law_m", "_law_total"] spDraw)
    (C_law_of : Cal P w K mg base "_law_of" 2 ["_law_m", "_law_some"] (spOf K)) : Cal P w K mg base "_law_row" 3 ["_law_m", "_law_wide"] spLRow := by
  refine D.cal sc_law_row (fun vs H Q E h => ?_) (fun f cdv A outer s H vs Q E hr h => ?_)
  · obtain ⟨_, _, _, rfl, _⟩ := h; rfl
  · obtain ⟨m, n, S, rfl, hn, G, hk, q⟩ := h
    refine ⟨_, (pss_cons (ps_par (i := 2) (j := 3) (by rfl) sc_law_row.nd rfl rfl (by decide) rfl rfl (pa_cons (pe_lnC w_empty) (pa_cons (pe_cal C_law_of (hr.mono (by decide)) (pa_cons (pv 0) (pa_cons (pe_lnC w_both) pa_nil))) pa_nil)) (by rfl))
      (pss_cons (ps_while PassesOwn.never (pt_cmpR op_lt (pe_callB call_lenLn (by rfl) T.b_len PySem.boot_len (pa_cons (pv 2) pa_nil)) (pv 1) (nomark _)) (pss_cons (ps_set (i := 2) sc_law_row.nd rfl (.inl rfl) (pe_op op_addLn (pv 2) (pe_op op_mulLn (pv 3) (pe_op op_add pe_int (pe_cal C_law_next (hr.mono (by decide)) (pa_cons (pv 0) (pa_cons (pe_cal C_law_of (hr.mono (by decide)) (pa_cons (pv 0) (pa_cons (pe_lst (pa_cons pe_int (pa_cons pe_int (pa_cons pe_int (pa_cons pe_int pa_nil))))) pa_nil))) pa_nil)))))))
      (pss_one (ps_set (i := 3) sc_law_row.nd rfl (.inl rfl) (pe_ifExp (pt_cmpR op_eqLn (pv 3) (pe_lnC w_white) (nomark _)) (pe_lnC w_black) (pe_lnC w_white))))))
      (pss_one (ps_ret (pe_slice sl_ln (pv 2) po_none (po_some (pv 1))))))), ?_⟩
    refine ⟨_, rfl, m, _, S, rfl, G, by omega, .inl ⟨[false, true], rfl, by decide, by decide, fun H1 S1 b d1 _ => ?_⟩⟩
    refine ⟨_, _, rfl, ?_⟩
    refine ⟨fun (N : Nat) (σ : L2.St) (H1 : Hp) => ∃ (S1 : GS) (fo : List Bool) (c : Bool), Drew m S S1 H H1 (1 + 2 * fo.length) ∧ fo.length ≤ n + 6 ∧ N = n + 6 - fo.length ∧
      σ = [some (.ref m), some (.int (n : Int)), some (.str (ln fo)), some (.str (ln [c]))], ⟨_, S1, [], b, d1, by simp, rfl, rfl⟩, ?_⟩
    rintro N σ H2 ⟨S2, fo, c, d2', hf, rfl, rfl⟩
    have hfar := d2'.far
    refine ⟨_, rfl, fo, rfl, by omega, _, rfl, _, _, rfl, rfl, _, rfl, d2 (fun h1 => ⟨_, fun _ _ h => h, ?_⟩) (fun h1 => ?_)⟩
    · refine ⟨_, rfl, _, rfl, _, rfl, _, rfl, szOf (show 4 ≤ 100000 by decide), fun p hp => ?_⟩
      have s3 := same_new (o := .lst [.int 1, .int 2, .int 3, .int 6]) hp
      have d3 := d2'.same s3
      refine ⟨m, _, S2, rfl, d3.gen, by omega, .inr ⟨p, _, rfl, upd_same, own_of d2'.gen hp, by decide +kernel, by decide +kernel, fun H4 S4 x d4 hx => ?_⟩⟩
      obtain ⟨t, rfl, ht0, ht6⟩ : ∃ t : Nat, x = .int (t : Int) ∧ 0 < t ∧ t ≤ 6 := by
        simp only [List.mem_cons, List.not_mem_nil, or_false] at hx
        rcases hx with rfl | rfl | rfl | rfl
        · exact ⟨1, rfl, by decide, by decide⟩
        · exact ⟨2, rfl, by decide, by decide⟩
        · exact ⟨3, rfl, by decide, by decide⟩
        · exact ⟨6, rfl, by decide, by decide⟩
      have hfar4 := d4.far
      refine ⟨m, t, S4, rfl, ht0, by omega, d4.gen, by omega, fun H5 S5 r d5 hrt => ?_⟩
      refine ⟨_, _, rfl, rfl, c, 1 + r, rfl, rfl, by omega, fo, _, rfl, rfl, by rw [List.length_replicate]; omega, ?_⟩
      have d6 := (d3.trans d4).trans d5
      refine ⟨_, rfl, [c], [false], rfl, rfl, _, rfl, ?_⟩
      refine d2 (fun h2 => ?_) (fun h2 => ?_)
      · refine ⟨_, ?_, S5, fo ++ List.replicate (1 + r) c, true, d6.le ?_, ?_, rfl, rfl⟩ <;> (rw [List.length_append, List.length_replicate]; omega)
      · refine ⟨_, ?_, S5, fo ++ List.replicate (1 + r) c, false, d6.le ?_, ?_, rfl, rfl⟩ <;> (rw [List.length_append, List.length_replicate]; omega)
    · refine ⟨_, rfl, _, rfl, _, rfl, fo, 0, n, rfl, by omega, .inr ⟨rfl, rfl⟩, .inl rfl, ?_⟩
      exact q _ S2 _ (d2'.le (by omega)) (by rw [List.drop_zero, List.length_take]; omega)

/-! ### _law_near_row -/
abbrev s_law_near_row : Stmt := topS 46
theorem sc_law_near_row : FnScope ["_law_m", "_law_row_here", "_law_found", "_law_k", "_law_j"] ["_law_m", "_law_row_here"] (defScope s_law_near_row) := ⟨rfl, rfl, rfl, by decide +kernel, rfl, by decide +kernel, by decide +kernel⟩
def spNear : Sp := fun vs H Q _ => ∃ (m : Addr) (l : List Bool) (S : GS), vs = [.ref m, .str (ln l)] ∧ 0 < l.length ∧ l.length ≤ 6 ∧ Gen H m S ∧ S.k ≤ 900000 ∧
  ∀ (H' : Hp) (S' : GS) (l' : List Bool), Drew m S S' H H' 50 → l'.length = l.length → Q (.str (ln l')) H'
theorem ok_near (D : Df K mg "_law_near_row" s_law_near_row ["_law_m", "_law_row_here"]) (T : Txt mg) (C_law_next : Cal P w K mg base "_law_next" 1 ["_law_m", "_law_total"] spDraw) :
    Cal P w K mg base "_law_near_row" 2 ["_law_m", "_law_row_here"] spNear := by
  refine D.cal sc_law_near_row (fun vs H Q E h => ?_) (fun f cdv A outer s H vs Q E hr h => ?_)
  · obtain ⟨_, _, _, rfl, _⟩ := h; rfl
  · obtain ⟨m, l, S, rfl, h0, hl, G, hk, q⟩ := h
    refine ⟨_, (pss_cons (ps_set (i := 2) sc_law_near_row.nd rfl (.inl rfl) (pv 1))
      (pss_cons (ps_for PassesOwn.never rfl (pi_range1 (by rfl) T.b_range (pa_cons (pe_cal C_law_next (hr.mono (by decide)) (pa_cons (pv 0) (pa_cons pe_int pa_nil))) pa_nil)) (pg_name (i := 3) sc_law_near_row.nd rfl (.inl rfl)) (pss_cons (ps_set (i := 4) sc_law_near_row.nd rfl (.inl rfl) (pe_cal C_law_next (hr.mono (by decide)) (pa_cons (pv 0) (pa_cons (pe_callB call_lenLn (by rfl) T.b_len PySem.boot_len (pa_cons (pv 1) pa_nil)) pa_nil))))
      (pss_one (ps_set (i := 2) sc_law_near_row.nd rfl (.inl rfl) (pe_op op_addLn (pe_op op_addLn (pe_slice sl_ln (pv 2) po_none (po_some (pv 4))) (pe_ifExp (pt_cmpR op_eqLn (pe_ix ix_ln (pv 2) (pv 4) (fun _ _ => rfl)) (pe_lnC w_white) (nomark _)) (pe_lnC w_black) (pe_lnC w_white))) (pe_slice sl_ln (pv 2) (po_some (pe_op op_add (pv 4) pe_int)) po_none))))))
      (pss_one (ps_ret (pv 2))))), ?_⟩
    refine ⟨_, rfl, _, rfl, m, 4, S, rfl, by decide, by decide, G, by omega, fun H1 S1 r d1 hr4 => ?_⟩
    refine ⟨_, rfl, by omega, by omega, for_range (lo := 0) (fun i σ H2 => ∃ (S2 : GS) (fo : List Bool) (y1 y2 : Option V), Drew m S S2 H H2 (1 + i) ∧ fo.length = l.length ∧
      σ = [some (.ref m), some (.str (ln l)), some (.str (ln fo)), y1, y2]) ⟨S1, l, none, none, d1, rfl, rfl⟩ ?_ ?_⟩
    · rintro i σ H2 hi ⟨S2, fo, y1, y2, d2', hf, rfl⟩
      have hfar := d2'.far
      refine ⟨_, rfl, _, rfl, l, rfl, by omega, m, l.length, S2, rfl, h0, by omega, d2'.gen, by omega, fun H3 S3 j d3 hj => ?_⟩
      obtain ⟨b, hb⟩ : ∃ b, fo[j]? = some b := ⟨_, List.getElem?_eq_getElem (by omega)⟩
      have d4 := d2'.trans d3
      refine ⟨_, rfl, _, rfl, _, rfl, fo, 0, j, rfl, by omega, .inr ⟨rfl, rfl⟩, .inl rfl, _, rfl, _, rfl, fo, j, b, rfl, rfl, by omega, hb, [b], [false], rfl, rfl, _, rfl, d2 (fun h2 => ?_) (fun h2 => ?_)⟩
      · refine ⟨_, _, rfl, rfl, by rw [List.drop_zero, List.length_take]; simp; omega, _, rfl, _, rfl, _, _, rfl, rfl, _, rfl, fo, j + 1, fo.length, rfl, by omega, .inl rfl, .inr ⟨rfl, rfl⟩, _, _, rfl, rfl, ?_, ?_⟩
        · simp [List.length_take, List.length_drop]; omega
        · exact ⟨S3, _, some (.int (0 + (i : Int))), some (.int (j : Int)), d4.le (by omega), by simp [List.length_take, List.length_drop]; omega, rfl⟩
      · refine ⟨_, _, rfl, rfl, by rw [List.drop_zero, List.length_take]; simp; omega, _, rfl, _, rfl, _, _, rfl, rfl, _, rfl, fo, j + 1, fo.length, rfl, by omega, .inl rfl, .inr ⟨rfl, rfl⟩, _, _, rfl, rfl, ?_, ?_⟩
        · simp [List.length_take, List.length_drop]; omega
        · exact ⟨S3, _, some (.int (0 + (i : Int))), some (.int (j : Int)), d4.le (by omega), by simp [List.length_take, List.length_drop]; omega, rfl⟩
    · rintro σ H2 ⟨S2, fo, y1, y2, d2', hf, rfl⟩
      exact ⟨_, rfl, q _ S2 fo (d2'.le (by omega)) hf⟩

/-! ### _law_begun -/
abbrev s_law_begun : Stmt := topS 42
theorem sc_law_begun : FnScope ["_law_script", "_law_great", "_law_cell"] ["_law_script"] (defScope s_law_begun) := ⟨rfl, rfl, rfl, by decide +kernel, rfl, by decide +kernel, by decide +kernel⟩
def spBegun (K : PySem.W.Frag) : Sp := fun vs H Q _ => ∃ (a : Addr) (ns : List Int), vs = [.ref a] ∧ SqL K H a (ns.map V.int) ∧ ns.length ≤ sizeLine ∧
  ∀ (H' : Hp) (m : Addr) (S : GS), Same H H' → H m = none → Gen H' m S → S.k = 0 → H S.g = none → H S.c = none → Q (.ref m) H'
theorem ok_begun (D : Df K mg "_law_begun" s_law_begun ["_law_script"]) (T : Txt mg) : Cal P w K mg base "_law_begun" 1 ["_law_script"] (spBegun K) := by
  refine D.cal sc_law_begun (fun vs H Q E h => ?_) (fun f cdv A outer s H vs Q E hr h => ?_)
  · obtain ⟨_, _, rfl, _⟩ := h; rfl
  · obtain ⟨a, ns, rfl, ha, hz, q⟩ := h
    refine ⟨_, (pss_cons (ps_setLc (i := 1) (own := [("_law_cell", 2)]) (g := (gName 2)) rfl sc_law_begun.nd rfl rfl (sw_true rfl rfl rfl (by decide +kernel)) (pi_list (pv 0)) (blkOk_by (own := [("_law_cell", 2)]) (N := ["_law_script", "_law_great", "_law_cell"]) (sc := defScope s_law_begun) (by decide +kernel)) (fun _ _ _ _ _ => (pg_name (i := 2) sc_law_begun.nd rfl (.inl rfl))) (fun _ _ _ _ _ => pts_one (pt_cmpR op_ge (pv 2) (pe_op op_pow pe_int pe_int) (nomark _))) (fun _ _ _ _ _ => (pv 2)))
      (pss_one (ps_ret (pe_disp (pps_cons pe_str (pe_callTy call_list_of (by rfl) T.b_list (by decide +kernel) (pa_cons (pv 0) pa_nil)) (pps_cons pe_str (pv 1) (pps_cons pe_str pe_int pps_nil))) (by rfl) rfl (by simp) (by decide))))), ?_⟩
    refine ⟨_, rfl, a, rfl, ⟨_, ha⟩, fun d hd => ?_⟩
    refine loop_it (walk_list (K := K) (a := a) (xs := ns.map V.int)) (fun j H2 => Same H H2 ∧ ∃ gs : List Int, H2 d = some (.lst (gs.map V.int)) ∧ gs.length ≤ j)
      ⟨same_new hd, [], upd_same, Nat.le_refl _⟩ (fun j H2 _ h => sqL_same h.1 ha) ?_ ?_
    · rintro j x H2 H3 hj ⟨e1, gs, g1, g2⟩ ⟨rfl, hx⟩
      rw [List.getElem?_map] at hx
      rw [List.length_map] at hj
      obtain ⟨c, rfl⟩ : ∃ c, x = .int c := by
        cases hz : ns[j]? with
        | none => rw [hz] at hx; cases hx
        | some c => rw [hz] at hx; exact ⟨c, (Option.some.inj hx).symm⟩
      refine ⟨rfl, ?_⟩
      refine ⟨_, rfl, _, _, rfl, rfl, ⟨by decide, by decide, by decide⟩, _, _, rfl, rfl, _, rfl, ?_⟩
      refine d2 (fun h2 => ?_) (fun h2 => ?_)
      · refine ⟨_, rfl, _, g1, by rw [List.length_map]; omega, same_mut e1 hd, gs ++ [c], ?_, by simp; omega⟩
        rw [upd_same, List.map_append]; rfl
      · exact ⟨e1, gs, g1, Nat.le_succ_of_le g2⟩
    · rintro H2 ⟨e1, gs, g1, g2⟩
      intro p hp
      have e2 := e1.trans (same_new (o := .dK []) hp)
      refine ⟨_, rfl, a, _, rfl, .inl (sqL_same e2 ha), fun c hc => ?_⟩
      have hpd : d ≠ p := ne_of_none g1 hp
      have hpc : p ≠ c := ne_of_none upd_same hc
      have hcd : c ≠ d := (ne_of_none (H := upd H2 p (.dK [])) (by rw [upd_ne hpd]; exact g1) hc).symm
      have hp0 : H p = none := none_of e1 hp
      have e3 := e2.trans (same_new (o := .lst (ns.map V.int)) hc)
      refine ⟨_, rfl, by rw [upd_ne hpc]; exact upd_same, gK c d 0, rfl, show 3 ≤ 15 by decide, ?_⟩
      have hm : mergeK [] (gK c d 0) = gK c d 0 := by simp [mergeK, gK, putK, kCG, kCS, kGS]
      rw [hm]
      exact q _ p ⟨c, d, ns, gs, 0⟩ (same_mut e3 hp0) hp0 ⟨upd_same, by rw [upd_ne (Ne.symm hpc)]; exact upd_same, by rw [upd_ne hpd, upd_ne (Ne.symm hcd), upd_ne hpd]; exact g1, hcd⟩ rfl hd (none_of e2 hc)
end
end Fx

set_option Elab.async false
set_option linter.all false
set_option maxRecDepth 100000
set_option maxHeartbeats 2000000
namespace Fx
open PySem PySem.Spec PyProof.Rows L2
section
variable {P : Program} {w : World} {K : PySem.W.Frag} {mg : Str → Option Value} {base : Heap}
local macro_rules | `(tactic| walk_at "rd") => `(tactic| repeat (first
  | refine ⟨_, rfl, ?_⟩ | refine ⟨_, _, rfl, rfl, ?_⟩ | refine ⟨rfl, ?_⟩ | refine iteT ?_ | refine iteF ?_
  | refine ⟨_, _, rfl, by assumption, ?_⟩ | refine ⟨_, _, rfl, .inr (by assumption), ?_⟩ | refine ⟨_, _, rfl, .inl (by assumption), ?_⟩
  | refine ⟨_, _, _, _, rfl, rfl, by assumption, by first | rfl | exact atI_nat (j := 0) rfl | exact atI_nat (j := 1) rfl | exact atI_nat (j := 2) rfl, ?_⟩
  | refine And.intro (by omega) ?_))
/-! ### _law_all_rows -/
abbrev s_law_all_rows : Stmt := topS 47
theorem sc_law_all_rows : FnScope ["_law_wide", "_law_found", "_law_k", "_law_longer", "_law_row_here"] ["_law_wide"] (defScope s_law_all_rows) := ⟨rfl, rfl, rfl, by decide +kernel, rfl, by decide +kernel, by decide +kernel⟩
theorem ok_lall (D : Df K mg "_law_all_rows" s_law_all_rows ["_law_wide"]) (T : Txt mg) : Cal P w K mg base "_law_all_rows" 1 ["_law_wide"] spLines := by
  refine D.cal sc_law_all_rows (fun vs H Q E h => ?_) (fun f cdv A outer s H vs Q E hr h => ?_)
  · obtain ⟨_, rfl, _⟩ := h; rfl
  · obtain ⟨n, rfl, h1, q⟩ := h
    refine ⟨_, (pss_cons (ps_set (i := 1) sc_law_all_rows.nd rfl (.inl rfl) (pe_lst (pa_cons (pe_lnC w_empty) pa_nil)))
      (pss_cons (ps_for PassesOwn.never rfl (pi_range1 (by rfl) T.b_range (pa_cons (pv 0) pa_nil)) (pg_name (i := 2) sc_law_all_rows.nd rfl (.inl rfl)) (pss_cons (ps_set (i := 3) sc_law_all_rows.nd rfl (.inl rfl) (pe_lst pa_nil))
      (pss_cons (ps_for PassesOwn.never rfl (pi_list (pv 1)) (pg_name (i := 4) sc_law_all_rows.nd rfl (.inl rfl)) (pss_one (ps_set (i := 3) sc_law_all_rows.nd rfl (.inl rfl) (pe_op op_cat (pv 3) (pe_lst (pa_cons (pe_op op_addLn (pv 4) (pe_lnC w_black)) (pa_cons (pe_op op_addLn (pv 4) (pe_lnC w_white)) pa_nil)))))))
      (pss_one (ps_set (i := 1) sc_law_all_rows.nd rfl (.inl rfl) (pv 3))))))
      (pss_one (ps_ret (pv 1))))), ?_⟩
    have hcat : 2 ^ n ≤ 1024 := Nat.le_trans (Nat.pow_le_pow_right (by decide) h1) (by decide)
    walk_at "rd"
    refine ⟨Nat.le_of_lt (szLt (show 1 < 100000 by decide)), fun p hp => ?_⟩
    refine ⟨_, rfl, _, rfl, by omega, by omega, for_range (lo := 0) (fun i σ H1 => Same H H1 ∧ ∃ p y1 y2 y3, σ = [some (.int (n : Int)), some (.ref p), y1, y2, y3] ∧ H p = none ∧ H1 p = some (.lst ((rowsOf i).map lnV)))
      ⟨same_new hp, p, _, _, _, rfl, hp, upd_same⟩ ?_ ?_⟩
    · rintro i σ H1 hi ⟨e1, p1, y1, y2, y3, rfl, hp1, hl⟩
      have hin : i < n := by omega
      have hlen : (rowsOf i).length * 2 ≤ 1024 := by
        rw [rowsOf_length, ← Nat.pow_succ]
        exact Nat.le_trans (Nat.pow_le_pow_right (by decide) hin) hcat
      have h2l : ∀ z : List (List Bool), (z.flatMap fun l => [l ++ [true], l ++ [false]]).length = 2 * z.length := fun z => by
        induction z with
        | nil => rfl
        | cons a z ih => rw [List.flatMap_cons, List.length_append, ih]; simp; omega
      refine ⟨Nat.zero_le _, fun d hd => ?_⟩
      have e2 := e1.trans (same_new (o := .lst []) hd)
      have hl2 : (upd H1 d (.lst [])) p1 = some (.lst ((rowsOf i).map lnV)) := by rw [upd_ne (ne_of_none hl hd)]; exact hl
      refine ⟨_, rfl, p1, rfl, ⟨_, sqL_of hl2⟩, for_list (xs := (rowsOf i).map lnV) (fun j σ H2 => Same H H2 ∧ H2 p1 = some (.lst ((rowsOf i).map lnV)) ∧ ∃ d y, σ = [some (.int (n : Int)), some (.ref p1), some (.int (0 + (i : Int))), some (.ref d), y] ∧ H d = none ∧
          H2 d = some (.lst ((((rowsOf i).take j).flatMap fun l => [l ++ [true], l ++ [false]]).map lnV)))
        ⟨e2, hl2, d, _, rfl, none_of e1 hd, upd_same⟩ (fun j σ H2 _ h => sqL_of h.2.1) ?_ ?_⟩
      · rintro j x σ H2 hx ⟨e3, hl3, d, y, rfl, hdn, hd3⟩
        obtain ⟨l, hl0, rfl⟩ : ∃ l, (rowsOf i)[j]? = some l ∧ x = lnV l := by
          rw [List.getElem?_map] at hx
          cases hz : (rowsOf i)[j]? with
          | none => rw [hz] at hx; cases hx
          | some l => rw [hz] at hx; exact ⟨l, rfl, (Option.some.inj hx).symm⟩
        have hll : l.length = i := rowsOf_mem.mp (List.mem_of_getElem? hl0)
        have hj : j < (rowsOf i).length := (List.getElem?_eq_some_iff.mp hl0).1
        refine ⟨_, rfl, _, rfl, l, [true], rfl, rfl, by simp; omega, _, rfl, l, [false], rfl, rfl, by simp; omega, szOf (show 2 ≤ 100000 by decide), fun p5 hp5 => ?_⟩
        have hd5 : (upd H2 p5 (.lst [.str (ln (l ++ [true])), .str (ln (l ++ [false]))])) d = _ := (upd_ne (ne_of_none hd3 hp5)).trans hd3
        refine ⟨d, p5, _, _, rfl, rfl, hd5, upd_same, ?_, fun p6 hp6 => ?_⟩
        · rw [List.length_map, h2l, List.length_take]
          exact szOf (by simp; omega)
        have s5 := e3.trans (same_new (o := .lst [.str (ln (l ++ [true])), .str (ln (l ++ [false]))]) hp5)
        refine ⟨s5.trans (same_new hp6), ?_, p6, _, rfl, none_of s5 hp6, ?_⟩
        · have z1 : (upd H2 p5 (.lst [.str (ln (l ++ [true])), .str (ln (l ++ [false]))])) p1 = _ := (upd_ne (ne_of_none hl3 hp5)).trans hl3
          exact (upd_ne (ne_of_none z1 hp6)).trans z1
        · rw [upd_same, take_snoc hl0, List.flatMap_append, List.map_append]; rfl
      · rintro σ H2 ⟨e3, hl3, d, y, rfl, hdn, hd3⟩
        refine ⟨_, rfl, e3, d, _, _, _, rfl, hdn, ?_⟩
        rw [hd3, List.length_map, List.take_length, rowsOf_snoc]
    · rintro σ H1 ⟨e1, p1, y1, y2, y3, rfl, hp1, hl⟩
      exact ⟨_, rfl, q _ _ e1 hp1 (by simpa using hl)⟩

theorem mem_le_sum : ∀ {rs : List Nat} {r : Nat}, r ∈ rs → r ≤ rs.sum
  | x :: rs, r, h => by
    rcases List.mem_cons.mp h with rfl | h
    · rw [List.sum_cons]; omega
    · have := mem_le_sum h
      rw [List.sum_cons]; omega
def natV (k : Nat) : V := .int (k : Int)
/-- [k for k in range(..) if pr k] -/
theorem filt_it {lo : Int} {l n : Nat} {H1 : Hp} {d : Addr} {Qd : Hp → Prop} {B : V → Hp → (Hp → Prop) → Prop} (pr : Nat → Bool) (hlo : lo = (l : Int)) (hd : H1 d = none) (hn : n ≤ 1000)
    (hB : ∀ (k : Nat) (H2 : Hp) (N : Hp → Prop) (acc : List V), l ≤ k → k < l + n → Same H1 H2 → H2 d = some (.lst acc) → acc.length < sizeLine →
      (pr k = true → N (upd H2 d (.lst (acc ++ [natV k])))) → (pr k = false → N H2) → B (natV k) H2 N)
    (hQ : ∀ H2, Same H1 H2 → H2 d = some (.lst (((List.range' l n).filter pr).map natV)) → Qd H2) :
    ∃ W : Nat → Nat → Hp → Prop, (∃ m, W 0 m (upd H1 d (.lst []))) ∧ ∀ i m H, W i m H →
      ((Itr lo n).stop i H ∧ Qd H) ∨ ((Itr lo n).go i H ∧ ∃ Nx : Hp → Prop, (∀ H', Nx H' → ∃ m', m' < m ∧ W (i + 1) m' H') ∧ ∀ x H', (Itr lo n).yld i H x H' → B x H' Nx) := by
  refine loop_it (walk_range (lo := lo) (n := n)) (fun j H2 => Same H1 H2 ∧ H2 d = some (.lst (((List.range' l j).filter pr).map natV))) ⟨same_new hd, upd_same⟩ (fun _ _ _ _ => trivial) ?_ fun H2 h => hQ H2 h.1 h.2
  rintro j x H2 H3 hj ⟨e1, g1⟩ ⟨rfl, rfl⟩
  show B (V.int (lo + (j : Int))) H3 _
  rw [show V.int (lo + (j : Int)) = natV (l + j) from congrArg V.int (by rw [hlo]; omega)]
  have hlen : (((List.range' l j).filter pr).map natV).length < sizeLine := by
    rw [List.length_map]
    have := List.length_filter_le pr (List.range' l j)
    rw [List.length_range'] at this
    exact szLt (by omega)
  have hsn : List.range' l (j + 1) = List.range' l j ++ [l + j] := by rw [List.range'_concat]; simp
  refine hB (l + j) H3 _ _ (by omega) (by omega) e1 g1 hlen (fun hp => ⟨same_mut e1 hd, ?_⟩) (fun hp => ⟨e1, ?_⟩)
  · rw [upd_same, hsn, List.filter_append, List.map_append]
    simp [hp]
  · rw [g1, hsn, List.filter_append]
    simp [hp]
/-- [k for k in L if pr k], L a list of numbers at a -/
theorem filt_list {L : List Nat} {a : Addr} {H1 : Hp} {d : Addr} {Qd : Hp → Prop} {B : V → Hp → (Hp → Prop) → Prop} (pr : Nat → Bool) (ha : H1 a = some (.lst (L.map natV))) (hd : H1 d = none) (hn : L.length ≤ 1000)
    (hB : ∀ (k : Nat) (H2 : Hp) (N : Hp → Prop) (acc : List V), k ∈ L → Same H1 H2 → H2 d = some (.lst acc) → acc.length < sizeLine →
      (pr k = true → N (upd H2 d (.lst (acc ++ [natV k])))) → (pr k = false → N H2) → B (natV k) H2 N)
    (hQ : ∀ H2, Same H1 H2 → H2 d = some (.lst ((L.filter pr).map natV)) → Qd H2) :
    ∃ W : Nat → Nat → Hp → Prop, (∃ m, W 0 m (upd H1 d (.lst []))) ∧ ∀ i m H, W i m H →
      ((Itl K a).stop i H ∧ Qd H) ∨ ((Itl K a).go i H ∧ ∃ Nx : Hp → Prop, (∀ H', Nx H' → ∃ m', m' < m ∧ W (i + 1) m' H') ∧ ∀ x H', (Itl K a).yld i H x H' → B x H' Nx) := by
  refine loop_it (walk_list (K := K) (a := a) (xs := L.map natV)) (fun j H2 => Same H1 H2 ∧ H2 d = some (.lst (((L.take j).filter pr).map natV))) ⟨same_new hd, upd_same⟩ (fun _ _ _ h => sqL_of (h.1 _ _ ha)) ?_ fun H2 h => hQ H2 h.1 ?_
  · rintro j x H2 H3 hj ⟨e1, g1⟩ ⟨rfl, hx⟩
    rw [List.length_map] at hj
    obtain ⟨k, hk, rfl⟩ : ∃ k, L[j]? = some k ∧ x = natV k := by
      rw [List.getElem?_map] at hx
      cases hz : L[j]? with
      | none => rw [hz] at hx; cases hx
      | some k => rw [hz] at hx; exact ⟨k, rfl, (Option.some.inj hx).symm⟩
    have hlen : (((L.take j).filter pr).map natV).length < sizeLine := by
      rw [List.length_map]
      have := List.length_filter_le pr (L.take j)
      rw [List.length_take] at this
      exact szLt (by omega)
    refine hB k H3 _ _ (List.mem_of_getElem? hk) e1 g1 hlen (fun hp => ⟨same_mut e1 hd, ?_⟩) (fun hp => ⟨e1, ?_⟩)
    · rw [upd_same, take_snoc hk, List.filter_append, List.map_append]
      simp [hp]
    · rw [g1, take_snoc hk, List.filter_append]
      simp [hp]
  · have := h.2
    rw [List.length_map, List.take_length] at this
    exact this

/-! ### _law_runs -/
theorem ln_cps_at {l : List Bool} {i : Nat} : (ln l).cps[i]? = (l[i]?).map dot := by
  unfold ln
  rw [List.getElem?_toArray, List.getElem?_map]
abbrev s_law_runs : Stmt := topS 49
theorem sc_law_runs : FnScope ["_law_row_here", "_law_found", "_law_dot", "_law_size", "_law_one"] ["_law_row_here"] (defScope s_law_runs) := ⟨rfl, rfl, rfl, by decide +kernel, rfl, by decide +kernel, by decide +kernel⟩
def spLRuns (K : PySem.W.Frag) : Sp := fun vs H Q _ => ∃ l : List Bool, vs = [.str (ln l)] ∧ 0 < l.length ∧ l.length ≤ 6 ∧ ∀ H' v rs, Same H H' → TD K H' v (runsD rs) → GoodRs rs → Q v H'
theorem ok_lruns (D : Df K mg "_law_runs" s_law_runs ["_law_row_here"]) (T : Txt mg) : Cal P w K mg base "_law_runs" 1 ["_law_row_here"] (spLRuns K) := by
  refine D.cal sc_law_runs (fun vs H Q E h => ?_) (fun f cdv A outer s H vs Q E hr h => ?_)
  · obtain ⟨_, rfl, _⟩ := h; rfl
  · obtain ⟨l, rfl, h0, h1, q⟩ := h
    refine ⟨_, (pss_cons (ps_par3 (i := 1) (j := 2) (l := 3) (by rfl) sc_law_runs.nd rfl rfl rfl (by decide) (by decide) (by decide) rfl rfl rfl (pa_cons (pe_lst pa_nil) (pa_cons (pe_lnC w_white) (pa_cons pe_int pa_nil))) (by rfl))
      (pss_cons (ps_for PassesOwn.never rfl (pi_str (pv 0)) (pg_name (i := 4) sc_law_runs.nd rfl (.inl rfl)) (pss_cons (ps_if (pt_cmpR op_neLn (pv 4) (pv 2) (nomark _)) (pss_one (ps_par3 (i := 1) (j := 2) (l := 3) (by rfl) sc_law_runs.nd rfl rfl rfl (by decide) (by decide) (by decide) rfl rfl rfl (pa_cons (pe_op op_cat (pv 1) (pe_lst (pa_cons (pv 3) pa_nil))) (pa_cons (pv 4) (pa_cons pe_int pa_nil))) (by rfl))) pss_nil)
      (pss_one (ps_set (i := 3) sc_law_runs.nd rfl (.inl rfl) (pe_op op_add (pv 3) pe_int)))))
      (pss_one (ps_ret (pe_callTy call_tuple_of (by rfl) T.b_tuple (by decide +kernel) (pa_cons (pe_op op_cat (pv 1) (pe_lst (pa_cons (pv 3) pa_nil))) pa_nil)))))), ?_⟩
    refine ⟨Nat.zero_le _, fun d hd => ?_⟩
    refine ⟨_, _, _, rfl, ?_⟩
    have hcs : (ln l).cps.size = l.length := by simp [ln]
    refine ⟨_, rfl, _, rfl, for_it (walk_str (z := ln l)) (fun i σ H1 => Same H H1 ∧ ∃ (d : Addr) (rs : List Nat) (c : Bool) (z : Nat) (y : Option V), σ = [some (.str (ln l)), some (.ref d), some (.str (ln [c])), some (.int (z : Int)), y] ∧
        H1 d = some (.lst (rs.map fun (n : Nat) => V.int (n : Int))) ∧ rs.sum + z = i ∧ (∀ r ∈ rs.drop 1, r ≠ 0) ∧ (rs ≠ [] → z ≠ 0) ∧ rs.length ≤ i)
      ⟨same_new hd, d, [], false, 0, none, rfl, upd_same, rfl, by simp, by simp, Nat.le_refl _⟩ (fun i σ H1 _ _ => trivial) ?_ ?_⟩
    · rintro i x σ H1 H2 hi ⟨e1, d, rs, c, z, y, rfl, g1, g2, g3, g4, g5⟩ ⟨rfl, cp, hcp, rfl⟩
      rw [hcs] at hi
      obtain ⟨b, rfl⟩ : ∃ b, cp = dot b := by
        rw [ln_cps_at] at hcp
        cases hz : l[i]? with
        | none => rw [hz] at hcp; cases hcp
        | some b => rw [hz] at hcp; exact ⟨b, (Option.some.inj hcp).symm⟩
      refine ⟨_, rfl, _, rfl, [b], [c], rfl, rfl, _, rfl, n2 (fun hbc => ?_) (fun hbc => ?_)⟩
      · refine ⟨_, rfl, _, rfl, szOf (show 1 ≤ 100000 by decide), fun p5 hp5 => ?_⟩
        have gd : (upd H2 p5 (.lst [.int (z : Int)])) d = _ := (upd_ne (ne_of_none g1 hp5)).trans g1
        refine ⟨d, p5, _, _, rfl, rfl, gd, upd_same, szOf (by simp; omega), fun p6 hp6 => ?_⟩
        refine ⟨_, rfl, _, _, _, rfl, ?_⟩
        refine ⟨_, rfl, _, _, rfl, rfl, (e1.trans (same_new hp5)).trans (same_new hp6), p6, rs ++ [z], b, 1, _, rfl, ?_, by simp; omega, ?_, fun _ => by decide, by simp; omega⟩
        · rw [upd_same, List.map_append]; rfl
        · intro r hr2
          cases rs with
          | nil => simp at hr2
          | cons r0 rs =>
            simp at hr2
            rcases hr2 with hr2 | rfl
            · exact g3 r (by simpa using hr2)
            · exact g4 (by simp)
      · refine ⟨_, rfl, _, _, rfl, rfl, e1, d, rs, c, z + 1, _, rfl, g1, by omega, g3, fun _ => by omega, by omega⟩
    · rintro σ H1 ⟨e1, d, rs, c, z, y, rfl, g1, g2, g3, g4, g5⟩
      rw [hcs] at g2 g5
      refine ⟨_, rfl, _, rfl, szOf (show 1 ≤ 100000 by decide), fun p5 hp5 => ?_⟩
      have gd : (upd H1 p5 (.lst [.int (z : Int)])) d = _ := (upd_ne (ne_of_none g1 hp5)).trans g1
      refine ⟨d, p5, _, _, rfl, rfl, gd, upd_same, szOf (by simp; omega), fun p6 hp6 => ?_⟩
      refine ⟨p6, _, rfl, .inl ⟨sqL_new, fun p7 hp7 => ?_⟩⟩
      have e : (rs.map fun (n : Nat) => V.int (n : Int)) ++ [V.int (z : Int)] = (rs ++ [z]).map fun (n : Nat) => V.int (n : Int) := by rw [List.map_append]; rfl
      rw [e] at hp7 ⊢
      have hbig : ∀ r ∈ rs ++ [z], r ≤ (rs ++ [z]).sum := fun r hr2 => mem_le_sum hr2
      have hsum : (rs ++ [z]).sum = l.length := by simp; omega
      refine q _ _ (rs ++ [z]) (((e1.trans (same_new hp5)).trans (same_new hp6)).trans (same_new hp7)) (.tup sqT_new (TDs.of_ints _)) ⟨by simp, fun r hr2 => ?_, ?_, by omega, by omega⟩
      · have := hbig r hr2
        omega
      · intro r hr2
        cases rs with
        | nil => simp at hr2
        | cons r0 rs =>
          simp at hr2
          rcases hr2 with hr2 | rfl
          · exact g3 r (by simpa using hr2)
          · exact g4 (by simp)

/-! ### _law_changes -/
abbrev s_law_changes : Stmt := topS 50
theorem sc_law_changes : FnScope ["_law_reference", "_law_spot", "_law_dot", "_law_begun_here", "_law_first", "_law_wide", "_law_shifted", "_law_some", "_law_change", "_law_far", "_law_k"] ["_law_reference", "_law_spot", "_law_dot", "_law_begun_here"] (defScope s_law_changes) := ⟨rfl, rfl, rfl, by decide +kernel, rfl, by decide +kernel, by decide +kernel⟩
def spChanges : Sp := fun vs H Q _ => ∃ (ref : List Bool) (p : Nat) (c told : Bool), vs = [.str (ln ref), .int (p : Int), .str (ln [c]), .bl told] ∧ p ≤ ref.length ∧ ref.length ≤ 100 ∧
  ∀ H' t, Same H H' → H' t = some (.tup [.int ((change ref p c told : Nat) : Int), .int ((back ref (change ref p c told) c : Nat) : Int)]) → Q (.ref t) H'
theorem first_filter (L : List Nat) (p : Nat → Bool) (w : Nat) : ((L.filter p).map natV ++ [natV w])[0]? = some (natV ((L.find? p).getD w)) := by
  rw [← List.head?_filter]
  cases L.filter p <;> rfl
theorem first_len (L : List Nat) (p : Nat → Bool) (w : Nat) (h : L.length ≤ 1000) : ((L.filter p).map natV).length + [natV w].length ≤ sizeLine := by
  have := List.length_filter_le p L
  rw [List.length_map]
  exact szOf (by simp; omega)
theorem ok_lchanges (D : Df K mg "_law_changes" s_law_changes ["_law_reference", "_law_spot", "_law_dot", "_law_begun_here"]) (T : Txt mg) : Cal P w K mg base "_law_changes" 1 ["_law_reference", "_law_spot", "_law_dot", "_law_begun_here"] spChanges := by
  refine D.cal sc_law_changes (fun vs H Q E h => ?_) (fun f cdv A outer s H vs Q E hr h => ?_)
  · obtain ⟨_, _, _, _, rfl, _⟩ := h; rfl
  · obtain ⟨ref, p, c, told, rfl, hp, hz, q⟩ := h
    refine ⟨_, (pss_cons (ps_par (i := 4) (j := 5) (by rfl) sc_law_changes.nd rfl rfl (by decide) rfl rfl (pa_cons (pe_ifExp (pt_val (pv 3)) (pe_op op_add (pv 1) pe_int) pe_int) (pa_cons (pe_callB call_lenLn (by rfl) T.b_len PySem.boot_len (pa_cons (pv 0) pa_nil)) pa_nil)) (by rfl))
      (pss_cons (ps_set (i := 6) sc_law_changes.nd rfl (.inr rfl) (pe_op op_addLn (pe_lnC w_white) (pv 0)))
      (pss_cons (ps_setLc (i := 7) (own := [("_law_k", 10)]) (g := (gName 10)) rfl sc_law_changes.nd rfl rfl (sw_true rfl rfl rfl (by decide +kernel)) (pi_range2 (by rfl) T.b_range (pa_cons (pv 4) (pa_cons (pv 5) pa_nil))) (blkOk_by (own := [("_law_k", 10)]) (N := ["_law_reference", "_law_spot", "_law_dot", "_law_begun_here", "_law_first", "_law_wide", "_law_shifted", "_law_some", "_law_change", "_law_far", "_law_k"]) (sc := defScope s_law_changes) (by decide +kernel)) (fun _ _ _ _ _ => (pg_name (i := 10) sc_law_changes.nd rfl (.inl rfl))) (fun _ _ _ _ _ => pts_one (pt_cmpR op_eqLn (pe_ix ix_ln (pv 6) (pv 10) (fun _ _ => rfl)) (pv 2) (nomark _))) (fun _ _ _ _ _ => (pv 10)))
      (pss_cons (ps_setLc (i := 7) (own := [("_law_k", 10)]) (g := (gName 10)) rfl sc_law_changes.nd rfl rfl (sw_true rfl rfl rfl (by decide +kernel)) (pi_list (pv 7)) (blkOk_by (own := [("_law_k", 10)]) (N := ["_law_reference", "_law_spot", "_law_dot", "_law_begun_here", "_law_first", "_law_wide", "_law_shifted", "_law_some", "_law_change", "_law_far", "_law_k"]) (sc := defScope s_law_changes) (by decide +kernel)) (fun _ _ _ _ _ => (pg_name (i := 10) sc_law_changes.nd rfl (.inl rfl))) (fun _ _ _ _ _ => pts_one (pt_cmpR op_neLn (pe_ix ix_ln (pv 0) (pv 10) (fun _ _ => rfl)) (pv 2) (nomark _))) (fun _ _ _ _ _ => (pv 10)))
      (pss_cons (ps_set (i := 8) sc_law_changes.nd rfl (.inl rfl) (pe_ix ix_list (pe_op op_cat (pv 7) (pe_lst (pa_cons (pv 5) pa_nil))) pe_int (fun _ _ => rfl)))
      (pss_cons (ps_setLc (i := 9) (own := [("_law_k", 10)]) (g := (gName 10)) rfl sc_law_changes.nd rfl rfl (sw_true rfl rfl rfl (by decide +kernel)) (pi_range2 (by rfl) T.b_range (pa_cons (pe_op op_add (pv 8) pe_int) (pa_cons (pv 5) pa_nil))) (blkOk_by (own := [("_law_k", 10)]) (N := ["_law_reference", "_law_spot", "_law_dot", "_law_begun_here", "_law_first", "_law_wide", "_law_shifted", "_law_some", "_law_change", "_law_far", "_law_k"]) (sc := defScope s_law_changes) (by decide +kernel)) (fun _ _ _ _ _ => (pg_name (i := 10) sc_law_changes.nd rfl (.inl rfl))) (fun _ _ _ _ _ => pts_one (pt_cmpR op_eqLn (pe_ix ix_ln (pv 0) (pv 10) (fun _ _ => rfl)) (pv 2) (nomark _))) (fun _ _ _ _ _ => (pv 10)))
      (pss_one (ps_ret (pe_tup (pa_cons (pv 8) (pa_cons (pe_ix ix_list (pe_op op_cat (pv 9) (pe_lst (pa_cons (pv 5) pa_nil))) pe_int (fun _ _ => rfl)) pa_nil))))))))))), ?_⟩
    obtain ⟨lo, hlo⟩ : ∃ lo : Nat, lo = (if told = true then p + 1 else 0) := ⟨_, rfl⟩
    have ec : change ref p c told = firstIn (isCh ref c) lo ref.length := by rw [hlo]; rfl
    rw [ec] at q
    have hT : told = true → ((p : Int) + 1) = (lo : Int) := fun z => by rw [hlo, if_pos z]; omega
    have hF : told = false → (0 : Int) = (lo : Int) := fun z => by rw [hlo, if_neg (by simp [z])]; rfl
    have hlo1 : lo ≤ ref.length + 1 := by rw [hlo]; split <;> omega
    clear hlo ec
    have p1 : (List.range' lo (ref.length - lo)).find? (isCh ref c) = ((List.range' lo (ref.length - lo)).filter fun k => (false :: ref).getD k false == c).find? (fun k => ref.getD k false != c) := by
      rw [List.find?_filter]
      congr 1
      funext k
      show (_ && _) = decide _
      rw [Bool.decide_and, Bool.decide_eq_true, Bool.decide_eq_true]
    cases told
    all_goals
      first | have hz0 := hT rfl | have hz0 := hF rfl
      walk_at "rd"
      refine ⟨_, _, rfl, ?_⟩
      refine ⟨_, rfl, [false], ref, rfl, rfl, by simp; omega, ?_⟩
      have eb : ∀ e1 : Int, e1 = (lo : Int) → ((ref.length : Int) - e1).toNat = ref.length - lo := fun e1 z => by omega
      refine ⟨_, rfl, _, rfl, _, _, rfl, ⟨by omega, by omega, by omega, by omega⟩, fun d hd => ?_⟩
      refine filt_it (fun k => (false :: ref).getD k false == c) hz0 hd (by omega) (fun k H2 N acc h1 h2 e1 h4 h5 h6 h7 => ?_) (fun H2 e2 g2 => ?_)
      · obtain ⟨b, hb⟩ : ∃ b, (false :: ref)[k]? = some b := ⟨_, List.getElem?_eq_getElem (by simp; omega)⟩
        have hbd : (false :: ref).getD k false = b := by rw [List.getD_eq_getElem?_getD, hb]; rfl
        refine ⟨rfl, ?_⟩
        refine ⟨_, rfl, _, rfl, false :: ref, k, b, rfl, rfl, by simp; omega, hb, _, rfl, [b], [c], rfl, rfl, _, rfl, ?_⟩
        refine d2 (fun hbc => ?_) (fun hbc => ?_)
        · exact ⟨_, rfl, acc, h4, h5, h6 (by rw [hbd]; simpa using hbc)⟩
        · exact h7 (by rw [hbd]; simpa using hbc)
      rw [eb _ hz0] at g2
      refine ⟨_, rfl, d, rfl, ⟨_, sqL_of g2⟩, fun dd hd2 => ?_⟩
      have hfl : ((List.range' lo (ref.length - lo)).filter fun k => (false :: ref).getD k false == c).length ≤ 1000 := by
        refine Nat.le_trans (List.length_filter_le _ _) ?_
        rw [List.length_range']; omega
      refine filt_list (fun k => ref.getD k false != c) g2 hd2 hfl (fun k H3 N acc h1 e1 h4 h5 h6 h7 => ?_) (fun H3 e3 g3 => ?_)
      · have hk : k < ref.length := by
          have := List.mem_range'_1.mp (List.mem_filter.mp h1).1
          omega
        obtain ⟨b, hb⟩ : ∃ b, ref[k]? = some b := ⟨_, List.getElem?_eq_getElem hk⟩
        have hbd : ref.getD k false = b := by rw [List.getD_eq_getElem?_getD, hb]; rfl
        refine ⟨rfl, ?_⟩
        refine ⟨_, rfl, _, rfl, ref, k, b, rfl, rfl, by omega, hb, _, rfl, [b], [c], rfl, rfl, _, rfl, ?_⟩
        refine n2 (fun hbc => ?_) (fun hbc => ?_)
        · exact ⟨_, rfl, acc, h4, h5, h6 (by rw [hbd]; simpa using hbc)⟩
        · exact h7 (by rw [hbd]; simpa using hbc)
      have e4 := e2.trans e3
      refine ⟨_, rfl, _, rfl, szOf (show 1 ≤ 100000 by decide), fun p5 hp5 => ?_⟩
      have g5 : (upd H3 p5 (.lst [natV ref.length])) dd = _ := (upd_ne (ne_of_none g3 hp5)).trans g3
      refine ⟨dd, p5, _, _, rfl, rfl, g5, upd_same, first_len _ _ _ hfl, fun p6 hp6 => ?_⟩
      have e6 := (e4.trans (same_new (o := .lst [natV ref.length]) hp5)).trans (same_new (o := .lst (((((List.range' lo (ref.length - lo)).filter fun k => (false :: ref).getD k false == c)).filter fun k => ref.getD k false != c).map natV ++ [natV ref.length])) hp6)
      refine ⟨p6, _, 0, _, rfl, rfl, sqL_of upd_same, atI_nat (j := 0) (first_filter _ _ _), ?_⟩
      rw [← p1]
      have ech : ((List.range' lo (ref.length - lo)).find? (isCh ref c)).getD ref.length = firstIn (isCh ref c) lo ref.length := rfl
      rw [ech]
      have hle : firstIn (isCh ref c) lo ref.length ≤ ref.length := firstIn_le
      generalize firstIn (isCh ref c) lo ref.length = ch at hle q
      refine ⟨_, rfl, _, _, rfl, rfl, _, rfl, _, _, rfl, ⟨by omega, by omega, by omega, by omega⟩, fun d3 hd3 => ?_⟩
      refine filt_it (l := ch + 1) (fun k => ref.getD k false == c) (by omega) hd3 (by omega) (fun k H2 N acc h1 h2 e1 h4 h5 h6 h7 => ?_) (fun H7 e7 g7 => ?_)
      · have hk : k < ref.length := by omega
        obtain ⟨b, hb⟩ : ∃ b, ref[k]? = some b := ⟨_, List.getElem?_eq_getElem hk⟩
        have hbd : ref.getD k false = b := by rw [List.getD_eq_getElem?_getD, hb]; rfl
        refine ⟨rfl, ?_⟩
        refine ⟨_, rfl, _, rfl, ref, k, b, rfl, rfl, by omega, hb, _, rfl, [b], [c], rfl, rfl, _, rfl, ?_⟩
        refine d2 (fun hbc => ?_) (fun hbc => ?_)
        · exact ⟨_, rfl, acc, h4, h5, h6 (by rw [hbd]; simpa using hbc)⟩
        · exact h7 (by rw [hbd]; simpa using hbc)
      have e8 := e6.trans e7
      rw [show ((ref.length : Int) - ((ch : Int) + 1)).toNat = ref.length - (ch + 1) by omega] at g7
      refine ⟨_, rfl, _, rfl, _, rfl, szOf (show 1 ≤ 100000 by decide), fun p9 hp9 => ?_⟩
      have g9 : (upd H7 p9 (.lst [natV ref.length])) d3 = _ := (upd_ne (ne_of_none g7 hp9)).trans g7
      refine ⟨d3, p9, _, _, rfl, rfl, g9, upd_same, first_len _ _ _ (by rw [List.length_range']; omega), fun p10 hp10 => ?_⟩
      have e10 := (e8.trans (same_new (o := .lst [natV ref.length]) hp9)).trans (same_new (o := .lst (((List.range' (ch + 1) (ref.length - (ch + 1))).filter fun k => ref.getD k false == c).map natV ++ [natV ref.length])) hp10)
      refine ⟨p10, _, 0, _, rfl, rfl, sqL_of upd_same, atI_nat (j := 0) (first_filter _ _ _), szOf (show 2 ≤ 100000 by decide), fun t ht => ?_⟩
      exact q _ t (e10.trans (same_new ht)) upd_same
end
end Fx

set_option Elab.async false
set_option linter.all false
set_option maxRecDepth 100000
set_option maxHeartbeats 2000000
namespace Fx
open PySem PySem.Spec PyProof.Rows L2
section
variable {P : Program} {w : World} {K : PySem.W.Frag} {mg : Str → Option Value} {base : Heap}
local macro_rules | `(tactic| walk_at "rd") => `(tactic| repeat (first
  | refine ⟨_, rfl, ?_⟩ | refine ⟨_, _, rfl, rfl, ?_⟩ | refine ⟨rfl, ?_⟩ | refine iteT ?_ | refine iteF ?_
  | refine ⟨_, _, rfl, by assumption, ?_⟩ | refine ⟨_, _, rfl, .inr (by assumption), ?_⟩ | refine ⟨_, _, rfl, .inl (by assumption), ?_⟩
  | refine ⟨_, _, _, _, rfl, rfl, by assumption, by first | rfl | exact atI_nat (j := 0) rfl | exact atI_nat (j := 1) rfl | exact atI_nat (j := 2) rfl, ?_⟩
  | refine And.intro (by omega) ?_))
/-! ### _law_done -/
abbrev s_law_done : Stmt := topS 51
theorem sc_law_done : FnScope ["_law_reference", "_law_mode", "_law_spot", "_law_dot", "_law_begun_here", "_law_wide", "_law_change", "_law_back", "_law_goal", "_law_first", "_law_second", "_law_middle"] ["_law_reference", "_law_mode", "_law_spot", "_law_dot", "_law_begun_here"] (defScope s_law_done) := ⟨rfl, rfl, rfl, by decide +kernel, rfl, by decide +kernel, by decide +kernel⟩
def doneL (ref : List Bool) (m : Md) (p : Nat) (c told : Bool) : Option (List Bool × Bool) := (step ref m p c told).map fun ec => (dots m p ec.1 c, ec.2)
def ansD (K : PySem.W.Frag) (H : Hp) (v : V) : Option (List Bool × Bool) → Prop
  | none => v = .non
  | some (ds, c) => ∃ a, v = .ref a ∧ SqT K H a [.str (ln ds), .str (ln [c])]
def smallM : Md → Prop
  | .stay d => -100 ≤ d ∧ d ≤ 100
  | .pass => True
  | .runs n k => n ≤ 100 ∧ k ≤ 100
def spDone (K : PySem.W.Frag) : Sp := fun vs H Q _ => ∃ (ref : List Bool) (v : V) (m : Md) (p : Nat) (c told : Bool), vs = [.str (ln ref), v, .int (p : Int), .str (ln [c]), .bl told] ∧ TD K H v m.data ∧
  smallM m ∧ p < ref.length ∧ ref.length ≤ 100 ∧ (told = false → p = 0) ∧ ∀ H' u, Same H H' → ansD K H' u (doneL ref m p c told) → Q u H'
theorem ok_ldone (D : Df K mg "_law_done" s_law_done ["_law_reference", "_law_mode", "_law_spot", "_law_dot", "_law_begun_here"]) (T : Txt mg) (C_law_other : Cal P w K mg base "_law_other" 1 ["_law_dot"] spOther)
    (C_law_changes : Cal P w K mg base "_law_changes" 1 ["_law_reference", "_law_spot", "_law_dot", "_law_begun_here"] spChanges) :
    Cal P w K mg base "_law_done" 2 ["_law_reference", "_law_mode", "_law_spot", "_law_dot", "_law_begun_here"] (spDone K) := by
  refine D.cal sc_law_done (fun vs H Q E h => ?_) (fun f cdv A outer s H vs Q E hr h => ?_)
  · obtain ⟨_, _, _, _, _, _, rfl, _⟩ := h; rfl
  · obtain ⟨ref, v, m, p, c, told, rfl, hd, hm, hp, hz, ht, q⟩ := h
    refine ⟨_, (pss_cons (ps_set (i := 5) sc_law_done.nd rfl (.inl rfl) (pe_callB call_lenLn (by rfl) T.b_len PySem.boot_len (pa_cons (pv 0) pa_nil)))
      (pss_cons (ps_asg (pe_cal C_law_changes (hr.mono (by decide)) (pa_cons (pv 0) (pa_cons (pv 2) (pa_cons (pv 3) (pa_cons (pv 4) pa_nil))))) (pg_tup rfl (pgs_cons (pg_name (i := 6) sc_law_done.nd rfl (.inl rfl)) (pgs_cons (pg_name (i := 7) sc_law_done.nd rfl (.inl rfl)) pgs_nil))))
      (pss_cons (ps_if (pt_cmpR op_eq (pe_ix ix_tup (pv 1) pe_int (fun _ _ => rfl)) pe_str (nomark _)) (pss_cons (ps_set (i := 8) sc_law_done.nd rfl (.inl rfl) (pe_op op_add (pv 6) (pe_ix ix_tup (pv 1) pe_int (fun _ _ => rfl))))
      (pss_cons (ps_if (PW.pt (pw_or (pt_cmpR op_gt (pv 8) (pv 5) (nomark _)) (pw_or (pt_cmpR op_lt (pv 8) pe_int (nomark _)) (pw_or1 (PW.pt (pw_and (pt_val (pv 4)) (pw_and1 (pt_cmpR op_le (pv 8) (pv 2) (nomark _))))))))) (pss_one (ps_ret pe_non)) pss_nil)
      (pss_one (ps_ret (pe_tup (pa_cons (pe_op op_mulLn (pv 3) (pe_op op_sub (pv 8) (pv 2))) (pa_cons (pe_cal C_law_other (hr.mono (by decide)) (pa_cons (pv 3) pa_nil)) pa_nil))))))) pss_nil)
      (pss_cons (ps_if (pt_cmpR op_eq (pe_ix ix_tup (pv 1) pe_int (fun _ _ => rfl)) pe_str (nomark _)) (pss_one (ps_ret (pe_ifExp (pt_cmpR op_lt (pv 6) (pv 5) (nomark _)) (pe_tup (pa_cons (pe_op op_mulLn (pv 3) (pe_op op_sub (pv 7) (pv 2))) (pa_cons (pv 3) pa_nil))) pe_non))) pss_nil)
      (pss_cons (ps_asg (pe_slice sl_tupA (pv 1) (po_some pe_int) po_none) (pg_tup rfl (pgs_cons (pg_name (i := 9) sc_law_done.nd rfl (.inl rfl)) (pgs_cons (pg_name (i := 10) sc_law_done.nd rfl (.inl rfl)) pgs_nil))))
      (pss_cons (ps_set (i := 11) sc_law_done.nd rfl (.inl rfl) (pe_op op_add (pv 2) (pv 9)))
      (pss_cons (ps_if (PW.pt (pw_or (PW.pt (pw_and (pt_cmpR op_eq (pv 9) pe_int (nomark _)) (pw_and1 (pt_val (pv 4))))) (pw_or1 (pt_cmpR op_gt (pe_op op_add (pv 11) (pv 10)) (pv 5) (nomark _))))) (pss_one (ps_ret pe_non)) pss_nil)
      (pss_cons (ps_if (PW.pt (pw_and (pt_cmpR op_eq (pv 10) pe_int (nomark _)) (pw_and1 (pt_cmpR op_ne (pv 11) (pv 5) (nomark _))))) (pss_one (ps_ret pe_non)) pss_nil)
      (pss_one (ps_ret (pe_tup (pa_cons (pe_op op_addLn (pe_op op_mulLn (pv 3) (pv 9)) (pe_op op_mulLn (pe_cal C_law_other (hr.mono (by decide)) (pa_cons (pv 3) pa_nil)) (pv 10))) (pa_cons (pv 3) pa_nil))))))))))))), ?_⟩
    obtain ⟨a, xs, rfl, hq, hs⟩ := hd.tupI
    walk_at "rd"
    refine ⟨ref, p, c, told, rfl, by omega, hz, fun H1 t e1 ht1 => ?_⟩
    have hq1 := same_t e1 _ _ hq
    refine ⟨t, _, rfl, sqT_of ht1, rfl, ?_⟩
    refine ⟨_, _, rfl, _, _, rfl, rfl, ?_⟩
    generalize hch : change ref p c told = ch at *
    generalize hbk : back ref ch c = bk at *
    cases hs with
    | cons k1 k2 =>
    obtain rfl := k1.strI
    cases m with
    | stay z =>
      cases k2 with
      | cons k2 k3 =>
      cases k3
      obtain rfl := k2.intI
      have fn : ((ch : Int) + z > ref.length ∨ (ch : Int) + z < 0 ∨ ((ch : Int) + z ≤ p ∧ told = true)) → Q .non H1 := fun h => q H1 .non e1 (by simp only [doneL, step, hch]; rw [if_pos h]; exact rfl)
      have fs : ¬ ((ch : Int) + z > ref.length ∨ (ch : Int) + z < 0 ∨ ((ch : Int) + z ≤ p ∧ told = true)) → ∀ b, H1 b = none → Q (.ref b) (upd H1 b (.tup [.str (ln (List.replicate (((ch : Int) + z).toNat - p) c)), .str (ln [!c])])) := fun h b hb =>
        q _ _ (e1.trans (same_new hb)) (by simp only [doneL, step, hch]; rw [if_neg h]; exact ⟨b, rfl, sqT_new⟩)
      walk_at "rd"
      refine d2 (fun h1 => ?_) (fun h1 => ?_)
      · exact fn (.inl (by omega))
      · walk_at "rd"
        refine d2 (fun h2 => ?_) (fun h2 => ?_)
        · exact fn (.inr (.inl (by omega)))
        · walk_at "rd"
          cases told with
          | true =>
            walk_at "rd"
            refine d2 (fun h3 => ?_) (fun h3 => ?_)
            · exact fn (.inr (.inr ⟨by omega, rfl⟩))
            · refine ⟨_, rfl, _, rfl, _, rfl, _, _, rfl, rfl, c, ((ch : Int) + z).toNat - p, rfl, congrArg V.int (by omega), by omega, ?_⟩
              refine ⟨_, rfl, c, rfl, szOf (show 2 ≤ 100000 by decide), fs (by rintro (y | y | ⟨y, _⟩) <;> omega)⟩
          | false =>
            have hp0 := ht rfl
            subst hp0
            refine ⟨_, rfl, _, rfl, _, rfl, _, _, rfl, rfl, c, ((ch : Int) + z).toNat - 0, rfl, congrArg V.int (by omega), by omega, ?_⟩
            refine ⟨_, rfl, c, rfl, szOf (show 2 ≤ 100000 by decide), fs (by rintro (y | y | ⟨y, y2⟩) <;> first | omega | cases y2)⟩
    | pass =>
      walk_at "rd"
      have h5 : (if told = true then p + 1 else 0) ≤ ch := by rw [← hch]; exact firstIn_ge (by split <;> omega)
      have h6 : p ≤ ch := by
        cases told with
        | true => simp at h5; omega
        | false => have := ht rfl; omega
      refine d2 (fun h1 => ?_) (fun h1 => ?_)
      · have h1' : ch < ref.length := by omega
        have h7 : ch + 1 ≤ bk := by rw [← hbk]; exact firstIn_ge (by omega)
        have h8 : bk ≤ ref.length := by rw [← hbk]; exact firstIn_le
        refine ⟨_, rfl, _, rfl, _, rfl, _, _, rfl, rfl, c, bk - p, rfl, congrArg V.int (by omega), by omega, ?_⟩
        refine ⟨_, rfl, szOf (show 2 ≤ 100000 by decide), fun b hb => q _ _ (e1.trans (same_new hb)) ?_⟩
        simp only [doneL, step, hch, hbk]
        rw [if_pos h1']
        exact ⟨b, rfl, sqT_new⟩
      · refine q _ _ e1 ?_
        simp only [doneL, step, hch]
        rw [if_neg (by omega)]
        exact rfl
    | runs n k =>
      cases k2 with
      | cons k2 k3 =>
      cases k3 with
      | cons k3 k4 =>
      cases k4
      obtain rfl := k2.intI
      obtain rfl := k3.intI
      have hm1 := hm.1
      have hm2 := hm.2
      have fn : (p + n + k > ref.length ∨ (n = 0 ∧ told = true) ∨ (k = 0 ∧ p + n < ref.length)) → ∀ H', Same H H' → Q .non H' := fun h H' e => q H' .non e (by simp only [doneL, step]; rw [if_pos h]; exact rfl)
      have fs : ¬ (p + n + k > ref.length ∨ (n = 0 ∧ told = true) ∨ (k = 0 ∧ p + n < ref.length)) → ∀ H', Same H H' → ∀ b, H' b = none → Q (.ref b) (upd H' b (.tup [.str (ln (List.replicate n c ++ List.replicate k (!c))), .str (ln [c])])) := fun h H' e b hb =>
        q _ _ (e.trans (same_new hb)) (by simp only [doneL, step]; rw [if_neg h]; exact ⟨b, rfl, sqT_new⟩)
      have c0 : ∀ j : Nat, V.int (j : Int) = V.int 0 ↔ j = 0 := fun j => ⟨fun z => by injection z with z; omega, fun z => by subst z; rfl⟩
      walk_at "rd"
      refine ⟨fun z => ?_, fun _ p2 hp2 => ?_⟩
      · exfalso
        have z1 := z.1
        rw [show HT.sIx _ 0 (some 1) = min 1 _ from HT.sIx_nat _ 0 1] at z1
        simp at z1
      rw [cut1]
      have e3 := e1.trans (same_new (o := .tup ([V.str (Md.runs n k).tag, V.int (n : Int), V.int (k : Int)].drop 1)) hp2)
      have fn := fun h => fn h _ e3
      have fs := fun h => fs h _ e3
      refine ⟨p2, _, rfl, sqT_new, rfl, _, _, rfl, _, _, rfl, rfl, ?_⟩
      walk_at "rd"
      by_cases hn0 : n = 0
      · refine dT ((c0 n).mpr hn0) ?_
        cases told with
        | true =>
          walk_at "rd"
          exact fn (.inr (.inl ⟨hn0, rfl⟩))
        | false =>
          walk_at "rd"
          refine d2 (fun h2 => ?_) (fun h2 => ?_)
          · exact fn (.inl (by omega))
          · walk_at "rd"
            refine d2 (fun h3 => ?_) (fun h3 => ?_)
            · walk_at "rd"
              have hk0 := (c0 k).mp h3
              refine n2 (fun h4 => ?_) (fun h4 => ?_)
              · exact fn (.inr (.inr ⟨hk0, by have h4' : ¬ ((p : Int) + n = ref.length) := fun z => h4 (congrArg V.int z); omega⟩))
              · refine ⟨_, rfl, _, rfl, c, n, rfl, rfl, by omega, _, rfl, c, rfl, _, rfl, !c, k, rfl, rfl, by omega, _, _, rfl, rfl, by rw [List.length_replicate, List.length_replicate]; omega, _, rfl, szOf (show 2 ≤ 100000 by decide), fs ?_⟩
                have h4' : (p : Int) + n = ref.length := by injection h4
                rintro (y | ⟨y, y2⟩ | ⟨y, y2⟩) <;> first | omega | cases y2
            · have hk0 := fun z => h3 ((c0 k).mpr z)
              refine ⟨_, rfl, _, rfl, c, n, rfl, rfl, by omega, _, rfl, c, rfl, _, rfl, !c, k, rfl, rfl, by omega, _, _, rfl, rfl, by rw [List.length_replicate, List.length_replicate]; omega, _, rfl, szOf (show 2 ≤ 100000 by decide), fs ?_⟩
              rintro (y | ⟨y, y2⟩ | ⟨y, y2⟩) <;> first | omega | exact hk0 y | cases y2
      · refine dF (fun z => hn0 ((c0 n).mp z)) ?_
        walk_at "rd"
        refine d2 (fun h2 => ?_) (fun h2 => ?_)
        · exact fn (.inl (by omega))
        · walk_at "rd"
          refine d2 (fun h3 => ?_) (fun h3 => ?_)
          · walk_at "rd"
            have hk0 := (c0 k).mp h3
            refine n2 (fun h4 => ?_) (fun h4 => ?_)
            · exact fn (.inr (.inr ⟨hk0, by have h4' : ¬ ((p : Int) + n = ref.length) := fun z => h4 (congrArg V.int z); omega⟩))
            · refine ⟨_, rfl, _, rfl, c, n, rfl, rfl, by omega, _, rfl, c, rfl, _, rfl, !c, k, rfl, rfl, by omega, _, _, rfl, rfl, by rw [List.length_replicate, List.length_replicate]; omega, _, rfl, szOf (show 2 ≤ 100000 by decide), fs ?_⟩
              have h4' : (p : Int) + n = ref.length := by injection h4
              rintro (y | ⟨y, y2⟩ | ⟨y, y2⟩) <;> first | omega | exact hn0 y
          · have hk0 := fun z => h3 ((c0 k).mpr z)
            refine ⟨_, rfl, _, rfl, c, n, rfl, rfl, by omega, _, rfl, c, rfl, _, rfl, !c, k, rfl, rfl, by omega, _, _, rfl, rfl, by rw [List.length_replicate, List.length_replicate]; omega, _, rfl, szOf (show 2 ≤ 100000 by decide), fs ?_⟩
            rintro (y | ⟨y, y2⟩ | ⟨y, y2⟩) <;> first | omega | exact hk0 y | exact hn0 y
end
end Fx

set_option Elab.async false
set_option linter.all false
set_option maxRecDepth 100000
set_option maxHeartbeats 2000000
set_option pp.maxSteps 400
namespace Fx
open PySem PySem.Spec PyProof.Rows L2
section
variable {P : Program} {w : World} {K : PySem.W.Frag} {mg : Str → Option Value} {base : Heap}
local macro_rules | `(tactic| walk_at "rd") => `(tactic| repeat (first
  | refine ⟨_, rfl, ?_⟩ | refine ⟨_, _, rfl, rfl, ?_⟩ | refine ⟨rfl, ?_⟩ | refine iteT ?_ | refine iteF ?_
  | refine ⟨_, _, rfl, by assumption, ?_⟩ | refine ⟨_, _, rfl, .inr (by assumption), ?_⟩ | refine ⟨_, _, rfl, .inl (by assumption), ?_⟩
  | refine ⟨_, _, _, _, rfl, rfl, by assumption, by first | rfl | exact atI_nat (j := 0) rfl | exact atI_nat (j := 1) rfl | exact atI_nat (j := 2) rfl, ?_⟩
  | refine And.intro (by omega) ?_))
/-! ### _law_read -/
def pieces : List Nat → Bool → List (List Bool)
  | [], _ => []
  | r :: rs, c => List.replicate r c :: pieces rs (!c)
theorem pieces_flat : ∀ (rs : List Nat) (c : Bool), (pieces rs c).flatten = lineFrom rs c
  | [], _ => rfl
  | r :: rs, c => by rw [pieces, List.flatten_cons, pieces_flat rs]; rfl
theorem pieces_len : ∀ (rs : List Nat) (c : Bool), (pieces rs c).length = rs.length
  | [], _ => rfl
  | r :: rs, c => by rw [pieces, List.length_cons, List.length_cons, pieces_len rs]
theorem pieces_sum : ∀ (rs : List Nat) (c : Bool), (((pieces rs c).map ln).map fun x => x.length).sum = rs.sum
  | [], _ => rfl
  | r :: rs, c => by
    rw [pieces, List.map_cons, List.map_cons, List.sum_cons, List.sum_cons, pieces_sum rs, ln_len, List.length_replicate]
theorem pieces_at : ∀ (rs : List Nat) (c : Bool) {j r : Nat}, rs[j]? = some r → (pieces rs c)[j]? = some (List.replicate r (if j % 2 = 0 then c else !c))
  | [], _, j, r, h => by simp at h
  | r0 :: rs, c, 0, r, h => by simp at h; simp [pieces, h]
  | r0 :: rs, c, j + 1, r, h => by
    have ih := pieces_at rs (!c) (j := j) (r := r) (by simpa using h)
    rw [pieces, List.getElem?_cons_succ, ih]
    congr 2
    rcases Nat.mod_two_eq_zero_or_one j with e | e
    · rw [if_pos e, if_neg (by omega)]
    · rw [if_neg (by omega), if_pos (by omega), Bool.not_not]
theorem join_lns : ∀ L : List (List Bool), Str.join (ln []) (L.map ln) = ln L.flatten
  | [] => rfl
  | [x] => by simp [Str.join]
  | x :: y :: r => by
    have ih := join_lns (y :: r)
    rw [List.map_cons, List.flatten_cons, ← ln_app, ← ih, List.map_cons]
    show ln x ++ ln [] ++ Str.join (ln []) (ln y :: r.map ln) = _
    rw [ln_app, List.append_nil]
abbrev s_law_read : Stmt := topS 52
theorem sc_law_read : FnScope ["_law_reference", "_law_telling_here", "_law_row_here", "_law_dot", "_law_begun_here", "_law_mode", "_law_done_here", "_law_k", "_law_piece"] ["_law_reference", "_law_telling_here"] (defScope s_law_read) := ⟨rfl, rfl, rfl, by decide +kernel, rfl, by decide +kernel, by decide +kernel⟩
theorem ok_lread (D : Df K mg "_law_read" s_law_read ["_law_reference", "_law_telling_here"]) (T : Txt mg) 
    (C_law_done : Cal P w K mg base "_law_done" 2 ["_law_reference", "_law_mode", "_law_spot", "_law_dot", "_law_begun_here"] (spDone K)) :
    Cal P w K mg base "_law_read" 3 ["_law_reference", "_law_telling_here"] (spRead K) := by
  refine D.cal sc_law_read (fun vs H Q E h => ?_) (fun f cdv A outer s H vs Q E hr h => ?_)
  · obtain ⟨_, _, _, rfl, _⟩ := h; rfl
  · obtain ⟨ref, v, t, rfl, hd, hg, hz, q⟩ := h
    refine ⟨_, (pss_cons (ps_if (PW.pt (pw_and (pt_cmpR (op_neNilT hr.units) (pv 1) (pe_tup pa_nil) (nomark _)) (pw_and1 (pt_cmpR op_eq (pe_ix ix_tup (pe_ix ix_tup (pv 1) pe_int (fun _ _ => rfl)) pe_int (fun _ _ => rfl)) pe_str (nomark _))))) (pss_cons (ps_set (i := 2) sc_law_read.nd rfl (.inl rfl) (pe_join (pe_lnC w_empty) (pe_lc (own := [("_law_k", 7), ("_law_piece", 8)]) (g := (gTup K 2 (gCons (gName 7) (gCons (gName 8) gNil)))) (tt := tYes) rfl sc_law_read.nd (pi_enumT (by rfl) T.b_enumerate (pa_cons (pe_ix ix_tup (pe_ix ix_tup (pv 1) pe_int (fun _ _ => rfl)) pe_int (fun _ _ => rfl)) pa_nil)) (blkOk_by (own := [("_law_k", 7), ("_law_piece", 8)]) (N := ["_law_reference", "_law_telling_here", "_law_row_here", "_law_dot", "_law_begun_here", "_law_mode", "_law_done_here", "_law_k", "_law_piece"]) (sc := defScope s_law_read) (by decide +kernel)) (fun _ _ _ _ _ => (pg_tup rfl (pgs_cons (pg_name (i := 7) sc_law_read.nd rfl (.inl rfl)) (pgs_cons (pg_name (i := 8) sc_law_read.nd rfl (.inl rfl)) pgs_nil)))) (fun _ _ _ _ _ => pts_nil) (fun _ _ _ _ _ => (pe_op op_mulLn (pe_ix ix_ln (pe_lnC w_both) (pe_op op_mod (pe_callTy call_int1 (by rfl) T.b_int (by decide +kernel) (pa_cons (pv 7) pa_nil)) pe_int) (fun _ _ => rfl)) (pv 8))))))
      (pss_one (ps_ret (pe_ifExp (pt_cmpR op_eq (pe_callB call_lenLn (by rfl) T.b_len PySem.boot_len (pa_cons (pv 2) pa_nil)) (pe_callB call_lenLn (by rfl) T.b_len PySem.boot_len (pa_cons (pv 0) pa_nil)) (nomark _)) (pv 2) pe_non)))) pss_nil)
      (pss_cons (ps_asg (pe_tup (pa_cons (pe_lnC w_empty) (pa_cons (pe_lnC w_white) (pa_cons pe_bl pa_nil)))) (pg_tup rfl (pgs_cons (pg_name (i := 2) sc_law_read.nd rfl (.inl rfl)) (pgs_cons (pg_name (i := 3) sc_law_read.nd rfl (.inl rfl)) (pgs_cons (pg_name (i := 4) sc_law_read.nd rfl (.inl rfl)) pgs_nil)))))
      (pss_cons (ps_for PassesOwn.never rfl (pi_tup (pv 1)) (pg_name (i := 5) sc_law_read.nd rfl (.inl rfl)) (pss_cons (ps_if (pt_cmpR op_ge (pe_callB call_lenLn (by rfl) T.b_len PySem.boot_len (pa_cons (pv 2) pa_nil)) (pe_callB call_lenLn (by rfl) T.b_len PySem.boot_len (pa_cons (pv 0) pa_nil)) (nomark _)) (pss_one (ps_ret pe_non)) pss_nil)
      (pss_cons (ps_set (i := 6) sc_law_read.nd rfl (.inl rfl) (pe_cal C_law_done (hr.mono (by decide)) (pa_cons (pv 0) (pa_cons (pv 5) (pa_cons (pe_callB call_lenLn (by rfl) T.b_len PySem.boot_len (pa_cons (pv 2) pa_nil)) (pa_cons (pv 3) (pa_cons (pv 4) pa_nil)))))))
      (pss_cons (ps_if (pt_cmpR op_isN (pv 6) pe_non (nomark _)) (pss_one (ps_ret pe_non)) pss_nil)
      (pss_one (ps_par3 (i := 2) (j := 3) (l := 4) (by rfl) sc_law_read.nd rfl rfl rfl (by decide) (by decide) (by decide) rfl rfl rfl (pa_cons (pe_op op_addLn (pv 2) (pe_ix ix_tup (pv 6) pe_int (fun _ _ => rfl))) (pa_cons (pe_ix ix_tup (pv 6) pe_int (fun _ _ => rfl)) (pa_cons pe_bl pa_nil))) (by rfl)))))))
      (pss_one (ps_ret (pe_ifExp (pt_cmpR op_eq (pe_callB call_lenLn (by rfl) T.b_len PySem.boot_len (pa_cons (pv 2) pa_nil)) (pe_callB call_lenLn (by rfl) T.b_len PySem.boot_len (pa_cons (pv 0) pa_nil)) (nomark _)) (pv 2) pe_non)))))), ?_⟩
    obtain ⟨a, xs, rfl, hq, hs⟩ := hd.tupI
    refine ⟨_, rfl, Nat.zero_le _, fun p hp => ?_⟩
    have s1 := same_new (o := .tup []) hp
    have hq1 := same_t s1 _ _ hq
    refine ⟨_, p, hd.same s1, rfl, upd_same, shaped_of (shp_tl t), _, rfl, ?_⟩
    cases t with
    | full rs =>
      cases hs with
      | cons k1 k2 =>
      cases k2
      obtain ⟨b, ys, rfl, hq2, hs2⟩ := k1.tupI
      cases hs2 with
      | cons k1 k2 =>
      cases k2 with
      | cons k2 k3 =>
      cases k3
      obtain rfl := k1.strI
      obtain ⟨c2, zs, rfl, hq3, hs3⟩ := k2.tupI
      obtain rfl := hs3.ints
      have hq2' := same_t s1 _ _ hq2
      have hq3' := same_t s1 _ _ hq3
      refine nT (by simp [Tl.items]) ?_
      walk_at "rd"
      refine ⟨⟨_, rfl⟩, ?_⟩
      walk_at "rd"
      intro d hd
      have hL : (lineFrom rs false).length ≤ 1000 := by rw [lineFrom_len]; have := hg.most; omega
      refine loop_it (walk_enumT (K := K) (a := c2) (xs := rs.map fun (n : Nat) => V.int (n : Int))) (fun j H2 => Same (upd H p (.tup [])) H2 ∧ H2 d = some (.lst (((pieces rs false).take j).map lnV)))
        ⟨same_new hd, upd_same⟩ (fun j H2 _ h => same_t h.1 _ _ hq3') ?_ ?_
      · rintro j x H2 H3 hj ⟨e2, g1⟩ ⟨Tt, u1, u2, rfl, hT, rfl, z1, z2⟩
        rw [List.length_map] at hj
        obtain ⟨r, hr0⟩ : ∃ r, rs[j]? = some r := ⟨_, List.getElem?_eq_getElem hj⟩
        have z2' : (rs.map fun (n : Nat) => V.int (n : Int))[j]? = some u2 := z2
        rw [List.getElem?_map, hr0] at z2'
        obtain rfl := (Option.some.inj z2').symm
        obtain rfl := (Option.some.inj z1).symm
        have e3 := e2.trans (same_new (o := .tup [.int (j : Int), .int (r : Int)]) hT)
        have g2 : (upd H2 Tt (.tup [.int (j : Int), .int (r : Int)])) d = _ := (upd_ne (ne_of_none g1 hT)).trans g1
        have hpc := pieces_at rs false hr0
        have hrl := hg.le r (List.mem_of_getElem? hr0)
        have hjl := hg.len
        refine ⟨Tt, _, rfl, sqT_new, rfl, _, _, rfl, _, _, rfl, rfl, rfl, ?_⟩
        refine ⟨_, rfl, .inl ⟨_, rfl, _, _, rfl, rfl, (show (0 : Int) < 2 by decide), [false, true], j % 2, (if j % 2 = 0 then false else true), rfl, congrArg V.int (by omega), by simp, ?_, ?_⟩⟩
        · rcases Nat.mod_two_eq_zero_or_one j with e | e <;> rw [e] <;> rfl
        refine ⟨_, rfl, _, r, rfl, rfl, by omega, _, g2, ?_, same_mut e3 hd, ?_⟩
        · rw [List.length_map, List.length_take, pieces_len]
          exact szLt (by omega)
        · rw [upd_same, take_snoc hpc, List.map_append]; rfl
      · rintro H2 ⟨e2, g1⟩
        rw [List.length_map, List.take_of_length_le (by rw [pieces_len]; exact Nat.le_refl _)] at g1
        have e3 := s1.trans e2
        refine ⟨ln [], d, (pieces rs false).map ln, rfl, rfl, .inl (by rw [List.map_map]; exact sqL_of g1), ?_, ?_⟩
        · rw [pieces_sum, ln_len]
          have := hg.most
          simp
          omega
        rw [TL.join_eq, join_lns, pieces_flat]
        have q := q _ e3
        simp only [readTl] at q
        refine ⟨_, rfl, _, rfl, hL, _, rfl, ref, rfl, by omega, rfl, _, rfl, ?_⟩
        refine d2 (fun h1 => ?_) (fun h1 => ?_)
        · rw [if_pos (vint.mp h1)] at q
          exact ⟨_, rfl, q⟩
        · rw [if_neg fun z => h1 (vint.mpr z)] at q
          exact q
    | modes ms =>
      have hl : xs.length = ms.length := by rw [hs.length, Tl.items, List.length_map]
      rcases Classical.em (ms = []) with h0 | h0
      all_goals
        first
        | refine nF (congrArg (List.map Md.data) h0) ?_
          walk_at "rd"
        | obtain ⟨m0, mr, hms⟩ : ∃ m0 mr, ms = m0 :: mr := by
            cases ms with
            | nil => exact absurd rfl h0
            | cons a b => exact ⟨a, b, rfl⟩
          refine nT (by simp [Tl.items, h0]) ?_
          obtain ⟨v0, hv0, htd0⟩ := hs.get (i := 0) (d := m0.data) (by rw [hms]; rfl)
          obtain ⟨b0, vs0, rfl, hqb0, hsb0⟩ := htd0.tupI
          obtain ⟨v1, rfl, k4⟩ : ∃ vr, vs0 = .str m0.tag :: vr ∧ True := by
            cases hsb0 with
            | cons k3 k4 => exact ⟨_, by rw [k3.strI], trivial⟩
          have hqb0' := same_t s1 _ _ hqb0
          refine ⟨_, rfl, a, xs, 0, _, rfl, rfl, hq1, atI_nat (j := 0) hv0, ?_⟩
          walk_at "rd"
          refine dF (tag_ne m0) ?_
          walk_at "rd"
        refine ⟨szOf (show 3 ≤ 100000 by decide), ?_⟩
        intro p2 hp2
        have s2 := s1.trans (same_new (o := .tup [.str (ln []), .str (ln [false]), .bl false]) hp2)
        refine ⟨p2, _, rfl, sqT_new, rfl, _, _, rfl, _, _, rfl, _, _, rfl, rfl, ?_⟩
        refine ⟨_, rfl, a, rfl, ⟨_, same_t s2 _ _ hq⟩, for_tup (xs := xs) (fun i σ H1 => Same H H1 ∧ ∃ (fo : List Bool) (c told : Bool) (y2 y3 : Option V),
            σ = [some (.str (ln ref)), some (.ref a), some (.str (ln fo)), some (.str (ln [c])), some (.bl told), y2, y3, none, none] ∧
            fo.length ≤ ref.length ∧ (told = false → fo.length = 0) ∧ rd ref (ms.drop i) fo c told = rd ref ms [] false false)
          ⟨s2, [], false, false, none, none, rfl, Nat.zero_le _, fun _ => rfl, rfl⟩ (fun i σ H1 _ h => same_t h.1 _ _ hq) ?_ ?_⟩
        · rintro i x σ H1 hx ⟨e1, fo, c, told, y2, y3, rfl, hf, ht, hrd⟩
          obtain ⟨dd, hdi, htd⟩ := hs.getV hx
          obtain ⟨m, hm, rfl⟩ : ∃ m, ms[i]? = some m ∧ dd = m.data := by
            rw [Tl.items, List.getElem?_map] at hdi
            cases hz : ms[i]? with
            | none => rw [hz] at hdi; cases hdi
            | some m => rw [hz] at hdi; exact ⟨m, rfl, (Option.some.inj hdi).symm⟩
          have hgm := hg.2 m (List.mem_of_getElem? hm)
          have hsm : smallM m := by
            cases m with
            | stay d => have h1 := hgm.1; have h2 := hgm.2; exact ⟨by omega, by omega⟩
            | pass => trivial
            | runs n k => have h1 := hgm.1; have h2 := hgm.2; exact ⟨by omega, by omega⟩
          have hdr : ms.drop i = m :: ms.drop (i + 1) := by
            obtain ⟨h1, h2⟩ := List.getElem?_eq_some_iff.mp hm
            rw [List.drop_eq_getElem_cons h1, h2]
          rw [hdr, rd] at hrd
          refine ⟨_, rfl, fo, rfl, by omega, _, rfl, ref, rfl, by omega, _, _, rfl, rfl, _, rfl, d2 (fun h1 => ?_) (fun h1 => ?_)⟩
          · rw [if_neg (by omega)] at hrd
            have q := q H1 e1
            simp only [readTl] at q
            rw [← hrd] at q
            exact q
          · have h1' : fo.length < ref.length := by omega
            rw [if_pos h1'] at hrd
            refine ⟨_, rfl, _, rfl, _, rfl, fo, rfl, by omega, _, rfl, _, rfl, ref, _, m, fo.length, c, told, rfl, htd.same e1, hsm, h1', hz, ht, fun H3 u e3 hu => ?_⟩
            have e4 := e1.trans e3
            cases hst : step ref m fo.length c told with
            | none =>
              rw [hst] at hrd
              simp only [doneL, hst] at hu
              obtain rfl : u = .non := hu
              have q := q H3 e4
              simp only [readTl] at q
              rw [← hrd] at q
              exact ⟨_, rfl, rfl, _, rfl, dT rfl q⟩
            | some ec =>
              obtain ⟨e, c'⟩ := ec
              rw [hst] at hrd
              simp only [doneL, hst] at hu
              obtain ⟨b, rfl, hqb⟩ := hu
              have hdl := dots_len hst ht h1'
              refine ⟨_, rfl, rfl, _, rfl, dF (fun z => nomatch z) ?_⟩
              refine ⟨_, rfl, _, rfl, b, _, 0, _, rfl, rfl, hqb, atI_nat (j := 0) rfl, fo, dots m fo.length e c, rfl, rfl, by omega, _, rfl, b, _, 1, _, rfl, rfl, hqb, atI_nat (j := 1) rfl, _, _, _, rfl, ?_⟩
              exact ⟨e4, fo ++ dots m fo.length e c, c', true, some x, some (.ref b), rfl, by rw [List.length_append]; omega, fun z => (by cases z), hrd⟩
        · rintro σ H1 ⟨e1, fo, c, told, y2, y3, rfl, hf, ht, hrd⟩
          rw [hl, List.drop_length] at hrd
          have q := q H1 e1
          simp only [readTl] at q
          rw [← hrd, rd] at q
          refine ⟨_, rfl, fo, rfl, by omega, _, rfl, ref, rfl, by omega, rfl, _, rfl, d2 (fun h1 => ?_) (fun h1 => ?_)⟩
          · rw [if_pos (vint.mp h1)] at q
            exact ⟨_, rfl, q⟩
          · rw [if_neg fun z => h1 (vint.mpr z)] at q
            exact q

end
end Fx

set_option Elab.async false
set_option linter.all false
set_option maxRecDepth 100000
set_option maxHeartbeats 2000000
set_option pp.maxSteps 400
namespace Fx
open PySem PySem.Spec PyProof.Rows L2
section
variable {P : Program} {w : World} {K : PySem.W.Frag} {mg : Str → Option Value} {base : Heap}
local macro_rules | `(tactic| walk_at "rd") => `(tactic| repeat (first
  | refine ⟨_, rfl, ?_⟩ | refine ⟨_, _, rfl, rfl, ?_⟩ | refine ⟨rfl, ?_⟩ | refine iteT ?_ | refine iteF ?_
  | refine ⟨_, _, rfl, by assumption, ?_⟩ | refine ⟨_, _, rfl, .inr (by assumption), ?_⟩ | refine ⟨_, _, rfl, .inl (by assumption), ?_⟩
  | refine ⟨_, _, _, _, rfl, rfl, by assumption, by first | rfl | exact atI_nat (j := 0) rfl | exact atI_nat (j := 1) rfl | exact atI_nat (j := 2) rfl, ?_⟩
  | refine And.intro (by omega) ?_))
/-! ### _law_row_of -/
abbrev s_law_row_of : Stmt := topS 58
theorem sc_law_row_of : FnScope ["_law_wide", "_law_rows", "_law_found", "_law_k", "_law_dots", "_law_row_here"] ["_law_wide", "_law_rows"] (defScope s_law_row_of) := ⟨rfl, rfl, rfl, by decide +kernel, rfl, by decide +kernel, by decide +kernel⟩
def spLRowOf (K : PySem.W.Frag) : Sp := fun vs H Q _ => ∃ (n : Nat) (a : Addr) (P' : List (List Bool)), vs = [.int (n : Int), .ref a] ∧ SqL K H a (P'.map lnV) ∧ (∀ l ∈ P', l.length = n) ∧ n ≤ 10 ∧ P'.length ≤ 100 ∧
  ∀ H', Same H H' → Q (rowV (rowOf n P')) H'
theorem lift_lns : ∀ {ys : List Str}, (∀ x ∈ ys, ∃ l, x = ln l) → ∃ L : List (List Bool), ys = L.map ln
  | [], _ => ⟨[], rfl⟩
  | y :: ys, h => by
    obtain ⟨l, rfl⟩ := h y List.mem_cons_self
    obtain ⟨L, rfl⟩ := lift_lns fun x hx => h x (List.mem_cons_of_mem _ hx)
    exact ⟨l :: L, rfl⟩
theorem nodup_of_ln : ∀ {L : List (List Bool)}, (L.map ln).Nodup → L.Nodup
  | [], _ => List.nodup_nil
  | l :: L, h => by
    rw [List.map_cons, List.nodup_cons] at h
    exact List.nodup_cons.mpr ⟨fun z => h.1 (List.mem_map.mpr ⟨l, z, rfl⟩), nodup_of_ln h.2⟩
theorem ok_lrowof (D : Df K mg "_law_row_of" s_law_row_of ["_law_wide", "_law_rows"]) (T : Txt mg) : Cal P w K mg base "_law_row_of" 1 ["_law_wide", "_law_rows"] (spLRowOf K) := by
  refine D.cal sc_law_row_of (fun vs H Q E h => ?_) (fun f cdv A outer s H vs Q E hr h => ?_)
  · obtain ⟨_, _, _, rfl, _⟩ := h; rfl
  · obtain ⟨n, a, P', rfl, hh, hl, hn, hz, q⟩ := h
    refine ⟨_, (pss_cons (ps_if (pt_cmpR (op_eqNilL hr.units) (pv 1) (pe_lst pa_nil) (nomark _)) (pss_one (ps_ret pe_non)) pss_nil)
      (pss_cons (ps_set (i := 2) sc_law_row_of.nd rfl (.inl rfl) (pe_lnC w_empty))
      (pss_cons (ps_for PassesOwn.never rfl (pi_range1 (by rfl) T.b_range (pa_cons (pv 0) pa_nil)) (pg_name (i := 3) sc_law_row_of.nd rfl (.inr rfl)) (pss_cons (ps_set (i := 4) sc_law_row_of.nd rfl (.inl rfl) (pe_callB (cr_sortedSetS rfl) (by rfl) T.b_sorted (by decide +kernel) (pa_cons (pe_callTy (cr_setOfS rfl) (by rfl) T.b_set (by decide +kernel) (pa_cons (pe_lc (own := [("_law_row_here", 5)]) (g := (gName 5)) (tt := tYes) rfl sc_law_row_of.nd (pi_list (pv 1)) (blkOk_by (own := [("_law_row_here", 5)]) (N := ["_law_wide", "_law_rows", "_law_found", "_law_k", "_law_dots", "_law_row_here"]) (sc := defScope s_law_row_of) (by decide +kernel)) (fun _ _ _ _ _ => (pg_name (i := 5) sc_law_row_of.nd rfl (.inl rfl))) (fun _ _ _ _ _ => pts_nil) (fun _ _ _ _ _ => (pe_ix ix_ln (pv 5) (pv 3) (fun _ _ => rfl)))) pa_nil)) pa_nil)))
      (pss_one (ps_set (i := 2) sc_law_row_of.nd rfl (.inl rfl) (pe_op op_add_str (pv 2) (pe_ifExp (pt_cmpR op_eq (pe_callB call_len_seq (by rfl) T.b_len PySem.boot_len (pa_cons (pv 4) pa_nil)) pe_int (nomark _)) (pe_ix ix_list (pv 4) pe_int (fun _ _ => rfl)) pe_str))))))
      (pss_one (ps_ret (pv 2)))))), ?_⟩
    refine ⟨_, rfl, Nat.zero_le _, fun p2 hp2 => ?_⟩
    have s2 := same_new (o := .lst []) hp2
    refine ⟨a, p2, _, _, rfl, rfl, sqL_same s2 hh, dpAll_lns P', upd_same, shp_lns P', _, rfl, d2 (fun h0 => ?_) (fun h0 => ?_)⟩
    · have e0 : P' = [] := by simpa using h0
      have := q _ s2
      rw [rowOf, if_pos e0] at this
      exact this
    · have e0 : P' ≠ [] := by simpa using h0
      have q2 : ∀ H', Same H H' → Q (.str ⟨((List.range n).map (sureAt P')).toArray⟩) H' := fun H' e => by
        have := q H' e
        rw [rowOf, if_neg e0] at this
        exact this
      refine ⟨_, rfl, _, rfl, by omega, by omega, for_range (lo := 0) (fun k σ H1 => Same H H1 ∧ ∃ y1 y2 y3 : Option V,
          σ = [some (.int (n : Int)), some (.ref a), some (.str ⟨((List.range k).map (sureAt P')).toArray⟩), y1, y2, y3]) ⟨s2, _, _, _, rfl⟩ ?_ ?_⟩
      · rintro k σ H1 hk0 ⟨e1, y1, y2, y3, rfl⟩
        have hkn : k < n := by omega
        rw [show V.int (0 + (k : Int)) = V.int ((k : Nat) : Int) from congrArg V.int (by omega)]
        have hh1 := sqL_same e1 hh
        refine ⟨_, rfl, a, rfl, ⟨_, hh1⟩, fun d hd => ?_⟩
        have e2 := e1.trans (same_new (o := .lst []) hd)
        have hdn := none_of e1 hd
        refine loop_it (walk_list (K := K) (a := a) (xs := P'.map lnV)) (fun j H2 => Same H H2 ∧ H2 d = some (.lst (((P'.take j).map fun l => ln [l.getD k false]).map V.str)))
          ⟨e2, upd_same⟩ (fun j H2 _ h => sqL_same h.1 hh) ?_ ?_
        · rintro j x H2 H3 hj ⟨e3, g2⟩ ⟨rfl, hx⟩
          rw [List.length_map] at hj
          obtain ⟨l, hlj, rfl⟩ : ∃ l, P'[j]? = some l ∧ x = lnV l := by
            rw [List.getElem?_map] at hx
            cases hz : P'[j]? with
            | none => rw [hz] at hx; cases hx
            | some l => rw [hz] at hx; exact ⟨l, rfl, (Option.some.inj hx).symm⟩
          have hll := hl l (List.mem_of_getElem? hlj)
          obtain ⟨b, hb⟩ : ∃ b, l[k]? = some b := ⟨_, List.getElem?_eq_getElem (by omega)⟩
          have hbd : l.getD k false = b := by rw [List.getD_eq_getElem?_getD, hb]; rfl
          refine ⟨rfl, ?_⟩
          refine ⟨_, rfl, _, rfl, l, k, b, rfl, rfl, by omega, hb, _, g2, ?_, same_mut e3 hdn, ?_⟩
          · rw [List.length_map, List.length_map, List.length_take]
            exact szLt (by omega)
          · rw [upd_same, take_snoc hlj, List.map_append, List.map_append, ← hbd]
            rfl
        · rintro H2 ⟨e3, g2⟩
          rw [List.length_map, List.take_length] at g2
          refine ⟨d, P'.map fun l => ln [l.getD k false], rfl, sqL_of g2, by rw [List.length_map]; exact Nat.lt_of_le_of_lt (Nat.succ_le_succ hz) (by decide), fun sa hsa => ?_⟩
          refine ⟨sa, _, rfl, upd_same, fun ys q1 w1 w2 w3 hq1 => ?_⟩
          have e4 := (e3.trans (same_new hsa)).trans (same_new (o := .lst (ys.map V.str)) hq1)
          obtain ⟨ks, rfl⟩ := lift_lns fun x hx => by
            obtain ⟨l, _, rfl⟩ := List.mem_map.mp ((w3 x).mp hx)
            exact ⟨_, rfl⟩
          have nd := nodup_of_ln w1
          have hm : ∀ x, x ∈ ks ↔ ∃ l ∈ P', x = [l.getD k false] := fun x => by
            constructor
            · intro hx
              obtain ⟨l, hl1, e⟩ := List.mem_map.mp ((w3 (ln x)).mp (List.mem_map.mpr ⟨x, hx, rfl⟩))
              exact ⟨l, hl1, (ln_inj e).symm⟩
            · rintro ⟨l, hl1, rfl⟩
              obtain ⟨z, hz1, e⟩ := List.mem_map.mp ((w3 _).mpr (List.mem_map.mpr ⟨l, hl1, rfl⟩))
              rw [← ln_inj e]; exact hz1
          obtain ⟨su1, su2⟩ := sure_of e0 nd hm
          have hnext : ∀ c, sureAt P' k = c → (⟨((List.range k).map (sureAt P')).toArray⟩ : Str) ++ ⟨#[c]⟩ = ⟨((List.range (k + 1)).map (sureAt P')).toArray⟩ := fun c hc => by
            rw [str_snoc, List.range_succ, List.map_append, ← hc]; rfl
          have hsz : ∀ c : Nat, (⟨((List.range k).map (sureAt P')).toArray⟩ : Str).length + (⟨#[c]⟩ : Str).length ≤ sizeLine := fun c => szOf (by simp [Str.length]; omega)
          refine ⟨_, rfl, _, rfl, q1, _, rfl, .inl sqL_new, rfl, _, rfl, d2 (fun h1 => ?_) (fun h1 => ?_)⟩
          · have h1' : ks.length = 1 := by
              injection h1 with h1
              simp at h1; omega
            obtain ⟨x0, rfl⟩ := List.length_eq_one_iff.mp h1'
            obtain ⟨l0, hl0, e⟩ := (hm x0).mp (by simp)
            subst e
            refine ⟨_, rfl, q1, _, 0, .str (ln [l0.getD k false]), rfl, rfl, sqL_new, atI_nat (j := 0) rfl, _, _, rfl, rfl, hsz (dot (l0.getD k false)), e4, some (.int (k : Int)), some (.ref q1), y3, ?_⟩
            rw [show ln [l0.getD k false] = ⟨#[dot (l0.getD k false)]⟩ from rfl, hnext (dot (l0.getD k false)) (su1 h1' l0 hl0)]
            rfl
          · have h1' : ks.length ≠ 1 := fun z => h1 (by simp [z])
            refine ⟨_, _, rfl, rfl, by rw [w_ask]; exact hsz 63, e4, some (.int (k : Int)), some (.ref q1), y3, ?_⟩
            rw [w_ask, hnext 63 (su2 h1')]
            rfl
      · rintro σ H1 ⟨e1, y1, y2, y3, rfl⟩
        exact ⟨_, rfl, q2 _ e1⟩
end
end Fx

set_option Elab.async false
set_option linter.all false
set_option maxRecDepth 100000
set_option maxHeartbeats 2000000
set_option pp.maxSteps 400
namespace Fx
open PySem PySem.Spec PyProof.Rows L2
section
variable {P : Program} {w : World} {K : PySem.W.Frag} {mg : Str → Option Value} {base : Heap}
local macro_rules | `(tactic| walk_at "rd") => `(tactic| repeat (first
  | refine ⟨_, rfl, ?_⟩ | refine ⟨_, _, rfl, rfl, ?_⟩ | refine ⟨rfl, ?_⟩ | refine iteT ?_ | refine iteF ?_
  | refine ⟨_, _, rfl, by assumption, ?_⟩ | refine ⟨_, _, rfl, .inr (by assumption), ?_⟩ | refine ⟨_, _, rfl, .inl (by assumption), ?_⟩
  | refine ⟨_, _, _, _, rfl, rfl, by assumption, by first | rfl | exact atI_nat (j := 0) rfl | exact atI_nat (j := 1) rfl | exact atI_nat (j := 2) rfl, ?_⟩
  | refine And.intro (by omega) ?_))
/-! ### _law_settled -/
theorem ix_listK {X : Cx} {K : PySem.W.Frag} (h : X.K = K) : IxR X (rIxL K) := h ▸ ix_list
abbrev s_law_settled : Stmt := topS 60
theorem sc_law_settled : FnScope ["_law_rows", "_law_unsure", "_law_first", "_law_k"] ["_law_rows"] (defScope s_law_settled) := ⟨rfl, rfl, rfl, by decide +kernel, rfl, by decide +kernel, by decide +kernel⟩
structure RowsOk (rows : List (Option (List Nat))) : Prop where
  few : rows.length ≤ 60
  cod : ∀ r, some r ∈ rows → ∀ c ∈ r, c < 0x110000
  all : rows.getLast? ≠ some none → ∀ x ∈ rows, x ≠ none
def spLSettled (K : PySem.W.Frag) : Sp := fun vs H Q _ => ∃ (a : Addr) (rows : List (Option (List Nat))), vs = [.ref a] ∧ SqL K H a (rows.map rowV) ∧ RowsOk rows ∧
  ∀ H', Same H H' → Q (natO (settledOf rows)) H'
theorem ok_lsettled (D : Df K mg "_law_settled" s_law_settled ["_law_rows"]) (T : Txt mg) : Cal P w K mg base "_law_settled" 1 ["_law_rows"] (spLSettled K) := by
  refine D.cal sc_law_settled (fun vs H Q E h => ?_) (fun f cdv A outer s H vs Q E hr h => ?_)
  · obtain ⟨_, _, rfl, _⟩ := h; rfl
  · obtain ⟨p, rows, rfl, hl, ⟨hzl, hcod, hall⟩, q⟩ := h
    refine ⟨_, (pss_cons (ps_if (PW.pt (pw_or (pt_cmpR (op_eqNilL hr.units) (pv 0) (pe_lst pa_nil) (nomark _)) (pw_or1 (pt_cmpR op_isN (pe_ix ix_list (pv 0) (pe_un un_neg pe_int) (fun _ _ => rfl)) pe_non (nomark _))))) (pss_one (ps_ret pe_non)) pss_nil)
      (pss_cons (ps_setLc (i := 1) (own := [("_law_k", 3)]) (g := (gName 3)) rfl sc_law_settled.nd rfl rfl (sw_true rfl rfl rfl (by decide +kernel)) (pi_range1 (by rfl) T.b_range (pa_cons (pe_callB call_len_seq (by rfl) T.b_len PySem.boot_len (pa_cons (pv 0) pa_nil)) pa_nil)) (blkOk_by (own := [("_law_k", 3)]) (N := ["_law_rows", "_law_unsure", "_law_first", "_law_k"]) (sc := defScope s_law_settled) (by decide +kernel)) (fun _ _ _ _ _ => (pg_name (i := 3) sc_law_settled.nd rfl (.inl rfl))) (fun _ _ _ _ _ => pts_one (pt_cmpR op_in_sign pe_str (pe_ix (ix_listK (K := K) rfl) (pv 0) (pv 3) (fun _ _ => rfl)) (by rfl))) (fun _ _ _ _ _ => (pv 3)))
      (pss_cons (ps_set (i := 2) sc_law_settled.nd rfl (.inl rfl) (pe_ifExp (pt_cmpR (op_neNilL hr.units) (pv 1) (pe_lst pa_nil) (nomark _)) (pe_op op_add (pe_ix ix_list (pv 1) (pe_un un_neg pe_int) (fun _ _ => rfl)) pe_int) pe_int))
      (pss_one (ps_ret (pe_ifExp (pt_cmpR op_lt (pv 2) (pe_callB call_len_seq (by rfl) T.b_len PySem.boot_len (pa_cons (pv 0) pa_nil)) (nomark _)) (pv 2) pe_non)))))), ?_⟩
    refine ⟨_, rfl, Nat.zero_le _, fun p2 hp2 => ?_⟩
    have s4 := same_new (o := .lst []) hp2
    refine ⟨p, p2, _, _, rfl, rfl, sqL_same s4 hl, dpAll_rows rows, upd_same, shp_rows hcod, _, rfl, d2 (fun h0 => ?_) (fun h0 => ?_)⟩
    · have h0' : rows = [] := by simpa using h0
      have q := q _ s4
      rw [settledOf, if_pos (.inl h0')] at q
      exact q
    · have h0' : rows ≠ [] := by simpa using h0
      obtain ⟨init, last, hrows⟩ : ∃ init last, rows = init ++ [last] := ⟨rows.dropLast, rows.getLast h0', (List.dropLast_concat_getLast h0').symm⟩
      have hlast : rows.getLast? = some last := by rw [hrows]; simp
      refine ⟨_, rfl, _, rfl, p, _, -1, rowV last, rfl, rfl, sqL_same s4 hl, by rw [hrows, List.map_append]; exact atI_last _ _, rfl, _, rfl, ?_⟩
      cases last with
      | none =>
        have q := q _ s4
        rw [settledOf, if_pos (.inr hlast)] at q
        exact dT rfl q
      | some rl =>
        have hall := hall (by rw [hlast]; simp)
        refine dF (fun z => nomatch z) ?_
        have hset : settledOf rows = (let first := match (unsure rows).getLast? with
            | some k => k + 1
            | none => 0
          if first < rows.length then some first else none) := by
          have hneg : ¬ (rows = [] ∨ rows.getLast? = some none) := by
            rintro (z | z)
            · exact h0' z
            · rw [hlast] at z; cases z
          rw [settledOf, if_neg hneg]; all_goals rfl
        rw [hset] at q
        refine ⟨_, rfl, p, _, rfl, .inl (sqL_same s4 hl), _, rfl, by rw [List.length_map]; omega, by rw [List.length_map]; omega, fun d hd5 => ?_⟩
        have hdn := none_of s4 hd5
        refine filt_it (l := 0) (isUns rows) (by rfl) hd5 (by rw [List.length_map]; omega) (fun k H2 N acc h1 h2 e1 h4 h5 h6 h7 => ?_) (fun H3 e6' g2 => ?_)
        · have hkl : k < rows.length := by rw [List.length_map] at h2; omega
          obtain ⟨ro, hro⟩ : ∃ ro, rows[k]? = some ro := ⟨_, List.getElem?_eq_getElem hkl⟩
          cases ro with
          | none => exact absurd rfl (hall none (List.mem_of_getElem? hro))
          | some r =>
          have hun : isUns rows k = decide (63 ∈ r) := by
            unfold isUns
            rw [List.getD_eq_getElem?_getD, hro]; rfl
          refine ⟨rfl, ?_⟩
          refine ⟨_, rfl, _, rfl, p, _, _, rowV (some r), rfl, rfl, sqL_same (s4.trans e1) hl, atI_nat (j := k) (by rw [List.getElem?_map, hro]; rfl), ?_⟩
          refine ⟨63, ⟨r.toArray⟩, congrArg V.str w_ask, rfl, _, rfl, ?_⟩
          refine d2 (fun h1 => ?_) (fun h1 => ?_)
          · exact ⟨_, rfl, acc, h4, h5, h6 (by rw [hun]; simpa using h1)⟩
          · exact h7 (by rw [hun]; simpa using h1)
        have e6 := s4.trans e6'
        have hus : (List.range' 0 (((rows.map rowV).length : Int) - 0).toNat).filter (isUns rows) = unsure rows := by
          rw [List.length_map, show ((rows.length : Int) - 0).toNat = rows.length by omega, ← List.range_eq_range']; rfl
        have g2 : H3 d = some (.lst ((unsure rows).map natV)) := by
          rw [← hus]; exact g2
        have hli : ∀ us : List Nat, us.map natV = (us.map fun (k : Nat) => (k : Int)).map V.int := fun us => by rw [List.map_map]; rfl
        rw [hli] at g2
        refine ⟨_, rfl, Nat.zero_le _, fun p3 hp3 => ?_⟩
        have e8 := e6.trans (same_new (o := .lst []) hp3)
        have g2' : (upd H3 p3 (.lst [])) d = _ := (upd_ne (ne_of_none g2 hp3)).trans g2
        have g1' := sqL_same e8 hl
        refine ⟨d, p3, _, _, rfl, rfl, sqL_of g2', dpAll_ints _, upd_same, shp_ints _, _, rfl, n2 (fun h1 => ?_) (fun h1 => ?_)⟩
        · have h1' : unsure rows ≠ [] := by simpa using h1
          obtain ⟨ui, ul, hul⟩ : ∃ ui ul, unsure rows = ui ++ [ul] := ⟨(unsure rows).dropLast, (unsure rows).getLast h1', (List.dropLast_concat_getLast h1').symm⟩
          rw [hul] at g2' q
          have hgl : (ui ++ [ul]).getLast? = some ul := by simp
          rw [hgl] at q
          refine ⟨_, rfl, _, rfl, d, _, -1, .int (ul : Int), rfl, rfl, sqL_of g2', by rw [List.map_append, List.map_append]; exact atI_last _ _, _, _, rfl, rfl, ?_⟩
          refine ⟨_, rfl, _, rfl, p, _, rfl, .inl g1', _, _, rfl, rfl, _, rfl, d2 (fun h2 => ?_) (fun h2 => ?_)⟩
          · have q := q _ e8
            rw [List.length_map] at h2
            have h2' : ul + 1 < rows.length := by omega
            simp only [if_pos h2'] at q
            exact ⟨_, rfl, q⟩
          · have q := q _ e8
            rw [List.length_map] at h2
            have h2' : ¬ ul + 1 < rows.length := by omega
            simp only [if_neg h2'] at q
            exact q
        · have h1' : unsure rows = [] := by simpa using h1
          rw [h1'] at q
          refine ⟨_, rfl, _, rfl, p, _, rfl, .inl g1', _, _, rfl, rfl, _, rfl, d2 (fun h2 => ?_) (fun h2 => ?_)⟩
          · have q := q _ e8
            rw [List.length_map] at h2
            have h2' : 0 < rows.length := by omega
            have q : Q (natO (if 0 < rows.length then some 0 else none)) _ := q
            rw [if_pos h2'] at q
            exact ⟨_, rfl, q⟩
          · exfalso
            rw [List.length_map] at h2
            have := List.length_pos_iff.mpr h0'
            omega

/-! ### _law_sets -/
abbrev s_law_sets : Stmt := topS 59
theorem sc_law_sets : FnScope ["_law_wide", "_law_tellings_here", "_law_found", "_law_telling_here", "_law_some", "_law_row_here"] ["_law_wide", "_law_tellings_here"] (defScope s_law_sets) := ⟨rfl, rfl, rfl, by decide +kernel, rfl, by decide +kernel, by decide +kernel⟩
/-- what may be known behind each telling, and ahead of the first -/
structure SetsAt (H : Hp) (L : List Addr) (n : Nat) (ts : List Tl) (i : Nat) : Prop where
  len : L.length = i + 1
  at' : ∀ j a, L[j]? = some a → H a = some (.lst ((canon n (knownL n (ts.take j))).map lnV))
def spSets (K : PySem.W.Frag) : Sp := fun vs H Q _ => ∃ (n : Nat) (v : V) (ts : List Tl), vs = [.int (n : Int), v] ∧ TD K H v (tsD ts) ∧ GoodTs n ts ∧ n ≤ 6 ∧
  ∀ H' p L, Same H H' → H p = none → H' p = some (.lst (L.map V.ref)) → SetsAt H' L n ts ts.length → (∀ a ∈ L, H a = none) → Q (.ref p) H'
theorem canon_mem {n : Nat} {Q1 : List (List Bool)} (h : ∀ l ∈ Q1, l.length = n) : ∀ l, l ∈ canon n Q1 ↔ l ∈ Q1 := fun l => by
  unfold canon
  rw [List.mem_filter]
  constructor
  · intro z; simpa using z.2
  · intro z; exact ⟨rowsOf_mem.mpr (h l z), by simpa using z⟩
theorem canon_rows (n : Nat) : canon n (rowsOf n) = rowsOf n := by
  unfold canon
  rw [List.filter_eq_self]
  intro l hl; simpa using hl
theorem canon_len (n : Nat) (Q1 : List (List Bool)) : (canon n Q1).length ≤ 2 ^ n := by
  rw [← rowsOf_length n]
  exact List.length_filter_le _ _
theorem ok_sets (D : Df K mg "_law_sets" s_law_sets ["_law_wide", "_law_tellings_here"]) (T : Txt mg) (C_law_all_rows : Cal P w K mg base "_law_all_rows" 1 ["_law_wide"] spLines)
    (C_law_read : Cal P w K mg base "_law_read" 3 ["_law_reference", "_law_telling_here"] (spRead K)) : Cal P w K mg base "_law_sets" 4 ["_law_wide", "_law_tellings_here"] (spSets K) := by
  refine D.cal sc_law_sets (fun vs H Q E h => ?_) (fun f cdv A outer s H vs Q E hr h => ?_)
  · obtain ⟨_, _, _, rfl, _⟩ := h; rfl
  · obtain ⟨n, v, ts, rfl, hd, hg, hn6, q⟩ := h
    obtain ⟨a, xs, rfl, hq, hs⟩ := hd.tupI
    have hxl : xs.length = ts.length := by rw [hs.length, List.length_map]
    have hpow : 2 ^ n ≤ 64 := Nat.le_trans (Nat.pow_le_pow_right (by decide) hn6) (by decide)
    refine ⟨_, (pss_cons (ps_set (i := 2) sc_law_sets.nd rfl (.inl rfl) (pe_lst (pa_cons (pe_cal C_law_all_rows (hr.mono (by decide)) (pa_cons (pv 0) pa_nil)) pa_nil)))
      (pss_cons (ps_for PassesOwn.never rfl (pi_tup (pv 1)) (pg_name (i := 3) sc_law_sets.nd rfl (.inr rfl)) (pss_cons (ps_setLc (i := 4) (own := [("_law_row_here", 5)]) (g := (gName 5)) (tt := tYes) rfl sc_law_sets.nd rfl rfl (sw_true rfl rfl rfl (by decide +kernel)) (pi_list (pe_ix ix_list (pv 2) (pe_un un_neg pe_int) (fun _ _ => rfl))) (blkOk_by (own := [("_law_row_here", 5)]) (N := ["_law_wide", "_law_tellings_here", "_law_found", "_law_telling_here", "_law_some", "_law_row_here"]) (sc := defScope s_law_sets) (by decide +kernel)) (fun _ _ _ _ _ => (pg_name (i := 5) sc_law_sets.nd rfl (.inl rfl))) (fun _ _ _ _ _ => pts_nil) (fun _ _ _ _ _ => (pe_cal C_law_read (hr.mono (by decide)) (pa_cons (pv 5) (pa_cons (pv 3) pa_nil)))))
      (pss_one (ps_expr (pe_bm PySem.F.plainAttrs_list PySem.F.slot_list_append PySem.F.type_list_append mt_append (pv 2) (pa_cons (pe_callB (cr_sortedSetS rfl) (by rfl) T.b_sorted (by decide +kernel) (pa_cons (pe_callTy (cr_setOfS rfl) (by rfl) T.b_set (by decide +kernel) (pa_cons (pe_lc (own := [("_law_row_here", 5)]) (g := (gName 5)) rfl sc_law_sets.nd (pi_list (pv 4)) (blkOk_by (own := [("_law_row_here", 5)]) (N := ["_law_wide", "_law_tellings_here", "_law_found", "_law_telling_here", "_law_some", "_law_row_here"]) (sc := defScope s_law_sets) (by decide +kernel)) (fun _ _ _ _ _ => (pg_name (i := 5) sc_law_sets.nd rfl (.inl rfl))) (fun _ _ _ _ _ => pts_one (pt_cmpR op_notN (pv 5) pe_non (nomark _))) (fun _ _ _ _ _ => (pv 5))) pa_nil)) pa_nil)) pa_nil))))))
      (pss_one (ps_ret (pv 2))))), ?_⟩
    refine ⟨_, rfl, n, rfl, by omega, fun H1 p1 e1 hp1 hl1 => ⟨szOf (show 1 ≤ 100000 by decide), fun p hp => ?_⟩⟩
    have e2 := e1.trans (same_new (o := .lst [.ref p1]) hp)
    have hpn := none_of e1 hp
    have hp1p : p1 ≠ p := ne_of_none hl1 hp
    refine ⟨_, rfl, a, rfl, ⟨_, same_t e2 _ _ hq⟩, for_tup (xs := xs) (fun i σ H2 => Same H H2 ∧ ∃ (L : List Addr) (y1 y2 y3 : Option V), σ = [some (.int (n : Int)), some (.ref a), some (.ref p), y1, y2, y3] ∧
        H2 p = some (.lst (L.map V.ref)) ∧ SetsAt H2 L n ts i ∧ (∀ b ∈ L, H b = none ∧ b ≠ p))
      ⟨e2, [p1], none, none, none, rfl, upd_same, ⟨rfl, fun j b hj => ?_⟩, fun b hb => ?_⟩ (fun i σ H1 _ h => same_t h.1 _ _ hq) ?_ ?_⟩
    · have hj0 : j = 0 := by
        have := (List.getElem?_eq_some_iff.mp hj).1
        simpa using this
      subst hj0
      obtain rfl : p1 = b := Option.some.inj hj
      rw [upd_ne hp1p, hl1]
      show _ = some (HO.lst ((canon n (rowsOf n)).map lnV))
      rw [canon_rows]
    · rw [List.mem_singleton.mp hb]; exact ⟨hp1, hp1p⟩
    · rintro i x σ H2 hx ⟨e3, L, y1, y2, y3, rfl, g1, ⟨g2, g3⟩, g4⟩
      obtain ⟨dd, hdi, htd⟩ := hs.getV hx
      obtain ⟨t, ht, rfl⟩ := tl_at hdi
      have hil : i < ts.length := (List.getElem?_eq_some_iff.mp ht).1
      have hfew := hg.few
      have hgt := hg.good t (List.mem_of_getElem? ht)
      obtain ⟨L0, b, rfl⟩ : ∃ L0 b, L = L0 ++ [b] := by
        have h0 : L ≠ [] := fun z => by rw [z] at g2; cases g2
        exact ⟨L.dropLast, L.getLast h0, (List.dropLast_concat_getLast h0).symm⟩
      have hL0 : L0.length = i := by simpa using g2
      have hb := g3 i b (by rw [List.getElem?_append_right (by omega), hL0]; simp)
      have hkl := knownL_len (w := n) (ts.take i)
      have hcl : ∀ l ∈ canon n (knownL n (ts.take i)), l.length = n := fun l hl => hkl l ((canon_mem hkl l).mp hl)
      have hcz := canon_len n (knownL n (ts.take i))
      have hnx : knownL n (ts.take (i + 1)) = img t (knownL n (ts.take i)) := by rw [take_snoc ht, knownL_snoc]
      have hcc : canon n (img t (canon n (knownL n (ts.take i)))) = canon n (knownL n (ts.take (i + 1))) := by
        rw [hnx]
        exact canon_congr (img_congr (canon_mem hkl))
      generalize canon n (knownL n (ts.take i)) = P1 at hb hcl hcz hcc
      refine ⟨_, rfl, _, rfl, p, _, -1, .ref b, rfl, rfl, sqL_of g1, by rw [List.map_append]; exact atI_last _ _, b, rfl, ⟨_, sqL_of hb⟩, fun d hd2 => ?_⟩
      refine loop_it (walk_list (K := K) (a := b) (xs := P1.map lnV)) (fun j H3 => Same H2 H3 ∧ H3 d = some (.lst ((P1.take j).map fun l => lnO (readTl l t))))
        ⟨same_new hd2, upd_same⟩ (fun j H3 _ h => sqL_of (h.1 _ _ hb)) ?_ ?_
      · rintro j y H3 H4 hj ⟨e4, k1⟩ ⟨rfl, hy⟩
        rw [List.length_map] at hj
        obtain ⟨l, hlj, rfl⟩ : ∃ l, P1[j]? = some l ∧ y = lnV l := by
          rw [List.getElem?_map] at hy
          cases hz : P1[j]? with
          | none => rw [hz] at hy; cases hy
          | some l => rw [hz] at hy; exact ⟨l, rfl, (Option.some.inj hy).symm⟩
        have hll := hcl l (List.mem_of_getElem? hlj)
        refine ⟨rfl, ?_⟩
        refine ⟨_, rfl, _, rfl, l, x, t, rfl, (htd.same e3).same e4, hgt, by omega, fun H5 e5 => ⟨_, e5 _ _ k1, ?_, same_mut (e4.trans e5) hd2, ?_⟩⟩
        · rw [List.length_map, List.length_take]
          exact szLt (by omega)
        · rw [upd_same, take_snoc hlj, List.map_append]; rfl
      · rintro H3 ⟨e4, k1⟩
        rw [List.length_map, List.take_length] at k1
        refine ⟨_, rfl, .inl ⟨rfl, _, sqL_of (e4 _ _ g1)⟩, _, rfl, d, rfl, ⟨_, sqL_of k1⟩, fun d2 hd3 => ?_⟩
        refine loop_it (walk_list (K := K) (a := d) (xs := P1.map fun l => lnO (readTl l t))) (fun j H4 => Same H3 H4 ∧ H4 d2 = some (.lst ((img t (P1.take j)).map lnV)))
          ⟨same_new hd3, upd_same⟩ (fun j H4 _ h => sqL_of (h.1 _ _ k1)) ?_ ?_
        · rintro j y H4 H5 hj ⟨e5, k2⟩ ⟨rfl, hy⟩
          rw [List.length_map] at hj
          obtain ⟨l, hlj, rfl⟩ : ∃ l, P1[j]? = some l ∧ y = lnO (readTl l t) := by
            rw [List.getElem?_map] at hy
            cases hz : P1[j]? with
            | none => rw [hz] at hy; cases hy
            | some l => rw [hz] at hy; exact ⟨l, rfl, (Option.some.inj hy).symm⟩
          have hsn : img t (P1.take (j + 1)) = img t (P1.take j) ++ (readTl l t).toList := by
            unfold img
            rw [take_snoc hlj, List.filterMap_append]
            cases hz : readTl l t <;> simp [hz]
          refine ⟨rfl, ?_⟩
          cases hrt : readTl l t with
          | none =>
            refine ⟨_, rfl, rfl, _, rfl, nF rfl ⟨e5, ?_⟩⟩
            rw [k2, hsn, hrt]; simp
          | some l' =>
            refine ⟨_, rfl, rfl, _, rfl, nT (fun z => nomatch z) ⟨_, rfl, _, k2, ?_, same_mut e5 hd3, ?_⟩⟩
            · rw [List.length_map]
              have := List.length_filterMap_le (fun l => readTl l t) (P1.take j)
              rw [List.length_take] at this
              exact szLt (by unfold img; omega)
            · rw [upd_same, hsn, hrt, List.map_append]; rfl
        · rintro H4 ⟨e5, k2⟩
          rw [List.length_map, List.take_length] at k2
          have hiz : (img t P1).length ≤ 64 := by
            have := List.length_filterMap_le (fun l => readTl l t) P1
            unfold img; omega
          refine ⟨d2, (img t P1).map ln, rfl, by rw [List.map_map]; exact sqL_of k2, by rw [List.length_map]; exact Nat.lt_of_le_of_lt (Nat.succ_le_succ hiz) (by decide), fun sa hsa => ?_⟩
          refine ⟨sa, _, rfl, upd_same, fun ys q1 w1 w2 w3 hq1 => ?_⟩
          have hys := canon_unique w1 w2 w3 (img_len (t := t) hcl)
          have e6 := (e4.trans e5).trans (same_new (o := SetSO P w sa ((img t P1).map ln)) hsa)
          have e7 := e6.trans (same_new (o := .lst (ys.map V.str)) hq1)
          have hgp := e7 _ _ g1
          have hqp : q1 ≠ p := (ne_of_none (e6 _ _ g1) hq1).symm
          refine ⟨p, _, _, rfl, rfl, hgp, szLt (by simp; omega), same_mut (e3.trans e7) hpn, (L0 ++ [b]) ++ [q1], _, _, _, rfl, ?_, ⟨by simp; omega, fun j c hj => ?_⟩, fun c hc => ?_⟩
          · rw [upd_same]; simp
          · by_cases hlt : j < i + 1
            · rw [List.getElem?_append_left (by omega)] at hj
              have := g3 j c hj
              rw [upd_ne (g4 c (List.mem_of_getElem? hj)).2]
              exact e7 _ _ this
            · have hj2 : j = i + 1 := by
                have := (List.getElem?_eq_some_iff.mp hj).1
                simp at this; omega
              subst hj2
              rw [List.getElem?_append_right (by omega)] at hj
              have hcq : c = q1 := by
                rw [g2] at hj
                simpa using hj.symm
              subst hcq
              rw [upd_ne hqp, upd_same, hys, hcc, List.map_map]
              rfl
          · rcases List.mem_append.mp hc with hc | hc
            · exact g4 c hc
            · rw [List.mem_singleton.mp hc]
              exact ⟨none_of (e3.trans e6) hq1, hqp⟩
    · rintro σ H2 ⟨e3, L, y1, y2, y3, rfl, g1, g2, g4⟩
      rw [hxl] at g2
      exact ⟨_, rfl, q _ p L e3 hpn g1 g2 fun b hb => (g4 b hb).1⟩
end
end Fx

set_option Elab.async false
set_option linter.all false
set_option maxRecDepth 100000
set_option maxHeartbeats 2000000
set_option pp.maxSteps 400
namespace Fx
open PySem PySem.Spec PyProof.Rows L2
section
variable {P : Program} {w : World} {K : PySem.W.Frag} {mg : Str → Option Value} {base : Heap}
local macro_rules | `(tactic| walk_at "rd") => `(tactic| repeat (first
  | refine ⟨_, rfl, ?_⟩ | refine ⟨_, _, rfl, rfl, ?_⟩ | refine ⟨rfl, ?_⟩ | refine iteT ?_ | refine iteF ?_
  | refine ⟨_, _, rfl, by assumption, ?_⟩ | refine ⟨_, _, rfl, .inr (by assumption), ?_⟩ | refine ⟨_, _, rfl, .inl (by assumption), ?_⟩
  | refine ⟨_, _, _, _, rfl, rfl, by assumption, by first | rfl | exact atI_nat (j := 0) rfl | exact atI_nat (j := 1) rfl | exact atI_nat (j := 2) rfl, ?_⟩
  | refine And.intro (by omega) ?_))
/-! ### _law_goes_on -/
abbrev s_law_goes_on : Stmt := topS 54
theorem sc_law_goes_on : FnScope ["_law_row_here", "_law_spot", "_law_one"] ["_law_row_here", "_law_spot", "_law_one"] (defScope s_law_goes_on) := ⟨rfl, rfl, rfl, by decide +kernel, rfl, by decide +kernel, by decide +kernel⟩
def spGoes (K : PySem.W.Frag) : Sp := fun vs H Q _ => ∃ (row : List Bool) (p : Nat) (a : Addr) (vm : V) (ds : List Bool) (c : Bool), vs = [.str (ln row), .int (p : Int), .ref a] ∧ SqT K H a [vm, .str (ln ds), .str (ln [c])] ∧
  p + ds.length ≤ row.length ∧ row.length ≤ 100 ∧ Q (.bl (decide ((row ++ [c]).getD (p + ds.length) false = c))) H
theorem ok_goes (D : Df K mg "_law_goes_on" s_law_goes_on ["_law_row_here", "_law_spot", "_law_one"]) (T : Txt mg) : Cal P w K mg base "_law_goes_on" 1 ["_law_row_here", "_law_spot", "_law_one"] (spGoes K) := by
  refine D.cal sc_law_goes_on (fun vs H Q E h => ?_) (fun f cdv A outer s H vs Q E hr h => ?_)
  · obtain ⟨_, _, _, _, _, _, rfl, _⟩ := h; rfl
  · obtain ⟨row, p, a, vm, ds, c, rfl, hq, h1, h2, q⟩ := h
    refine ⟨_, (pss_one (ps_ret (pe_cmpR op_eqLn (pe_ix ix_ln (pe_op op_addLn (pv 0) (pe_ix ix_tup (pv 2) pe_int (fun _ _ => rfl))) (pe_op op_add (pv 1) (pe_callB call_lenLn (by rfl) T.b_len PySem.boot_len (pa_cons (pe_ix ix_tup (pv 2) pe_int (fun _ _ => rfl)) pa_nil))) (fun _ _ => rfl)) (pe_ix ix_tup (pv 2) pe_int (fun _ _ => rfl)) (nomark _)))), ?_⟩
    obtain ⟨b, hb⟩ : ∃ b, (row ++ [c])[p + ds.length]? = some b := ⟨_, List.getElem?_eq_getElem (by simp; omega)⟩
    have hbd : (row ++ [c]).getD (p + ds.length) false = b := by rw [List.getD_eq_getElem?_getD, hb]; rfl
    refine ⟨_, rfl, _, rfl, a, _, 2, _, rfl, rfl, hq, atI_nat (j := 2) rfl, row, [c], rfl, rfl, by simp; omega, _, rfl, _, rfl, a, _, 1, _, rfl, rfl, hq, atI_nat (j := 1) rfl, ds, rfl, by omega, _, _, rfl, rfl, ?_⟩
    refine ⟨row ++ [c], p + ds.length, b, rfl, rfl, by simp; omega, hb, _, rfl, a, _, 2, _, rfl, rfl, hq, atI_nat (j := 2) rfl, [b], [c], rfl, rfl, ?_⟩
    rw [hbd] at q
    have e : decide ([b] = [c]) = decide (b = c) := by cases b <;> cases c <;> rfl
    rw [e]; exact q

/-! ### _law_any_mode -/
abbrev s_law_any_mode : Stmt := topS 56
theorem sc_law_any_mode : FnScope ["_law_m", "_law_wide", "_law_some"] ["_law_m", "_law_wide"] (defScope s_law_any_mode) := ⟨rfl, rfl, rfl, by decide +kernel, rfl, by decide +kernel, by decide +kernel⟩
def spAny (K : PySem.W.Frag) : Sp := fun vs H Q _ => ∃ (m : Addr) (t : Nat) (S : GS), vs = [.ref m, .int (t : Int)] ∧ 0 < t ∧ t ≤ 10 ∧ Gen H m S ∧ S.k ≤ 900000 ∧
  ∀ (H' : Hp) (S' : GS) (v : V) (md : Md), Drew m S S' H H' 10 → TD K H' v md.data → GoodM md → Q v H'
theorem td_new {H : Hp} {p : Addr} {xs : List V} {ds : List PyData} (hp : H p = none) (h : TDs K H xs ds) : TD K (upd H p (.tup xs)) (.ref p) (.tuple ds) := .tup sqT_new (h.same (same_new hp))
theorem ok_any (D : Df K mg "_law_any_mode" s_law_any_mode ["_law_m", "_law_wide"]) (T : Txt mg) (C_law_next : Cal P w K mg base "_law_next" 1 ["_law_m", "_law_total"] spDraw)
    (C_law_of : Cal P w K mg base "_law_of" 2 ["_law_m", "_law_some"] (spOf K)) : Cal P w K mg base "_law_any_mode" 3 ["_law_m", "_law_wide"] (spAny K) := by
  refine D.cal sc_law_any_mode (fun vs H Q E h => ?_) (fun f cdv A outer s H vs Q E hr h => ?_)
  · obtain ⟨_, _, _, rfl, _⟩ := h; rfl
  · obtain ⟨m, t, S, rfl, ht, ht2, G, hk, q⟩ := h
    refine ⟨_, (pss_cons (ps_set (i := 2) sc_law_any_mode.nd rfl (.inl rfl) (pe_lst (pa_cons (pe_tup (pa_cons pe_str (pa_cons (pe_op op_sub (pe_cal C_law_next (hr.mono (by decide)) (pa_cons (pv 0) (pa_cons pe_int pa_nil))) pe_int) pa_nil))) (pa_cons (pe_tup (pa_cons pe_str (pa_cons (pe_op op_sub (pe_cal C_law_next (hr.mono (by decide)) (pa_cons (pv 0) (pa_cons pe_int pa_nil))) pe_int) pa_nil))) (pa_cons (pe_tup (pa_cons pe_str pa_nil)) pa_nil)))))
      (pss_one (ps_ret (pe_cal C_law_of (hr.mono (by decide)) (pa_cons (pv 0) (pa_cons (pe_op op_cat (pv 2) (pe_lst (pa_cons (pe_tup (pa_cons pe_str (pa_cons (pe_cal C_law_next (hr.mono (by decide)) (pa_cons (pv 0) (pa_cons (pv 1) pa_nil))) (pa_cons (pe_cal C_law_next (hr.mono (by decide)) (pa_cons (pv 0) (pa_cons (pv 1) pa_nil))) pa_nil)))) pa_nil))) pa_nil)))))), ?_⟩
    refine ⟨_, rfl, m, 7, S, rfl, by decide, by decide, G, by omega, fun H1 S1 r1 d1 hr1 => ?_⟩
    have f1 := d1.far
    refine ⟨_, _, rfl, rfl, szOf (show 2 ≤ 100000 by decide), fun p1 hp1 => ?_⟩
    have t1 : TD K (upd H1 p1 (.tup [.str "stay", .int ((r1 : Int) - 3)])) (.ref p1) (Md.stay ((r1 : Int) - 3)).data := td_new hp1 (.cons (.str _) (.cons (.int _) .nil))
    have d1' := d1.same (same_new (o := .tup [.str "stay", .int ((r1 : Int) - 3)]) hp1)
    refine ⟨_, rfl, m, 3, S1, rfl, by decide, by decide, d1'.gen, by omega, fun H2 S2 r2 d2' hr2 => ?_⟩
    have f2 := d2'.far
    have t1 := d2'.fr.td d1'.gen t1
    refine ⟨_, _, rfl, rfl, szOf (show 2 ≤ 100000 by decide), fun p2 hp2 => ?_⟩
    have t2 : TD K (upd H2 p2 (.tup [.str "stay", .int ((r2 : Int) - 1)])) (.ref p2) (Md.stay ((r2 : Int) - 1)).data := td_new hp2 (.cons (.str _) (.cons (.int _) .nil))
    have t1 := t1.same (same_new (o := .tup [.str "stay", .int ((r2 : Int) - 1)]) hp2)
    have d3 := (d1'.trans d2').same (same_new (o := .tup [.str "stay", .int ((r2 : Int) - 1)]) hp2)
    refine ⟨szOf (show 1 ≤ 100000 by decide), fun p3 hp3 => ?_⟩
    have t3 : TD K (upd (upd H2 p2 (.tup [.str "stay", .int ((r2 : Int) - 1)])) p3 (.tup [.str "pass"])) (.ref p3) Md.pass.data := td_new hp3 (.cons (.str _) .nil)
    have t1 := t1.same (same_new (o := .tup [.str "pass"]) hp3)
    have t2 := t2.same (same_new (o := .tup [.str "pass"]) hp3)
    have d3 := d3.same (same_new (o := .tup [.str "pass"]) hp3)
    refine ⟨szOf (show 3 ≤ 100000 by decide), fun pl hpl => ?_⟩
    have d4 := d3.same (same_new (o := .lst [.ref p1, .ref p2, .ref p3]) hpl)
    have t1 := t1.same (same_new (o := .lst [.ref p1, .ref p2, .ref p3]) hpl)
    have t2 := t2.same (same_new (o := .lst [.ref p1, .ref p2, .ref p3]) hpl)
    have t3 := t3.same (same_new (o := .lst [.ref p1, .ref p2, .ref p3]) hpl)
    have ow := own_of d3.gen hpl
    have f4 := d4.far
    refine ⟨_, rfl, _, rfl, _, rfl, _, rfl, m, t, S2, rfl, ht, by omega, d4.gen, by omega, fun H5 S5 r5 d5 hr5 => ?_⟩
    have f5 := d5.far
    obtain ⟨ow5, h5⟩ := d5.own ow upd_same
    have t1 := d5.fr.td d4.gen t1
    have t2 := d5.fr.td d4.gen t2
    have t3 := d5.fr.td d4.gen t3
    refine ⟨_, rfl, _, rfl, m, t, S5, rfl, ht, by omega, d5.gen, by omega, fun H6 S6 r6 d6 hr6 => ?_⟩
    obtain ⟨ow6, h6⟩ := d6.own ow5 h5
    have f6 := d6.far
    have t1 := d6.fr.td d5.gen t1
    have t2 := d6.fr.td d5.gen t2
    have t3 := d6.fr.td d5.gen t3
    refine ⟨szOf (show 3 ≤ 100000 by decide), fun p6 hp6 => ?_⟩
    have s6 := same_new (o := .tup [.str "runs", .int (r5 : Int), .int (r6 : Int)]) hp6
    have t4 : TD K (upd H6 p6 (.tup [.str "runs", .int (r5 : Int), .int (r6 : Int)])) (.ref p6) (Md.runs r5 r6).data := td_new hp6 (.cons (.str _) (.cons (.int _) (.cons (.int _) .nil)))
    refine ⟨szOf (show 1 ≤ 100000 by decide), fun p7 hp7 => ?_⟩
    have s7 := s6.trans (same_new (o := .lst [.ref p6]) hp7)
    have t4 := t4.same (same_new (o := .lst [.ref p6]) hp7)
    refine ⟨pl, p7, _, _, rfl, rfl, s7 _ _ h6, upd_same, szOf (show 4 ≤ 100000 by decide), fun p8 hp8 => ?_⟩
    have s8 := s7.trans (same_new (o := .lst ([.ref p1, .ref p2, .ref p3] ++ [.ref p6])) hp8)
    have t4 := t4.same (same_new (o := .lst ([.ref p1, .ref p2, .ref p3] ++ [.ref p6])) hp8)
    have t1 := t1.same s8
    have t2 := t2.same s8
    have t3 := t3.same s8
    have d8 := (((d4.trans d5).trans d6).same s8)
    refine ⟨m, _, S6, rfl, d8.gen, by omega, .inr ⟨p8, _, rfl, upd_same, own_of (d6.same s7).gen hp8, show 0 < 4 by decide, show 4 ≤ 1000 by decide, fun H9 S9 x d9 hx => ?_⟩⟩
    have dd := (d8.trans d9).le (n2 := 10) (by decide)
    have hx : x = .ref p1 ∨ x = .ref p2 ∨ x = .ref p3 ∨ x = .ref p6 := by simpa using hx
    rcases hx with rfl | rfl | rfl | rfl
    · exact q _ S9 _ _ dd (d9.fr.td d8.gen t1) ⟨by omega, by omega⟩
    · exact q _ S9 _ _ dd (d9.fr.td d8.gen t2) ⟨by omega, by omega⟩
    · exact q _ S9 _ _ dd (d9.fr.td d8.gen t3) trivial
    · exact q _ S9 _ _ dd (d9.fr.td d8.gen t4) ⟨by omega, by omega⟩
end
end Fx

set_option Elab.async false
set_option linter.all false
set_option maxRecDepth 100000
set_option maxHeartbeats 2000000
set_option pp.maxSteps 400
namespace Fx
open PySem PySem.Spec PyProof.Rows L2
section
variable {P : Program} {w : World} {K : PySem.W.Frag} {mg : Str → Option Value} {base : Heap}
local macro_rules | `(tactic| walk_at "rd") => `(tactic| repeat (first
  | refine ⟨_, rfl, ?_⟩ | refine ⟨_, _, rfl, rfl, ?_⟩ | refine ⟨rfl, ?_⟩ | refine iteT ?_ | refine iteF ?_
  | refine ⟨_, _, rfl, by assumption, ?_⟩ | refine ⟨_, _, rfl, .inr (by assumption), ?_⟩ | refine ⟨_, _, rfl, .inl (by assumption), ?_⟩
  | refine ⟨_, _, _, _, rfl, rfl, by assumption, by first | rfl | exact atI_nat (j := 0) rfl | exact atI_nat (j := 1) rfl | exact atI_nat (j := 2) rfl, ?_⟩
  | refine And.intro (by omega) ?_))
/-! ### _law_modes -/
abbrev s_law_modes : Stmt := topS 53
theorem sc_law_modes : FnScope ["_law_reference", "_law_row_here", "_law_spot", "_law_dot", "_law_begun_here", "_law_some", "_law_rest", "_law_first", "_law_found", "_law_mode", "_law_done_here", "_law_k", "_law_second"] ["_law_reference", "_law_row_here", "_law_spot", "_law_dot", "_law_begun_here"] (defScope s_law_modes) := ⟨rfl, rfl, rfl, by decide +kernel, rfl, by decide +kernel, by decide +kernel⟩
/-- what a candidate is -/
def okMd (ref row : List Bool) (p : Nat) (c told : Bool) (md : Md) : Prop := ∃ ds c', doneL ref md p c told = some (ds, c') ∧ (row.take (p + ds.length)).drop p = ds
def ItemAt (K : PySem.W.Frag) (H : Hp) (ref row : List Bool) (p : Nat) (c told : Bool) (a : Addr) (md : Md) : Prop :=
  ∃ vm ds c', H a = some (.tup [vm, .str (ln ds), .str (ln [c'])]) ∧ TD K H vm md.data ∧ doneL ref md p c told = some (ds, c') ∧ (row.take (p + ds.length)).drop p = ds
theorem ItemAt.same {H H' : Hp} {ref row : List Bool} {p : Nat} {c told : Bool} {a : Addr} {md : Md} (i : ItemAt K H ref row p c told a md) (e : Same H H') : ItemAt K H' ref row p c told a md := by
  obtain ⟨vm, ds, c', h1, h2, h3, h4⟩ := i
  exact ⟨vm, ds, c', e _ _ h1, h2.same e, h3, h4⟩
structure Cands (K : PySem.W.Frag) (H : Hp) (ref row : List Bool) (p : Nat) (c told : Bool) (xs : List V) : Prop where
  sound : ∀ x ∈ xs, ∃ a md, x = .ref a ∧ GoodM md ∧ ItemAt K H ref row p c told a md
  most : xs.length ≤ 100
  full : ∀ n k, p + n + k ≤ row.length → okMd ref row p c told (.runs n k) → ∃ a, .ref a ∈ xs ∧ ItemAt K H ref row p c told a (.runs n k)
def spModes (K : PySem.W.Frag) : Sp := fun vs H Q _ => ∃ (ref row : List Bool) (p : Nat) (c told : Bool), vs = [.str (ln ref), .str (ln row), .int (p : Int), .str (ln [c]), .bl told] ∧ ref.length = row.length ∧ p < row.length ∧ row.length ≤ 6 ∧ (told = false → p = 0) ∧
  ∀ H' l xs, Same H H' → H l = none → H' l = some (.lst xs) → Cands K H' ref row p c told xs → Q (.ref l) H'
theorem tds_snoc {H : Hp} {xs : List V} {ms : List Md} {v : V} {md : Md} (h : TDs K H xs (ms.map Md.data)) (g : TD K H v md.data) : TDs K H (xs ++ [v]) ((ms ++ [md]).map Md.data) := by
  rw [List.map_append]
  exact h.append (.one g)
theorem sqT_updL {H : Hp} {d : Addr} {l : List V} {o : HO} (h : H d = some (.lst l)) (a : Addr) (xs : List V) (q : SqT K H a xs) : SqT K (upd H d o) a xs := by
  have ne : ∀ {u : HO}, H a = some u → (∀ z, u ≠ .lst z) → a ≠ d := fun {u} z n e => by subst e; rw [h] at z; exact n l (Option.some.inj z).symm
  rcases q with (q | ⟨o, q⟩) | q
  · exact .inl (.inl (by rw [upd_ne (ne q fun _ z => nomatch z)]; exact q))
  · exact .inl (.inr ⟨o, by rw [upd_ne (ne q fun _ z => nomatch z)]; exact q⟩)
  · exact .inr q
theorem ItemAt.updL {H : Hp} {ref row : List Bool} {p : Nat} {c told : Bool} {a d : Addr} {md : Md} {l : List V} {o : HO} (i : ItemAt K H ref row p c told a md) (h : H d = some (.lst l)) : ItemAt K (upd H d o) ref row p c told a md := by
  obtain ⟨vm, ds, c', h1, h2, h3, h4⟩ := i
  have ne : a ≠ d := fun e => by subst e; rw [h] at h1; cases h1
  exact ⟨vm, ds, c', by rw [upd_ne ne]; exact h1, h2.mono fun a ys z => sqT_updL h a ys z, h3, h4⟩
theorem doneL_len {ref : List Bool} {md : Md} {p : Nat} {c told c' : Bool} {ds : List Bool} (h : doneL ref md p c told = some (ds, c')) (ht : told = false → p = 0) (hp : p < ref.length) : p + ds.length ≤ ref.length ∧ (told = true → 0 < ds.length) := by
  unfold doneL at h
  cases hst : step ref md p c told with
  | none => rw [hst] at h; cases h
  | some ec =>
    obtain ⟨e, c2⟩ := ec
    rw [hst] at h
    have h1 := dots_len hst ht hp
    have e2 : dots md p e c = ds := congrArg Prod.fst (Option.some.inj h)
    rw [e2] at h1
    refine ⟨by omega, fun z => ?_⟩
    subst z
    have := step_far hst hp
    omega
theorem ok_modes (D : Df K mg "_law_modes" s_law_modes ["_law_reference", "_law_row_here", "_law_spot", "_law_dot", "_law_begun_here"]) (T : Txt mg)
    (C_law_done : Cal P w K mg base "_law_done" 2 ["_law_reference", "_law_mode", "_law_spot", "_law_dot", "_law_begun_here"] (spDone K)) :
    Cal P w K mg base "_law_modes" 3 ["_law_reference", "_law_row_here", "_law_spot", "_law_dot", "_law_begun_here"] (spModes K) := by
  refine D.cal sc_law_modes (fun vs H Q E h => ?_) (fun f cdv A outer s H vs Q E hr h => ?_)
  · obtain ⟨_, _, _, _, _, rfl, _⟩ := h; rfl
  · obtain ⟨ref, row, p, c, told, rfl, hlen, hp, hz, ht, q⟩ := h
    refine ⟨_, (pss_cons (ps_par (i := 5) (j := 6) (by rfl) sc_law_modes.nd rfl rfl (by decide) rfl rfl (pa_cons (pe_op op_cat (pe_lc (own := [("_law_k", 11)]) (g := (gName 11)) (tt := tYes) rfl sc_law_modes.nd (pi_range2 (by rfl) T.b_range (pa_cons (pe_un un_neg pe_int) (pa_cons pe_int pa_nil))) (blkOk_by (own := [("_law_k", 11)]) (N := ["_law_reference", "_law_row_here", "_law_spot", "_law_dot", "_law_begun_here", "_law_some", "_law_rest", "_law_first", "_law_found", "_law_mode", "_law_done_here", "_law_k", "_law_second"]) (sc := defScope s_law_modes) (by decide +kernel)) (fun _ _ _ _ _ => (pg_name (i := 11) sc_law_modes.nd rfl (.inl rfl))) (fun _ _ _ _ _ => pts_nil) (fun _ _ _ _ _ => (pe_tup (pa_cons pe_str (pa_cons (pv 11) pa_nil))))) (pe_lst (pa_cons (pe_tup (pa_cons pe_str pa_nil)) pa_nil))) (pa_cons (pe_op op_sub (pe_callB call_lenLn (by rfl) T.b_len PySem.boot_len (pa_cons (pv 1) pa_nil)) (pv 2)) pa_nil)) (by rfl))
      (pss_cons (ps_for PassesOwn.never rfl (pi_range1 (by rfl) T.b_range (pa_cons (pe_op op_add (pv 6) pe_int) pa_nil)) (pg_name (i := 7) sc_law_modes.nd rfl (.inr rfl)) (pss_one (ps_set (i := 5) sc_law_modes.nd rfl (.inl rfl) (pe_op op_cat (pv 5) (pe_lc (own := [("_law_second", 12)]) (g := (gName 12)) (tt := tYes) rfl sc_law_modes.nd (pi_range1 (by rfl) T.b_range (pa_cons (pe_op op_add (pe_op op_sub (pv 6) (pv 7)) pe_int) pa_nil)) (blkOk_by (own := [("_law_second", 12)]) (N := ["_law_reference", "_law_row_here", "_law_spot", "_law_dot", "_law_begun_here", "_law_some", "_law_rest", "_law_first", "_law_found", "_law_mode", "_law_done_here", "_law_k", "_law_second"]) (sc := defScope s_law_modes) (by decide +kernel)) (fun _ _ _ _ _ => (pg_name (i := 12) sc_law_modes.nd rfl (.inl rfl))) (fun _ _ _ _ _ => pts_nil) (fun _ _ _ _ _ => (pe_tup (pa_cons pe_str (pa_cons (pv 7) (pa_cons (pv 12) pa_nil))))))))))
      (pss_cons (ps_set (i := 8) sc_law_modes.nd rfl (.inl rfl) (pe_lst pa_nil))
      (pss_cons (ps_for PassesOwn.never rfl (pi_list (pv 5)) (pg_name (i := 9) sc_law_modes.nd rfl (.inl rfl)) (pss_cons (ps_set (i := 10) sc_law_modes.nd rfl (.inl rfl) (pe_cal C_law_done (hr.mono (by decide)) (pa_cons (pv 0) (pa_cons (pv 9) (pa_cons (pv 2) (pa_cons (pv 3) (pa_cons (pv 4) pa_nil)))))))
      (pss_one (ps_if (PW.pt (pw_and (pt_cmpR op_notN (pv 10) pe_non (nomark _)) (pw_and1 (pt_cmpR op_eqLn (pe_slice sl_ln (pv 1) (po_some (pv 2)) (po_some (pe_op op_add (pv 2) (pe_callB call_lenLn (by rfl) T.b_len PySem.boot_len (pa_cons (pe_ix ix_tup (pv 10) pe_int (fun _ _ => rfl)) pa_nil))))) (pe_ix ix_tup (pv 10) pe_int (fun _ _ => rfl)) (nomark _))))) (pss_one (ps_expr (pe_bm PySem.F.plainAttrs_list PySem.F.slot_list_append PySem.F.type_list_append mt_append (pv 8) (pa_cons (pe_tup (pa_cons (pv 9) (pa_cons (pe_ix ix_tup (pv 10) pe_int (fun _ _ => rfl)) (pa_cons (pe_ix ix_tup (pv 10) pe_int (fun _ _ => rfl)) pa_nil)))) pa_nil)))) pss_nil))))
      (pss_one (ps_ret (pv 8))))))), ?_⟩
    refine ⟨_, rfl, _, _, rfl, ⟨by decide, by decide, by decide, by decide⟩, fun d0 hd0 => ?_⟩
    refine loop_it (walk_range (lo := -3) (n := 7)) (fun j H2 => Same H H2 ∧ ∃ (xs : List V) (ms : List Md), H2 d0 = some (.lst xs) ∧ TDs K H2 xs (ms.map Md.data) ∧ (∀ md ∈ ms, GoodM md) ∧ ms.length = j)
      ⟨same_new hd0, [], [], upd_same, .nil, fun _ h => (by cases h), rfl⟩ (fun _ _ _ _ => trivial) ?_ ?_
    · rintro j x H2 H3 hj ⟨e1, xs, ms, g1, g2, g3, g4⟩ ⟨rfl, rfl⟩
      have hxm : xs.length = ms.length := by rw [g2.length, List.length_map]
      refine ⟨rfl, ?_⟩
      refine ⟨_, rfl, szOf (show 2 ≤ 100000 by decide), fun pt hpt => ?_⟩
      have e2 := e1.trans (same_new (o := .tup [.str "stay", .int (-3 + (j : Int))]) hpt)
      have g1' : (upd H3 pt (.tup [.str "stay", .int (-3 + (j : Int))])) d0 = _ := (upd_ne (ne_of_none g1 hpt)).trans g1
      have g2' := g2.same (same_new (o := .tup [.str "stay", .int (-3 + (j : Int))]) hpt)
      have tn : TD K (upd H3 pt (.tup [.str "stay", .int (-3 + (j : Int))])) (.ref pt) (Md.stay (-3 + (j : Int))).data := td_new hpt (.cons (.str _) (.cons (.int _) .nil))
      refine ⟨_, g1', szLt (by omega), same_mut e2 hd0, xs ++ [.ref pt], ms ++ [.stay (-3 + (j : Int))], upd_same, ?_, ?_, by simp; omega⟩
      · exact (tds_snoc g2' tn).mono fun a ys z => sqT_updL g1' a ys z
      · intro md hmd
        rcases List.mem_append.mp hmd with h | h
        · exact g3 md h
        · rw [List.mem_singleton.mp h]; exact ⟨by omega, by omega⟩
    · rintro H2 ⟨e1, xs, ms, g1, g2, g3, g4⟩
      have hxm : xs.length = ms.length := by rw [g2.length, List.length_map]
      refine ⟨szOf (show 1 ≤ 100000 by decide), fun pp hpp => ⟨szOf (show 1 ≤ 100000 by decide), fun pq hpq => ?_⟩⟩
      have e3 := e1.trans (same_new (o := .tup [.str "pass"]) hpp)
      have e4 := e3.trans (same_new (o := .lst [.ref pp]) hpq)
      have g5 : (upd (upd H2 pp (.tup [.str "pass"])) pq (.lst [.ref pp])) d0 = some (.lst xs) := ((same_new (o := .tup [.str "pass"]) hpp).trans (same_new (o := .lst [.ref pp]) hpq)) _ _ g1
      have tp : TD K (upd H2 pp (.tup [.str "pass"])) (.ref pp) Md.pass.data := td_new hpp (.cons (.str _) .nil)
      have t5 : TDs K (upd (upd H2 pp (.tup [.str "pass"])) pq (.lst [.ref pp])) (xs ++ [.ref pp]) ((ms ++ [Md.pass]).map Md.data) :=
        (tds_snoc (g2.same (same_new (o := .tup [.str "pass"]) hpp)) tp).same (same_new hpq)
      refine ⟨d0, pq, _, _, rfl, rfl, g5, upd_same, szOf (by simp; omega), fun p0 hp0 => ?_⟩
      have e5 := e4.trans (same_new (o := .lst (xs ++ [.ref pp])) hp0)
      have t6 := t5.same (same_new (o := .lst (xs ++ [.ref pp])) hp0)
      refine ⟨_, rfl, row, rfl, by omega, _, rfl, _, _, rfl, rfl, _, _, rfl, ?_⟩
      refine ⟨_, rfl, _, _, rfl, rfl, _, rfl, by omega, by omega, for_range (lo := 0) (fun i σ H1 => Same H H1 ∧ ∃ (ps : Addr) (xs : List V) (ms : List Md) (y7 y8 y9 y10 y11 y12 : Option V),
          σ = [some (.str (ln ref)), some (.str (ln row)), some (.int (p : Int)), some (.str (ln [c])), some (.bl told), some (.ref ps), some (.int ((row.length : Int) - p)), y7, y8, y9, y10, y11, y12] ∧
          H1 ps = some (.lst xs) ∧ TDs K H1 xs (ms.map Md.data) ∧ (∀ md ∈ ms, GoodM md) ∧ ms.length ≤ 8 + 7 * i ∧ (∀ n k, n < i → p + n + k ≤ row.length → Md.runs n k ∈ ms))
        ⟨e5, p0, xs ++ [.ref pp], ms ++ [Md.pass], none, none, none, none, none, none, rfl, upd_same, t6, fun md hmd => ?_, by simp; omega, fun n k h => absurd h (Nat.not_lt_zero _)⟩ ?_ ?_⟩
      · rcases List.mem_append.mp hmd with h | h
        · exact g3 md h
        · rw [List.mem_singleton.mp h]; trivial
      · rintro i σ H3 hi ⟨e6, ps, xs, ms, y7, y8, y9, y10, y11, y12, rfl, k1, k2, k3, k4, k5⟩
        rw [show V.int (0 + (i : Int)) = V.int ((i : Nat) : Int) from congrArg V.int (by omega)]
        refine ⟨_, rfl, _, rfl, _, rfl, _, _, rfl, rfl, _, _, rfl, rfl, _, rfl, by omega, by omega, fun d hd => ?_⟩
        have hnn : ((row.length : Int) - p - i + 1).toNat = row.length - p - i + 1 := by omega
        refine loop_it (walk_range (lo := 0) (n := _)) (fun j H4 => Same H3 H4 ∧ ∃ ys, H4 d = some (.lst ys) ∧ TDs K H4 ys (((List.range j).map fun k => Md.runs i k).map Md.data))
          ⟨same_new hd, [], upd_same, .nil⟩ (fun _ _ _ _ => trivial) ?_ ?_
        · rintro j x H4 H5 hj ⟨e7, ys, m1, m2⟩ ⟨rfl, hx⟩
          obtain rfl : x = V.int ((j : Nat) : Int) := hx.trans (congrArg V.int (Int.zero_add _))
          refine ⟨rfl, ?_⟩
          refine ⟨_, rfl, _, rfl, szOf (show 3 ≤ 100000 by decide), fun pt hpt => ?_⟩
          have sn := same_new (o := .tup [.str "runs", .int (i : Int), .int (j : Int)]) hpt
          have tn : TD K (upd H5 pt (.tup [.str "runs", .int (i : Int), .int (j : Int)])) (.ref pt) (Md.runs i j).data := td_new hpt (.cons (.str _) (.cons (.int _) (.cons (.int _) .nil)))
          have m1' := sn _ _ m1
          have hyl : ys.length = j := by rw [m2.length]; simp
          refine ⟨_, m1', szLt (by omega), same_mut (e7.trans sn) hd, ys ++ [.ref pt], upd_same, ?_⟩
          rw [List.range_succ, List.map_append]
          exact (tds_snoc (m2.same sn) tn).mono fun a zs z => sqT_updL m1' a zs z
        · rintro H4 ⟨e7, ys, m1, m2⟩
          rw [hnn] at m2
          have hyl : ys.length = row.length - p - i + 1 := by rw [m2.length]; simp
          have hxl : xs.length = ms.length := by rw [k2.length, List.length_map]
          refine ⟨ps, d, _, _, rfl, rfl, e7 _ _ k1, m1, szOf (by omega), fun pn hpn => ?_⟩
          have sn := same_new (o := .lst (xs ++ ys)) hpn
          refine ⟨(e6.trans e7).trans sn, pn, xs ++ ys, ms ++ (List.range (row.length - p - i + 1)).map (fun k => Md.runs i k), _, _, _, _, _, _, rfl, upd_same, ?_, ?_, ?_, ?_⟩
          · rw [List.map_append]
            exact ((k2.same e7).append m2).same sn
          · intro md hmd
            rcases List.mem_append.mp hmd with h | h
            · exact k3 md h
            · obtain ⟨k, hk, rfl⟩ := List.mem_map.mp h
              rw [List.mem_range] at hk
              exact ⟨by omega, by omega⟩
          · simp; omega
          · intro n k h1 h2
            by_cases hn : n < i
            · exact List.mem_append_left _ (k5 n k hn h2)
            · obtain rfl : n = i := by omega
              exact List.mem_append_right _ (List.mem_map.mpr ⟨k, List.mem_range.mpr (by omega), rfl⟩)
      · rintro σ H3 ⟨e6, ps, xs, ms, y7, y8, y9, y10, y11, y12, rfl, k1, k2, k3, k4, k5⟩
        have hxl : xs.length = ms.length := by rw [k2.length, List.length_map]
        have hxz : xs.length ≤ 64 := by omega
        refine ⟨Nat.zero_le _, fun pf hpf => ?_⟩
        have sn := same_new (o := .lst []) hpf
        refine ⟨_, rfl, ps, rfl, ⟨_, sqL_of (sn _ _ k1)⟩, for_list (xs := xs) (fun i σ H4 => Same H3 H4 ∧ ∃ (fs : List V) (y7 y9 y10 y11 y12 : Option V),
            σ = [some (.str (ln ref)), some (.str (ln row)), some (.int (p : Int)), some (.str (ln [c])), some (.bl told), some (.ref ps), some (.int ((row.length : Int) - p)), y7, some (.ref pf), y9, y10, y11, y12] ∧
            H4 pf = some (.lst fs) ∧ (∀ x ∈ fs, ∃ a md, x = .ref a ∧ GoodM md ∧ ItemAt K H4 ref row p c told a md) ∧ fs.length ≤ i ∧
            (∀ j md, j < i → ms[j]? = some md → okMd ref row p c told md → ∃ a, .ref a ∈ fs ∧ ItemAt K H4 ref row p c told a md))
          ⟨sn, [], _, _, _, _, _, rfl, upd_same, fun x h => (by cases h), Nat.le_refl _, fun j md h => absurd h (Nat.not_lt_zero _)⟩ (fun i σ H4 _ h => sqL_of (h.1 _ _ k1)) ?_ ?_⟩
        · rintro i x σ H4 hx ⟨e7, fs, y7, y9, y10, y11, y12, rfl, m1, m2, m3, m4⟩
          obtain ⟨dd, hdi, htd⟩ := k2.getV hx
          obtain ⟨md, hmd, rfl⟩ : ∃ md, ms[i]? = some md ∧ dd = md.data := by
            rw [List.getElem?_map] at hdi
            cases hzz : ms[i]? with
            | none => rw [hzz] at hdi; cases hdi
            | some m => rw [hzz] at hdi; exact ⟨m, rfl, (Option.some.inj hdi).symm⟩
          have hgm := k3 md (List.mem_of_getElem? hmd)
          have hsm : smallM md := by
            cases md with
            | stay d => have h1 := hgm.1; have h2 := hgm.2; exact ⟨by omega, by omega⟩
            | pass => trivial
            | runs n k => have h1 := hgm.1; have h2 := hgm.2; exact ⟨by omega, by omega⟩
          have hil : i < xs.length := (List.getElem?_eq_some_iff.mp hx).1
          have hpfn : H3 pf = none := hpf
          have skip : ¬ okMd ref row p c told md → ∀ H5, Same H4 H5 → (Same H3 H5 ∧ H5 pf = some (.lst fs) ∧ (∀ x ∈ fs, ∃ a md, x = .ref a ∧ GoodM md ∧ ItemAt K H5 ref row p c told a md) ∧ fs.length ≤ i + 1 ∧
              (∀ j md, j < i + 1 → ms[j]? = some md → okMd ref row p c told md → ∃ a, .ref a ∈ fs ∧ ItemAt K H5 ref row p c told a md)) := fun hno H5 e8 => by
            refine ⟨e7.trans e8, e8 _ _ m1, fun x hxm => ?_, by omega, fun j md' hj hjm hok => ?_⟩
            · obtain ⟨a, md2, e, h1, h2⟩ := m2 x hxm
              exact ⟨a, md2, e, h1, h2.same e8⟩
            · by_cases hji : j = i
              · subst hji
                rw [hmd] at hjm
                obtain rfl := Option.some.inj hjm
                exact absurd hok hno
              · obtain ⟨a, h1, h2⟩ := m4 j md' (by omega) hjm hok
                exact ⟨a, h1, h2.same e8⟩
          refine ⟨_, rfl, _, rfl, _, rfl, _, rfl, _, rfl, ref, x, md, p, c, told, rfl, htd.same e7, hsm, by omega, by omega, ht, fun H5 u e8 hu => ?_⟩
          cases hdl : doneL ref md p c told with
          | none =>
            rw [hdl] at hu
            obtain rfl : u = .non := hu
            obtain ⟨w1, w2, w3, w4, w5⟩ := skip (fun ⟨ds, c', z, _⟩ => by rw [hdl] at z; cases z) H5 e8
            exact ⟨_, rfl, rfl, _, rfl, nF rfl ⟨w1, fs, _, _, _, _, _, rfl, w2, w3, w4, w5⟩⟩
          | some dc =>
            obtain ⟨ds, c'⟩ := dc
            rw [hdl] at hu
            obtain ⟨tt, rfl, htt⟩ := hu
            have hdz := (doneL_len hdl ht (by omega)).1
            refine ⟨_, rfl, rfl, _, rfl, nT (fun z => nomatch z) ?_⟩
            refine ⟨_, rfl, _, rfl, _, rfl, _, rfl, _, rfl, tt, _, 0, _, rfl, rfl, htt, atI_nat (j := 0) rfl, ds, rfl, by omega, _, _, rfl, rfl, _, rfl, row, p, p + ds.length, rfl, by omega, .inl rfl, .inl rfl,
              _, rfl, tt, _, 0, _, rfl, rfl, htt, atI_nat (j := 0) rfl, (row.take (p + ds.length)).drop p, ds, rfl, rfl, _, rfl, ?_⟩
            refine d2 (fun h1 => ?_) (fun h1 => ?_)
            · refine ⟨_, rfl, .inl ⟨rfl, _, sqL_of (e8 _ _ m1)⟩, _, rfl, _, rfl, tt, _, 0, _, rfl, rfl, htt, atI_nat (j := 0) rfl, _, rfl, tt, _, 1, _, rfl, rfl, htt, atI_nat (j := 1) rfl, szOf (show 3 ≤ 100000 by decide), fun pt hpt => ?_⟩
              have sn2 := same_new (o := .tup [x, .str (ln ds), .str (ln [c'])]) hpt
              have e9 := e8.trans sn2
              have m1' := e9 _ _ m1
              have hpfn5 : pf ≠ pt := ne_of_none (e8 _ _ m1) hpt
              have itn : ItemAt K (upd H5 pt (.tup [x, .str (ln ds), .str (ln [c'])])) ref row p c told pt md := ⟨x, ds, c', upd_same, htd.same ((e7.trans e8).trans sn2), hdl, h1⟩
              refine ⟨pf, _, _, rfl, rfl, m1', szLt (by omega), same_mut (e7.trans e9) hpfn, fs ++ [.ref pt], _, _, _, _, _, rfl, upd_same, ?_, by simp; omega, ?_⟩
              · intro y hy
                rcases List.mem_append.mp hy with hy | hy
                · obtain ⟨a, md2, e, h1, h2⟩ := m2 y hy
                  exact ⟨a, md2, e, h1, (h2.same e9).updL m1'⟩
                · rw [List.mem_singleton.mp hy]
                  exact ⟨pt, md, rfl, hgm, itn.updL m1'⟩
              · intro j md' hj hjm hok
                by_cases hji : j = i
                · subst hji
                  rw [hmd] at hjm
                  obtain rfl := Option.some.inj hjm
                  exact ⟨pt, List.mem_append_right _ (List.mem_singleton.mpr rfl), itn.updL m1'⟩
                · obtain ⟨a, h1, h2⟩ := m4 j md' (by omega) hjm hok
                  exact ⟨a, List.mem_append_left _ h1, (h2.same e9).updL m1'⟩
            · obtain ⟨w1, w2, w3, w4, w5⟩ := skip (fun ⟨ds2, c2, z, z2⟩ => by
                rw [hdl] at z
                injection z with z
                injection z with z3 z4
                subst z3
                exact h1 z2) H5 e8
              exact ⟨w1, fs, _, _, _, _, _, rfl, w2, w3, w4, w5⟩
        · rintro σ H4 ⟨e7, fs, y7, y9, y10, y11, y12, rfl, m1, m2, m3, m4⟩
          refine ⟨_, rfl, q _ pf fs (e6.trans e7) (none_of e6 hpf) m1 ⟨m2, by omega, fun n k h1 h2 => ?_⟩⟩
          have hmem := k5 n k (by omega) h1
          obtain ⟨j, hj⟩ := List.getElem?_of_mem hmem
          have hjl := (List.getElem?_eq_some_iff.mp hj).1
          exact m4 j _ (by omega) hj h2
end
end Fx

set_option Elab.async false
set_option linter.all false
set_option maxRecDepth 100000
set_option maxHeartbeats 2000000
set_option pp.maxSteps 400
namespace Fx
open PySem PySem.Spec PyProof.Rows L2
section
variable {P : Program} {w : World} {K : PySem.W.Frag} {mg : Str → Option Value} {base : Heap}
local macro_rules | `(tactic| walk_at "rd") => `(tactic| repeat (first
  | refine ⟨_, rfl, ?_⟩ | refine ⟨_, _, rfl, rfl, ?_⟩ | refine ⟨rfl, ?_⟩ | refine iteT ?_ | refine iteF ?_
  | refine ⟨_, _, rfl, by assumption, ?_⟩ | refine ⟨_, _, rfl, .inr (by assumption), ?_⟩ | refine ⟨_, _, rfl, .inl (by assumption), ?_⟩
  | refine ⟨_, _, _, _, rfl, rfl, by assumption, by first | rfl | exact atI_nat (j := 0) rfl | exact atI_nat (j := 1) rfl | exact atI_nat (j := 2) rfl, ?_⟩
  | refine And.intro (by omega) ?_))
/-! ### _law_telling -/
abbrev s_law_telling : Stmt := topS 55
theorem sc_law_telling : FnScope ["_law_m", "_law_reference", "_law_row_here", "_law_found", "_law_spot", "_law_dot", "_law_begun_here", "_law_some", "_law_mode", "_law_dots", "_law_one"] ["_law_m", "_law_reference", "_law_row_here"] (defScope s_law_telling) := ⟨rfl, rfl, rfl, by decide +kernel, rfl, by decide +kernel, by decide +kernel⟩
def spTelling (K : PySem.W.Frag) : Sp := fun vs H Q _ => ∃ (m : Addr) (ref row : List Bool) (S : GS), vs = [.ref m, .str (ln ref), .str (ln row)] ∧ ref.length = row.length ∧ 0 < row.length ∧ row.length ≤ 6 ∧ Gen H m S ∧ S.k ≤ 900000 ∧
  ∀ (H' : Hp) (S' : GS) (v : V) (t : Tl), Drew m S S' H H' 50 → TD K H' v t.data → GoodT t → Q v H'
/-- the runs that go on: a mode that is a candidate wherever one asks -/
theorem runs_at : ∀ (row : List Bool) (p : Nat) (c : Bool), p < row.length → ∃ n k, p + n + k ≤ row.length ∧ 0 < n + k ∧ (row.take (p + (n + k))).drop p = List.replicate n c ++ List.replicate k (!c) ∧ (k = 0 → p + n = row.length) ∧
    ((row ++ [c]).getD (p + (n + k)) false = c) ∧ (row.getD p false = c → 0 < n) := by
  -- the greatest n, then the greatest k
  have run : ∀ (L : List Bool) (c : Bool), ∃ n, n ≤ L.length ∧ L.take n = List.replicate n c ∧ (n < L.length → L.getD n false = !c) := fun L c => by
    induction L with
    | nil => exact ⟨0, Nat.le_refl _, rfl, fun h => absurd h (by simp)⟩
    | cons b L ih =>
      by_cases e : b = c
      · obtain ⟨n, h1, h2, h3⟩ := ih
        refine ⟨n + 1, by simp; omega, by rw [List.take_succ_cons, h2, e]; rfl, fun h => ?_⟩
        rw [List.getD_cons_succ]
        exact h3 (by simpa using h)
      · refine ⟨0, Nat.zero_le _, rfl, fun _ => ?_⟩
        rw [List.getD_cons_zero]
        cases b <;> cases c <;> simp_all
  intro row p c hp
  obtain ⟨n, n1, n2, n3⟩ := run (row.drop p) c
  obtain ⟨k, k1, k2, k3⟩ := run ((row.drop p).drop n) (!c)
  rw [List.length_drop] at n1 n3
  rw [List.length_drop, List.length_drop] at k1 k3
  have gd : ∀ (L : List Bool) (a i : Nat), (L.drop a).getD i false = L.getD (a + i) false := fun L a i => by
    rw [List.getD_eq_getElem?_getD, List.getD_eq_getElem?_getD, List.getElem?_drop]
  rw [gd, Bool.not_not, gd] at k3
  rw [gd] at n3
  have nn : ∀ b : Bool, b = !b → False := fun b h => by cases b <;> cases h
  refine ⟨n, k, by omega, ?_, ?_, fun h0 => ?_, ?_, fun hc => ?_⟩
  · refine Nat.pos_of_ne_zero fun h => ?_
    have h1 : n = 0 := by omega
    have h2 : k = 0 := by omega
    subst h1 h2
    have a := n3 (by omega)
    have b := k3 (by omega)
    simp only [Nat.add_zero] at a b
    rw [b] at a
    exact nn c a
  · rw [List.drop_take, show p + (n + k) - p = n + k by omega, List.take_add, n2, k2]
  · refine Classical.byContradiction fun h => ?_
    subst h0
    have a := n3 (by omega)
    have b := k3 (by omega)
    simp only [Nat.add_zero] at a b
    rw [b] at a
    exact nn c a
  · by_cases h : p + (n + k) < row.length
    · have b := k3 (by omega)
      rw [List.getD_eq_getElem?_getD, List.getElem?_append_left h, ← List.getD_eq_getElem?_getD]
      exact b
    · rw [List.getD_eq_getElem?_getD, List.getElem?_append_right (by omega), show p + (n + k) - row.length = 0 by omega]
      rfl
  · refine Nat.pos_of_ne_zero fun h => ?_
    subst h
    have a := n3 (by omega)
    simp only [Nat.add_zero] at a
    rw [hc] at a
    exact nn c a
theorem doneL_runs {ref : List Bool} {n k p : Nat} {c told c' : Bool} {ds : List Bool} (h : doneL ref (.runs n k) p c told = some (ds, c')) : ds.length = n + k ∧ c' = c := by
  simp only [doneL, step] at h
  split at h
  · cases h
  · injection h with h
    injection h with h1 h2
    refine ⟨?_, h2.symm⟩
    rw [← h1]
    simp [dots]
theorem ok_telling (D : Df K mg "_law_telling" s_law_telling ["_law_m", "_law_reference", "_law_row_here"]) (T : Txt mg) (C_law_of : Cal P w K mg base "_law_of" 2 ["_law_m", "_law_some"] (spOf K))
    (C_law_modes : Cal P w K mg base "_law_modes" 3 ["_law_reference", "_law_row_here", "_law_spot", "_law_dot", "_law_begun_here"] (spModes K)) (C_law_goes_on : Cal P w K mg base "_law_goes_on" 1 ["_law_row_here", "_law_spot", "_law_one"] (spGoes K)) :
    Cal P w K mg base "_law_telling" 4 ["_law_m", "_law_reference", "_law_row_here"] (spTelling K) := by
  refine D.cal sc_law_telling (fun vs H Q E h => ?_) (fun f cdv A outer s H vs Q E hr h => ?_)
  · obtain ⟨_, _, _, _, rfl, _⟩ := h; rfl
  · obtain ⟨m, ref, row, S, rfl, hlen, h0, hz, G, hk, q⟩ := h
    refine ⟨_, (pss_cons (ps_asg (pe_tup (pa_cons (pe_lst pa_nil) (pa_cons pe_int (pa_cons (pe_lnC w_white) (pa_cons pe_bl pa_nil))))) (pg_tup rfl (pgs_cons (pg_name (i := 3) sc_law_telling.nd rfl (.inl rfl)) (pgs_cons (pg_name (i := 4) sc_law_telling.nd rfl (.inr rfl)) (pgs_cons (pg_name (i := 5) sc_law_telling.nd rfl (.inl rfl)) (pgs_cons (pg_name (i := 6) sc_law_telling.nd rfl (.inl rfl)) pgs_nil))))))
      (pss_cons (ps_while PassesOwn.never (pt_cmpR op_lt (pv 4) (pe_callB call_lenLn (by rfl) T.b_len PySem.boot_len (pa_cons (pv 2) pa_nil)) (nomark _)) (pss_cons (ps_set (i := 7) sc_law_telling.nd rfl (.inl rfl) (pe_cal C_law_modes (hr.mono (by decide)) (pa_cons (pv 1) (pa_cons (pv 2) (pa_cons (pv 4) (pa_cons (pv 5) (pa_cons (pv 6) pa_nil)))))))
      (pss_cons (ps_setLc (i := 7) (own := [("_law_one", 10)]) (g := (gName 10)) rfl sc_law_telling.nd rfl rfl (sw_true rfl rfl rfl (by decide +kernel)) (pi_list (pv 7)) (blkOk_by (own := [("_law_one", 10)]) (N := ["_law_m", "_law_reference", "_law_row_here", "_law_found", "_law_spot", "_law_dot", "_law_begun_here", "_law_some", "_law_mode", "_law_dots", "_law_one"]) (sc := defScope s_law_telling) (by decide +kernel)) (fun _ _ _ _ _ => (pg_name (i := 10) sc_law_telling.nd rfl (.inl rfl))) (fun _ _ _ _ _ => pts_one (pt_val (pe_cal C_law_goes_on (hr.mono (by decide)) (pa_cons (pv 2) (pa_cons (pv 4) (pa_cons (pv 10) pa_nil)))))) (fun _ _ _ _ _ => (pv 10)))
      (pss_cons (ps_asg (pe_cal C_law_of (hr.mono (by decide)) (pa_cons (pv 0) (pa_cons (pv 7) pa_nil))) (pg_tup rfl (pgs_cons (pg_name (i := 8) sc_law_telling.nd rfl (.inl rfl)) (pgs_cons (pg_name (i := 9) sc_law_telling.nd rfl (.inl rfl)) (pgs_cons (pg_name (i := 5) sc_law_telling.nd rfl (.inl rfl)) pgs_nil)))))
      (pss_cons (ps_expr (pe_bm PySem.F.plainAttrs_list PySem.F.slot_list_append PySem.F.type_list_append mt_append (pv 3) (pa_cons (pv 8) pa_nil)))
      (pss_one (ps_asg (pe_tup (pa_cons (pe_op op_add (pv 4) (pe_callB call_lenLn (by rfl) T.b_len PySem.boot_len (pa_cons (pv 9) pa_nil))) (pa_cons pe_bl pa_nil))) (pg_tup rfl (pgs_cons (pg_name (i := 4) sc_law_telling.nd rfl (.inr rfl)) (pgs_cons (pg_name (i := 6) sc_law_telling.nd rfl (.inl rfl)) pgs_nil))))))))))
      (pss_one (ps_ret (pe_callTy call_tuple_of (by rfl) T.b_tuple (by decide +kernel) (pa_cons (pv 3) pa_nil)))))), ?_⟩
    refine ⟨Nat.zero_le _, fun fo hfo => ⟨szOf (show 4 ≤ 100000 by decide), fun p2 hp2 => ?_⟩⟩
    have s1 := (same_new (o := .lst []) hfo).trans (same_new (o := .tup [.ref fo, .int 0, .str (ln [false]), .bl false]) hp2)
    have g1 : (upd (upd H fo (.lst [])) p2 (.tup [.ref fo, .int 0, .str (ln [false]), .bl false])) fo = some (.lst []) := (upd_ne (ne_of_none (upd_same (o := .lst [])) hp2)).trans upd_same
    refine ⟨p2, _, rfl, sqT_new, rfl, _, _, rfl, _, _, rfl, _, _, rfl, _, _, rfl, rfl, ?_⟩
    have ow0 := own_of G hfo
    refine ⟨fun (N : Nat) (σ : L2.St) (H1 : Hp) => ∃ (S1 : GS) (p : Nat) (c told : Bool) (xs : List V) (ms : List Md) (y7 y8 y9 y10 : Option V), Drew m S S1 H H1 ms.length ∧
        σ = [some (.ref m), some (.str (ln ref)), some (.str (ln row)), some (.ref fo), some (.int (p : Int)), some (.str (ln [c])), some (.bl told), y7, y8, y9, y10] ∧
        Own m S1 fo ∧ H1 fo = some (.lst xs) ∧ TDs K H1 xs (ms.map Md.data) ∧ (∀ md ∈ ms, GoodM md) ∧ ms.length + N ≤ 13 ∧ N = 2 * (row.length - p) + (if told then 0 else 1) ∧
        (told = false → p = 0) ∧ (told = true → (row ++ [c]).getD p false = c) ∧ p ≤ row.length,
      ⟨_, S, 0, false, false, [], [], none, none, none, none, (Drew.refl G).same s1, rfl, ow0, g1, .nil, fun _ h => (by cases h), ?_, rfl, fun _ => rfl, fun h => (by cases h), Nat.zero_le _⟩, ?_⟩
    · simp; omega
    rintro N σ H1 ⟨S1, p, c, told, xs, ms, y7, y8, y9, y10, d1, rfl, ow, g2, g3, g4, g5, g6, g7, g8, g9⟩
    have hxl : xs.length = ms.length := by rw [g3.length, List.length_map]
    refine ⟨_, rfl, _, rfl, row, rfl, by omega, _, _, rfl, rfl, _, rfl, d2 (fun h1 => ⟨_, fun _ _ h => h, ?_⟩) (fun h1 => ?_)⟩
    · have hp : p < row.length := by omega
      refine ⟨_, rfl, _, rfl, _, rfl, _, rfl, _, rfl, ref, row, p, c, told, rfl, hlen, hp, hz, g7, fun H2 l cs e2 hl0 hl hc => ?_⟩
      refine ⟨_, rfl, l, rfl, ⟨_, sqL_of hl⟩, fun d hd => ?_⟩
      refine loop_it (walk_list (K := K) (a := l) (xs := cs)) (fun j H3 => Same H2 H3 ∧ ∃ ys : List V, H3 d = some (.lst ys) ∧ ys.length ≤ j ∧
          (∀ y ∈ ys, ∃ a md vm ds c', y = .ref a ∧ GoodM md ∧ H2 a = some (.tup [vm, .str (ln ds), .str (ln [c'])]) ∧ TD K H2 vm md.data ∧ doneL ref md p c told = some (ds, c') ∧ (row.take (p + ds.length)).drop p = ds ∧ (row ++ [c']).getD (p + ds.length) false = c') ∧
          (∀ i a n k, i < j → cs[i]? = some (.ref a) → ItemAt K H2 ref row p c told a (.runs n k) → (row ++ [c]).getD (p + (n + k)) false = c → .ref a ∈ ys))
        ⟨same_new hd, [], upd_same, Nat.le_refl _, fun _ h => (by cases h), fun i a n k h => absurd h (Nat.not_lt_zero _)⟩ (fun j H3 _ h => sqL_of (h.1 _ _ hl)) ?_ ?_
      · rintro j x H3 H4 hj ⟨e3, ys, k1, k2, k3, k4⟩ ⟨rfl, hx⟩
        obtain ⟨a, md, rfl, hgm, vm, ds, c', hta, htd, hdl, hmt⟩ := hc.sound x (List.mem_of_getElem? hx)
        have hdz := doneL_len hdl g7 (by omega)
        have hjz := hc.most
        refine ⟨rfl, ?_⟩
        refine ⟨_, rfl, _, rfl, _, rfl, row, p, a, vm, ds, c', rfl, sqT_of (e3 _ _ hta), by omega, by omega, _, rfl, ?_⟩
        refine d2 (fun h2 => ?_) (fun h2 => ?_)
        · refine ⟨_, rfl, _, k1, szLt (by omega), same_mut e3 hd, ys ++ [.ref a], upd_same, by simp; omega, fun y hy => ?_, fun i a' n k hi hca hit hgo => ?_⟩
          · rcases List.mem_append.mp hy with hy | hy
            · exact k3 y hy
            · rw [List.mem_singleton.mp hy]
              exact ⟨a, md, vm, ds, c', rfl, hgm, hta, htd, hdl, hmt, h2⟩
          · by_cases hij : i = j
            · subst hij
              rw [hx] at hca
              rw [Option.some.inj hca]
              exact List.mem_append_right _ (List.mem_singleton.mpr rfl)
            · exact List.mem_append_left _ (k4 i a' n k (by omega) hca hit hgo)
        · refine ⟨e3, ys, k1, by omega, k3, fun i a' n k hi hca hit hgo => ?_⟩
          by_cases hij : i = j
          · subst hij
            rw [hx] at hca
            obtain rfl : a = a' := V.ref.inj (Option.some.inj hca)
            obtain ⟨vm', ds', c'', q1, q2, q3, q4⟩ := hit
            rw [hta] at q1
            have q1 := HO.tup.inj (Option.some.inj q1)
            injection q1 with _ q1
            injection q1 with q5 q1
            injection q1 with q6 _
            have q5 := ln_inj (V.str.inj q5)
            have q6 := ln_inj (V.str.inj q6)
            injection q6 with q6 _
            subst q5 q6
            exfalso
            apply h2
            obtain ⟨e1', e2'⟩ := doneL_runs q3
            rw [e2', e1']
            exact hgo
          · exact k4 i a' n k (by omega) hca hit hgo
      · rintro H3 ⟨e3, ys, k1, k2, k3, k4⟩
        have hcm := hc.most
        rw [show cs.length = cs.length from rfl] at k2
        have hne : 0 < ys.length := by
          obtain ⟨n, k, r1, r2, r3, r4, r5, r6⟩ := runs_at row p c hp
          have hcond : ¬ (p + n + k > ref.length ∨ (n = 0 ∧ told = true) ∨ (k = 0 ∧ p + n < ref.length)) := by
            rintro (z | ⟨z1, z2⟩ | ⟨z1, z2⟩)
            · omega
            · have := g8 z2
              rw [List.getD_eq_getElem?_getD, List.getElem?_append_left hp, ← List.getD_eq_getElem?_getD] at this
              have := r6 this
              omega
            · have := r4 z1
              omega
          have hok : okMd ref row p c told (.runs n k) := ⟨List.replicate n c ++ List.replicate k (!c), c, by simp only [doneL, step]; rw [if_neg hcond]; rfl, by rw [List.length_append, List.length_replicate, List.length_replicate]; exact r3⟩
          obtain ⟨a, ha1, ha2⟩ := hc.full n k r1 hok
          obtain ⟨i, hi⟩ := List.getElem?_of_mem ha1
          exact List.length_pos_of_mem (k4 i a n k (List.getElem?_eq_some_iff.mp hi).1 hi ha2 r5)
        have d2' := d1.same e2
        have d3 := d2'.same e3
        have hfar := d3.far
        have hfo3 := e3 _ _ (e2 _ _ g2)
        have owd := own_of d2'.gen hd
        refine ⟨_, rfl, _, rfl, m, _, S1, rfl, d3.gen, by omega, .inr ⟨d, ys, rfl, k1, owd, hne, by omega, fun H4 S4 x d4 hx => ?_⟩⟩
        obtain ⟨a, md, vm, ds, c', rfl, hgm, hta, htd, hdl, hmt, hgo⟩ := k3 x hx
        have hdz := doneL_len hdl g7 (by omega)
        have hsq := d4.fr.sqT d3.gen (sqT_of (K := K) (e3 _ _ hta))
        have htd4 := d4.fr.td d3.gen (htd.same e3)
        have g34 := d4.fr.tds d3.gen ((g3.same e2).same e3)
        obtain ⟨ow4, hfo4⟩ := d4.own ow hfo3
        refine ⟨a, _, rfl, hsq, rfl, _, _, rfl, _, _, rfl, _, _, rfl, rfl, ?_⟩
        refine ⟨_, rfl, .inl ⟨rfl, _, sqL_of hfo4⟩, _, rfl, fo, _, _, rfl, rfl, hfo4, szLt (by omega), ?_⟩
        refine ⟨_, rfl, _, rfl, ds, rfl, by omega, _, _, rfl, rfl, szOf (show 2 ≤ 100000 by decide), fun p5 hp5 => ?_⟩
        refine ⟨p5, _, rfl, sqT_new, rfl, _, _, rfl, _, _, rfl, rfl, ?_⟩
        have sn := same_new (o := .tup [.int ((p : Int) + (ds.length : Int)), .bl true]) hp5
        refine ⟨2 * (row.length - (p + ds.length)) + 0, ?_, S4, p + ds.length, c', true, xs ++ [vm], ms ++ [md], _, _, _, _, ?_, rfl, ow4, sn _ _ upd_same, ?_, ?_, ?_, rfl, fun z => (by cases z), fun _ => hgo, by omega⟩
        · rw [g6]
          cases told with
          | true =>
            have := hdz.2 rfl
            simp
            omega
          | false => simp; omega
        · rw [List.length_append]
          exact ((d3.trans d4).mut hfo ow4).same sn
        · exact ((tds_snoc g34 htd4).mono fun b zs z => sqT_updL hfo4 b zs z).same sn
        · intro md' hmd
          rcases List.mem_append.mp hmd with h | h
          · exact g4 md' h
          · rw [List.mem_singleton.mp h]; exact hgm
        · have hN : 2 * (row.length - (p + ds.length)) + 0 < N := by
            rw [g6]
            cases told with
            | true =>
              have := hdz.2 rfl
              simp
              omega
            | false => simp; omega
          simp
          omega
    · have hfar := d1.far
      refine ⟨_, rfl, fo, _, rfl, .inl ⟨sqL_of g2, fun t0 ht0 => ?_⟩⟩
      exact q _ S1 _ (.modes ms) ((d1.same (same_new ht0)).le (by omega)) (td_new ht0 g3) ⟨by omega, g4⟩
end
end Fx

set_option Elab.async false
set_option linter.all false
set_option maxRecDepth 100000
set_option maxHeartbeats 2000000
set_option pp.maxSteps 400
namespace Fx
open PySem PySem.Spec PyProof.Rows L2
section
variable {P : Program} {w : World} {K : PySem.W.Frag} {mg : Str → Option Value} {base : Heap}
local macro_rules | `(tactic| walk_at "rd") => `(tactic| repeat (first
  | refine ⟨_, rfl, ?_⟩ | refine ⟨_, _, rfl, rfl, ?_⟩ | refine ⟨rfl, ?_⟩ | refine iteT ?_ | refine iteF ?_
  | refine ⟨_, _, rfl, by assumption, ?_⟩ | refine ⟨_, _, rfl, .inr (by assumption), ?_⟩ | refine ⟨_, _, rfl, .inl (by assumption), ?_⟩
  | refine ⟨_, _, _, _, rfl, rfl, by assumption, by first | rfl | exact atI_nat (j := 0) rfl | exact atI_nat (j := 1) rfl | exact atI_nat (j := 2) rfl, ?_⟩
  | refine And.intro (by omega) ?_))
/-! ### _law_tellings -/
abbrev s_law_tellings : Stmt := topS 57
theorem sc_law_tellings : FnScope ["_law_m", "_law_wide", "_law_bound", "_law_found", "_law_ahead", "_law_k", "_law_some", "_law_row_here", "_law_way", "_law_j"] ["_law_m", "_law_wide", "_law_bound"] (defScope s_law_tellings) := ⟨rfl, rfl, rfl, by decide +kernel, rfl, by decide +kernel, by decide +kernel⟩
def spTellings (K : PySem.W.Frag) : Sp := fun vs H Q _ => ∃ (m : Addr) (n b : Nat) (S : GS), vs = [.ref m, .int (n : Int), .int (b : Int)] ∧ 0 < n ∧ n ≤ 6 ∧ b ≤ 10 ∧ Gen H m S ∧ S.k ≤ 800000 ∧
  ∀ (H' : Hp) (S' : GS) (v : V) (ts : List Tl), Drew m S S' H H' 3000 → TD K H' v (tsD ts) → ts.length ≤ b → (∀ t ∈ ts, GoodT t) → Q v H'
theorem tls_snoc {H : Hp} {xs : List V} {ts : List Tl} {v : V} {t : Tl} (h : TDs K H xs (ts.map Tl.data)) (g : TD K H v t.data) : TDs K H (xs ++ [v]) ((ts ++ [t]).map Tl.data) := by
  rw [List.map_append]
  exact h.append (.one g)
theorem ok_tellings (D : Df K mg "_law_tellings" s_law_tellings ["_law_m", "_law_wide", "_law_bound"]) (T : Txt mg) (C_law_next : Cal P w K mg base "_law_next" 1 ["_law_m", "_law_total"] spDraw) (C_law_of : Cal P w K mg base "_law_of" 2 ["_law_m", "_law_some"] (spOf K))
    (C_law_row : Cal P w K mg base "_law_row" 3 ["_law_m", "_law_wide"] spLRow) (C_law_near_row : Cal P w K mg base "_law_near_row" 2 ["_law_m", "_law_row_here"] spNear) (C_law_runs : Cal P w K mg base "_law_runs" 1 ["_law_row_here"] (spLRuns K))
    (C_law_any_mode : Cal P w K mg base "_law_any_mode" 3 ["_law_m", "_law_wide"] (spAny K)) (C_law_telling : Cal P w K mg base "_law_telling" 4 ["_law_m", "_law_reference", "_law_row_here"] (spTelling K)) :
    Cal P w K mg base "_law_tellings" 5 ["_law_m", "_law_wide", "_law_bound"] (spTellings K) := by
  refine D.cal sc_law_tellings (fun vs H Q E h => ?_) (fun f cdv A outer s H vs Q E hr h => ?_)
  · obtain ⟨_, _, _, _, rfl, _⟩ := h; rfl
  · obtain ⟨m, n, b, S, rfl, hn0, hn, hb, G, hk, q⟩ := h
    refine ⟨_, (pss_cons (ps_par (i := 3) (j := 4) (by rfl) sc_law_tellings.nd rfl rfl (by decide) rfl rfl (pa_cons (pe_lst pa_nil) (pa_cons (pe_cal C_law_row (hr.mono (by decide)) (pa_cons (pv 0) (pa_cons (pv 1) pa_nil))) pa_nil)) (by rfl))
      (pss_cons (ps_for PassesOwn.never rfl (pi_range1 (by rfl) T.b_range (pa_cons (pe_cal C_law_next (hr.mono (by decide)) (pa_cons (pv 0) (pa_cons (pe_op op_add (pv 2) pe_int) pa_nil))) pa_nil)) (pg_name (i := 5) sc_law_tellings.nd rfl (.inl rfl)) (pss_cons (ps_set (i := 6) sc_law_tellings.nd rfl (.inl rfl) (pe_lst (pa_cons (pe_cal C_law_near_row (hr.mono (by decide)) (pa_cons (pv 0) (pa_cons (pv 4) pa_nil))) (pa_cons (pv 4) (pa_cons (pe_cal C_law_row (hr.mono (by decide)) (pa_cons (pv 0) (pa_cons (pv 1) pa_nil))) pa_nil)))))
      (pss_cons (ps_par (i := 7) (j := 8) (by rfl) sc_law_tellings.nd rfl rfl (by decide) rfl rfl (pa_cons (pe_cal C_law_of (hr.mono (by decide)) (pa_cons (pv 0) (pa_cons (pv 6) pa_nil))) (pa_cons (pe_cal C_law_next (hr.mono (by decide)) (pa_cons (pv 0) (pa_cons pe_int pa_nil))) pa_nil)) (by rfl))
      (pss_cons (ps_if (pt_cmpR op_eq (pv 8) pe_int (nomark _)) (pss_one (ps_expr (pe_bm PySem.F.plainAttrs_list PySem.F.slot_list_append PySem.F.type_list_append mt_append (pv 3) (pa_cons (pe_tup (pa_cons (pe_tup (pa_cons pe_str (pa_cons (pe_cal C_law_runs (hr.mono (by decide)) (pa_cons (pv 7) pa_nil)) pa_nil))) pa_nil)) pa_nil)))) (pss_one (ps_if (PW.pt (pw_and (pt_cmpR op_eq (pv 8) pe_int (nomark _)) (pw_and1 (pt_cmpR op_eq (pe_cal C_law_next (hr.mono (by decide)) (pa_cons (pv 0) (pa_cons pe_int pa_nil))) pe_int (nomark _))))) (pss_one (ps_expr (pe_bm PySem.F.plainAttrs_list PySem.F.slot_list_append PySem.F.type_list_append mt_append (pv 3) (pa_cons (pe_callTy call_tuple_of (by rfl) T.b_tuple (by decide +kernel) (pa_cons (pe_lc (own := [("_law_j", 9)]) (g := (gName 9)) (tt := tYes) rfl sc_law_tellings.nd (pi_range1 (by rfl) T.b_range (pa_cons (pe_op op_add pe_int (pe_cal C_law_next (hr.mono (by decide)) (pa_cons (pv 0) (pa_cons pe_int pa_nil)))) pa_nil)) (blkOk_by (own := [("_law_j", 9)]) (N := ["_law_m", "_law_wide", "_law_bound", "_law_found", "_law_ahead", "_law_k", "_law_some", "_law_row_here", "_law_way", "_law_j"]) (sc := defScope s_law_tellings) (by decide +kernel)) (fun _ _ _ _ _ => (pg_name (i := 9) sc_law_tellings.nd rfl (.inl rfl))) (fun _ _ _ _ _ => pts_nil) (fun _ _ _ _ _ => (pe_cal C_law_any_mode (hr.mono (by decide)) (pa_cons (pv 0) (pa_cons pe_int pa_nil))))) pa_nil)) pa_nil)))) (pss_one (ps_expr (pe_bm PySem.F.plainAttrs_list PySem.F.slot_list_append PySem.F.type_list_append mt_append (pv 3) (pa_cons (pe_cal C_law_telling (hr.mono (by decide)) (pa_cons (pv 0) (pa_cons (pv 4) (pa_cons (pv 7) pa_nil)))) pa_nil)))))))
      (pss_one (ps_set (i := 4) sc_law_tellings.nd rfl (.inl rfl) (pv 7)))))))
      (pss_one (ps_ret (pe_callTy call_tuple_of (by rfl) T.b_tuple (by decide +kernel) (pa_cons (pv 3) pa_nil)))))), ?_⟩
    refine ⟨Nat.zero_le _, fun fo hfo => ?_⟩
    have s0 := same_new (o := .lst []) hfo
    refine ⟨_, rfl, _, rfl, m, n, S, rfl, hn, G.same s0, by omega, fun H1 S1 l d1 hl => ?_⟩
    obtain ⟨ow1, g1⟩ := d1.own (own_of G hfo) upd_same
    have d1 : Drew m S S1 H H1 50 := ⟨d1.gen, (Fr.same s0).trans d1.fr, d1.far, d1.few⟩
    have f1 := d1.far
    refine ⟨_, _, rfl, ?_⟩
    refine ⟨_, rfl, _, rfl, _, _, rfl, rfl, m, b + 1, S1, rfl, by omega, by omega, d1.gen, by omega, fun H2 S2 r d2' hr2 => ?_⟩
    obtain ⟨ow2, g2⟩ := d2'.own ow1 g1
    refine ⟨_, rfl, by omega, by omega, for_range (lo := 0) (fun i σ H3 => ∃ (S3 : GS) (l : List Bool) (xs : List V) (ts : List Tl) (y5 y6 y7 y8 y9 : Option V), Drew m S S3 H H3 (51 + 200 * i) ∧ l.length = n ∧
        σ = [some (.ref m), some (.int (n : Int)), some (.int (b : Int)), some (.ref fo), some (.str (ln l)), y5, y6, y7, y8, y9] ∧ Own m S3 fo ∧ H3 fo = some (.lst xs) ∧ TDs K H3 xs (ts.map Tl.data) ∧ (∀ t ∈ ts, GoodT t) ∧ ts.length = i)
      ⟨S2, l, [], [], none, none, none, none, none, (d1.trans d2').le (by decide), hl, rfl, ow2, g2, .nil, fun _ h => (by cases h), rfl⟩ ?_ ?_⟩
    · rintro i σ H3 hi ⟨S3, l, xs, ts, y5, y6, y7, y8, y9, d3, hl, rfl, ow3, g3, g4, g5, g6⟩
      have f3 := d3.far
      have hxl : xs.length = ts.length := by rw [g4.length, List.length_map]
      have hi10 : i < 10 := by omega
      refine ⟨_, rfl, _, rfl, m, l, S3, rfl, by omega, by omega, d3.gen, by omega, fun H4 S4 l4 d4 hl4 => ?_⟩
      have f4 := d4.far
      refine ⟨_, rfl, _, rfl, _, rfl, m, n, S4, rfl, hn, d4.gen, by omega, fun H5 S5 l5 d5 hl5 => ?_⟩
      have f5 := d5.far
      refine ⟨szOf (show 3 ≤ 100000 by decide), fun ps hps => ?_⟩
      have sn := same_new (o := .lst [.str (ln l4), .str (ln l), .str (ln l5)]) hps
      have d6 := d5.same sn
      refine ⟨_, rfl, _, rfl, m, _, S5, rfl, d6.gen, by omega, .inr ⟨ps, _, rfl, upd_same, own_of d5.gen hps, show 0 < 3 by decide, show 3 ≤ 1000 by decide, fun H7 S7 x d7 hx => ?_⟩⟩
      have f7 := d7.far
      obtain ⟨l7, rfl, hl7⟩ : ∃ l7, x = .str (ln l7) ∧ l7.length = n := by
        have hx : x = .str (ln l4) ∨ x = .str (ln l) ∨ x = .str (ln l5) := by simpa using hx
        rcases hx with rfl | rfl | rfl
        · exact ⟨l4, rfl, by omega⟩
        · exact ⟨l, rfl, hl⟩
        · exact ⟨l5, rfl, hl5⟩
      refine ⟨_, rfl, m, 6, S7, rfl, by decide, by decide, d7.gen, by omega, fun H8 S8 way d8 hway => ?_⟩
      have f8 := d8.far
      -- all so far
      have da : Drew m S3 S8 H3 H8 102 := (((d4.trans d6).trans d7).trans d8)
      obtain ⟨ow8, g8⟩ := da.own ow3 g3
      have t8 := da.fr.tds d3.gen g4
      have db : Drew m S S8 H H8 (51 + 200 * i + 102) := d3.trans da
      clear d4 d5 d6 d7 d8 da
      refine ⟨_, _, rfl, ?_⟩
      -- the end of a turn
      have fin : ∀ (H9 : Hp) (S9 : GS) (v : V) (t : Tl) (y5 y6 y7 y8 y9 : Option V), Drew m S8 S9 H8 H9 60 → Own m S9 fo → H9 fo = some (.lst xs) → TD K H9 v t.data → GoodT t →
          ∃ (S3 : GS) (l : List Bool) (xs' : List V) (ts : List Tl) (y5' y6' y7' y8' y9' : Option V), Drew m S S3 H (upd H9 fo (.lst (xs ++ [v]))) (51 + 200 * (i + 1)) ∧ l.length = n ∧
            [some (.ref m), some (.int (n : Int)), some (.int (b : Int)), some (.ref fo), some (.str (ln l7)), y5, y6, y7, y8, y9] = [some (.ref m), some (.int (n : Int)), some (.int (b : Int)), some (.ref fo), some (.str (ln l)), y5', y6', y7', y8', y9'] ∧
            Own m S3 fo ∧ (upd H9 fo (.lst (xs ++ [v]))) fo = some (.lst xs') ∧ TDs K (upd H9 fo (.lst (xs ++ [v]))) xs' (ts.map Tl.data) ∧ (∀ t ∈ ts, GoodT t) ∧ ts.length = i + 1 := fun H9 S9 v t y5 y6 y7 y8 y9 d9 ow9 g9 tv gt => by
        refine ⟨S9, l7, xs ++ [v], ts ++ [t], y5, y6, y7, y8, y9, ((db.trans d9).mut hfo ow9).le (by omega), hl7, rfl, ow9, upd_same, ?_, ?_, by simp; omega⟩
        · exact (tls_snoc (d9.fr.tds db.gen t8) tv).mono fun a zs z => sqT_updL g9 a zs z
        · intro t' ht'
          rcases List.mem_append.mp ht' with h | h
          · exact g5 t' h
          · rw [List.mem_singleton.mp h]; exact gt
      refine ⟨_, rfl, rfl, _, rfl, d2 (fun h1 => ?_) (fun h1 => ?_)⟩
      · refine ⟨_, rfl, .inl ⟨rfl, _, sqL_of g8⟩, _, rfl, l7, rfl, by omega, by omega, fun H9 v rs e9 tv hgr => ⟨szOf (show 2 ≤ 100000 by decide), fun p6 hp6 => ⟨szOf (show 1 ≤ 100000 by decide), fun p7 hp7 => ?_⟩⟩⟩
        have tf : TD K (upd H9 p6 (.tup [.str "full", v])) (.ref p6) (fullD rs) := td_new hp6 (.cons (.str _) (.cons tv .nil))
        have tg : TD K (upd (upd H9 p6 (.tup [.str "full", v])) p7 (.tup [.ref p6])) (.ref p7) (Tl.full rs).data := td_new hp7 (.one tf)
        have e10 := (e9.trans (same_new (o := .tup [.str "full", v]) hp6)).trans (same_new (o := .tup [.ref p6]) hp7)
        have g10 := e10 _ _ g8
        refine ⟨fo, _, _, rfl, rfl, g10, szLt (by omega), _, rfl, ?_⟩
        exact fin _ S8 _ (.full rs) (some (.int (0 + (i : Int)))) (some (.ref ps)) (some (.str (ln l7))) (some (.int (way : Int))) y9 (((Drew.refl db.gen).same e10).le (by decide)) ow8 g10 tg hgr
      · refine ⟨_, rfl, rfl, _, rfl, d2 (fun h2 => ?_) (fun h2 => ?_)⟩
        · have f9 := db.far
          refine ⟨_, rfl, m, 3, S8, rfl, by decide, by decide, db.gen, by omega, fun H9 S9 r9 d9 hr9 => ?_⟩
          obtain ⟨ow9, g9⟩ := d9.own ow8 g8
          refine ⟨rfl, _, rfl, d2 (fun h3 => ?_) (fun h3 => ?_)⟩
          · have fx := d9.far
            refine ⟨_, rfl, .inl ⟨rfl, _, sqL_of g9⟩, _, rfl, m, 3, S9, rfl, by decide, by decide, d9.gen, by omega, fun H10 S10 r10 d10 hr10 => ?_⟩
            have fx2 := d10.far
            obtain ⟨ow10, g10⟩ := d10.own ow9 g9
            refine ⟨_, _, rfl, rfl, _, rfl, by omega, by omega, fun d hd => ?_⟩
            have hgo : fo ≠ d := ne_of_none g10 hd
            refine loop_it (walk_range (lo := 0) (n := _)) (fun j H11 => ∃ (S11 : GS) (ys : List V) (ms : List Md), Drew m S10 S11 H10 H11 (10 * j) ∧ H11 d = some (.lst ys) ∧ Own m S11 d ∧ TDs K H11 ys (ms.map Md.data) ∧ (∀ md ∈ ms, GoodM md) ∧ ms.length = j)
              ⟨S10, [], [], (Drew.refl d10.gen).same (same_new hd), upd_same, own_of d10.gen hd, .nil, fun _ h => (by cases h), rfl⟩ (fun _ _ _ _ => trivial) ?_ ?_
            · rintro j x H11 H12 hj ⟨S11, ys, ms, d11, k1, k2, k3, k4, k5⟩ ⟨rfl, hx⟩
              have fx3 := d11.far
              have hyl : ys.length = ms.length := by rw [k3.length, List.length_map]
              refine ⟨rfl, ?_⟩
              refine ⟨_, rfl, m, 4, S11, rfl, by decide, by decide, d11.gen, by omega, fun H13 S13 v md d13 tv gm => ?_⟩
              obtain ⟨ow13, k1'⟩ := d13.own k2 k1
              refine ⟨_, k1', szLt (by omega), S13, ys ++ [v], ms ++ [md], ((d11.trans d13).mut hd ow13).le (by omega), upd_same, ow13, ?_, ?_, by simp; omega⟩
              · exact (tds_snoc (d13.fr.tds d11.gen k3) tv).mono fun a zs z => sqT_updL k1' a zs z
              · intro md' hmd
                rcases List.mem_append.mp hmd with h | h
                · exact k4 md' h
                · rw [List.mem_singleton.mp h]; exact gm
            · rintro H11 ⟨S11, ys, ms, d11, k1, k2, k3, k4, k5⟩
              refine ⟨d, ys, rfl, .inl ⟨sqL_of k1, fun p12 hp12 => ?_⟩⟩
              obtain ⟨ow11, g11⟩ := d11.own ow10 g10
              have sn2 := same_new (o := .tup ys) hp12
              refine ⟨fo, _, _, rfl, rfl, sn2 _ _ g11, szLt (by omega), _, rfl, ?_⟩
              exact fin _ S11 _ (.modes ms) (some (.int (0 + (i : Int)))) (some (.ref ps)) (some (.str (ln l7))) (some (.int (way : Int))) y9 ((((d9.trans d10).trans d11).same sn2).le (by omega)) ow11 (sn2 _ _ g11) (td_new hp12 k3) ⟨by omega, k4⟩
          · have fx := d9.far
            refine ⟨_, rfl, .inl ⟨rfl, _, sqL_of g9⟩, _, rfl, _, rfl, _, rfl, m, l, l7, S9, rfl, by omega, by omega, by omega, d9.gen, by omega, fun H10 S10 v t d10 tv gt => ?_⟩
            obtain ⟨ow10, g10⟩ := d10.own ow9 g9
            refine ⟨fo, _, _, rfl, rfl, g10, szLt (by omega), _, rfl, ?_⟩
            exact fin H10 S10 v t (some (.int (0 + (i : Int)))) (some (.ref ps)) (some (.str (ln l7))) (some (.int (way : Int))) y9 ((d9.trans d10).le (by decide)) ow10 g10 tv gt
        · have d9 := Drew.refl db.gen
          have f9 := db.far
          have fx := d9.far
          refine ⟨_, rfl, .inl ⟨rfl, _, sqL_of g8⟩, _, rfl, _, rfl, _, rfl, m, l, l7, S8, rfl, by omega, by omega, by omega, d9.gen, by omega, fun H10 S10 v t d10 tv gt => ?_⟩
          obtain ⟨ow10, g10⟩ := d10.own ow8 g8
          refine ⟨fo, _, _, rfl, rfl, g10, szLt (by omega), _, rfl, ?_⟩
          exact fin H10 S10 v t (some (.int (0 + (i : Int)))) (some (.ref ps)) (some (.str (ln l7))) (some (.int (way : Int))) y9 ((d9.trans d10).le (by decide)) ow10 g10 tv gt
    · rintro σ H3 ⟨S3, l, xs, ts, y5, y6, y7, y8, y9, d3, hl, rfl, ow3, g3, g4, g5, g6⟩
      have hrr : (r : Int).toNat = r := by omega
      refine ⟨_, rfl, fo, _, rfl, .inl ⟨sqL_of g3, fun t0 ht0 => ?_⟩⟩
      exact q _ S3 _ ts ((d3.same (same_new ht0)).le (by omega)) (td_new ht0 g4) (by omega) g5
end
end Fx

set_option Elab.async false
set_option linter.all false
set_option maxRecDepth 100000
set_option maxHeartbeats 2000000
set_option pp.maxSteps 400
namespace Fx
open PySem PySem.Spec PyProof.Rows L2
section
variable {P : Program} {w : World} {K : PySem.W.Frag} {mg : Str → Option Value} {base : Heap}
local macro_rules | `(tactic| walk_at "rd") => `(tactic| repeat (first
  | refine ⟨_, rfl, ?_⟩ | refine ⟨_, _, rfl, rfl, ?_⟩ | refine ⟨rfl, ?_⟩ | refine iteT ?_ | refine iteF ?_
  | refine ⟨_, _, rfl, by assumption, ?_⟩ | refine ⟨_, _, rfl, .inr (by assumption), ?_⟩ | refine ⟨_, _, rfl, .inl (by assumption), ?_⟩
  | refine ⟨_, _, _, _, rfl, rfl, by assumption, by first | rfl | exact atI_nat (j := 0) rfl | exact atI_nat (j := 1) rfl | exact atI_nat (j := 2) rfl, ?_⟩
  | refine And.intro (by omega) ?_))
/-! ### the rows, all and cut -/
def rowsAll (n : Nat) : List Tl → List (List Bool) → List (Option (List Nat))
  | [], _ => []
  | t :: ts, Q1 => rowOf n (img t Q1) :: rowsAll n ts (img t Q1)
def cutN : List (Option (List Nat)) → List (Option (List Nat))
  | [] => []
  | none :: _ => [none]
  | some r :: l => some r :: cutN l
theorem rowsIn_cut {n : Nat} : ∀ (ts : List Tl) (Q1 : List (List Bool)), rowsIn n ts Q1 = cutN (rowsAll n ts Q1)
  | [], _ => rfl
  | t :: ts, Q1 => by
    rw [rowsIn, rowsAll]
    cases rowOf n (img t Q1) with
    | none => rfl
    | some r => show _ :: _ = some r :: cutN _; rw [rowsIn_cut ts]
theorem rowsAll_len {n : Nat} : ∀ (ts : List Tl) (Q1 : List (List Bool)), (rowsAll n ts Q1).length = ts.length
  | [], _ => rfl
  | t :: ts, Q1 => by rw [rowsAll, List.length_cons, List.length_cons, rowsAll_len ts]
theorem rowsAll_snoc {n : Nat} : ∀ (ts : List Tl) (t : Tl) (Q1 : List (List Bool)), rowsAll n (ts ++ [t]) Q1 = rowsAll n ts Q1 ++ [rowOf n (img t (ts.foldl (fun Q2 t => img t Q2) Q1))]
  | [], t, Q1 => rfl
  | s :: ts, t, Q1 => by rw [List.cons_append, rowsAll, rowsAll, rowsAll_snoc ts, List.cons_append]; rfl
theorem cutN_no : ∀ {L : List (Option (List Nat))}, none ∉ L → cutN L = L
  | [], _ => rfl
  | none :: L, h => absurd List.mem_cons_self h
  | some r :: L, h => by rw [cutN, cutN_no fun z => h (List.mem_cons_of_mem _ z)]
theorem cutN_at : ∀ {L : List (Option (List Nat))}, none ∈ L → ∃ j, L[j]? = some none ∧ (∀ m, m < j → ∃ r, L[m]? = some (some r)) ∧ cutN L = L.take (j + 1)
  | [], h => by cases h
  | none :: L, _ => ⟨0, rfl, fun m h => absurd h (Nat.not_lt_zero _), rfl⟩
  | some r :: L, h => by
    obtain ⟨j, h1, h2, h3⟩ := cutN_at (L := L) (by simpa using h)
    refine ⟨j + 1, by simpa using h1, fun m hm => ?_, by rw [cutN, h3]; rfl⟩
    cases m with
    | zero => exact ⟨r, rfl⟩
    | succ m =>
      obtain ⟨r', e⟩ := h2 m (by omega)
      exact ⟨r', by simpa using e⟩
theorem rows_flat : ∀ L : List (Option (List Nat)), (L.map rowV).all flatV = true
  | [] => rfl
  | r :: L => by
    rw [List.map_cons, List.all_cons, rows_flat L, Bool.and_true]
    cases r <;> rfl
theorem eqv_row (r : List Nat) : eqV (rowV (some r)) .non = false := rfl
theorem none_in : ∀ L : List (Option (List Nat)), inV .non (L.map rowV) = decide (none ∈ L)
  | [] => rfl
  | r :: L => by
    have ih := none_in L
    unfold inV at ih ⊢
    rw [List.map_cons, List.any_cons, ih]
    cases r with
    | none =>
      have e : eqV (rowV none) .non = true := rfl
      simp [e]
    | some r => rw [eqv_row]; simp

/-! ### what repr asks -/
structure Shw (d : PyData) (k W : Nat) : Prop where
  sh : d.showable = true
  nd : d.hasDict = false
  dp : d.depth ≤ k
  lv : d.leavesShort 100 = true
  wt : d.weight ≤ W
theorem shw_all {k W : Nat} : ∀ {ds : List PyData}, (∀ d ∈ ds, Shw d k W) → PyData.showableAll ds = true ∧ PyData.hasDictAll ds = false ∧ PyData.depthAll ds ≤ k ∧ PyData.leavesShortAll 100 ds = true ∧ PyData.weightAll ds ≤ ds.length * (W + 1)
  | [], _ => ⟨rfl, rfl, Nat.zero_le _, rfl, Nat.zero_le _⟩
  | d :: ds, h => by
    have h1 := h d List.mem_cons_self
    obtain ⟨a1, a2, a3, a4, a5⟩ := shw_all fun e he => h e (List.mem_cons_of_mem _ he)
    have hd := h1.dp
    have hw := h1.wt
    refine ⟨?_, ?_, ?_, ?_, ?_⟩
    · simp only [PyData.showableAll, h1.sh, a1, Bool.and_self]
    · simp only [PyData.hasDictAll, h1.nd, a2, Bool.or_self]
    · simp only [PyData.depthAll]; omega
    · simp only [PyData.leavesShortAll, h1.lv, a4, Bool.and_self]
    · simp only [PyData.weightAll, List.length_cons, Nat.succ_mul]; omega
theorem shw_tup {k W : Nat} {ds : List PyData} (h : ∀ d ∈ ds, Shw d k W) : Shw (.tuple ds) (k + 1) (ds.length * (W + 1)) := by
  obtain ⟨a1, a2, a3, a4, a5⟩ := shw_all h
  exact ⟨by simpa only [PyData.showable] using a1, by simpa only [PyData.hasDict] using a2, by simp only [PyData.depth]; omega, by simpa only [PyData.leavesShort] using a4, by simpa only [PyData.weight] using a5⟩
theorem shw_lst {k W : Nat} {ds : List PyData} (h : ∀ d ∈ ds, Shw d k W) : Shw (.list ds) (k + 1) (ds.length * (W + 1)) := by
  obtain ⟨a1, a2, a3, a4, a5⟩ := shw_all h
  exact ⟨by simpa only [PyData.showable] using a1, by simpa only [PyData.hasDict] using a2, by simp only [PyData.depth]; omega, by simpa only [PyData.leavesShort] using a4, by simpa only [PyData.weight] using a5⟩
theorem Shw.le {d : PyData} {k W k' W' : Nat} (h : Shw d k W) (h1 : k ≤ k') (h2 : W ≤ W') : Shw d k' W' := ⟨h.sh, h.nd, Nat.le_trans h.dp h1, h.lv, Nat.le_trans h.wt h2⟩
theorem Shw.fits {d : PyData} {k W : Nat} (h : Shw d k W) (hk : k ≤ 60) (hW : W ≤ 5000) : d.showable = true ∧ d.hasDict = false ∧ d.depth ≤ 60 ∧ d.shown.length ≤ sizeLine := by
  refine ⟨h.sh, h.nd, Nat.le_trans h.dp hk, ?_⟩
  have h1 := PyData.shown_le 100 (by decide) d h.lv
  have h2 := h.wt
  have h3 : (100 + 2) * d.weight ≤ 102 * 5000 := Nat.mul_le_mul (by decide) (by omega)
  exact Nat.le_trans (Nat.le_trans h1 (Nat.add_le_add_right h3 100)) (by decide)
theorem shw_str {z : Str} {W : Nat} (h : ∀ c ∈ z.cps.toList, c < 0x110000) (hl : z.length ≤ W) : Shw (.str z) 0 W := by
  refine ⟨rfl, rfl, Nat.le_refl _, ?_, ?_⟩
  · simp only [PyData.leavesShort, List.all_eq_true, decide_eq_true_eq]
    exact fun c hc => Nat.lt_trans (h c hc) (by decide)
  · simp only [PyData.weight]; exact hl
theorem shw_ln {l : List Bool} {W : Nat} (hl : l.length ≤ W) : Shw (.str (ln l)) 0 W := by
  refine shw_str (fun c hc => ?_) (by rw [ln_len]; exact hl)
  rw [ln_list] at hc
  obtain ⟨b, _, rfl⟩ := List.mem_map.mp hc
  cases b <;> decide
theorem shw_row {r : Option (List Nat)} {W : Nat} (h : ∀ r', r = some r' → (∀ c ∈ r', c < 0x110000) ∧ r'.length ≤ W) : Shw (rowD r) 0 W := by
  cases r with
  | none => exact ⟨rfl, rfl, Nat.le_refl _, rfl, Nat.zero_le _⟩
  | some r => exact shw_str (by simpa using (h r rfl).1) (by simpa [Str.length] using (h r rfl).2)
def natD : Option Nat → PyData
  | none => .none
  | some k => .int (k : Int)
theorem shw_nat {o : Option Nat} (h : ∀ k, o = some k → k < 64) : Shw (natD o) 0 20 := by
  cases o with
  | none => exact ⟨rfl, rfl, Nat.le_refl _, rfl, Nat.zero_le _⟩
  | some k =>
    have hk := h k rfl
    have key : ∀ k : Nat, k < 64 → (PyData.int (k : Int)).showable = true ∧ (PyData.int (k : Int)).leavesShort 100 = true ∧ (PyData.int (k : Int)).weight ≤ 20 := by decide +kernel
    obtain ⟨a, b, c⟩ := key k hk
    exact ⟨a, rfl, Nat.le_refl _, b, c⟩
theorem dp_nat {H : Hp} (o : Option Nat) : Dp K H (natO o) (natD o) := by
  cases o with
  | none => exact .non
  | some k => exact .int _
theorem settled_lt {rows : List (Option (List Nat))} {k : Nat} (h : settledOf rows = some k) : k < rows.length := by
  unfold settledOf at h
  split at h
  · cases h
  · split at h
    · simp only at h
      split at h
      · rename_i hz
        rw [← Option.some.inj h]; exact hz
      · cases h
    · simp only at h
      split at h
      · rename_i hz
        rw [← Option.some.inj h]; exact hz
      · cases h
theorem rowsIn_lens {n : Nat} : ∀ (ts : List Tl) (Q1 : List (List Bool)), ∀ r, some r ∈ rowsIn n ts Q1 → r.length = n
  | [], _, r, h => by cases h
  | t :: ts, Q1, r, h => by
    rw [rowsIn] at h
    cases hro : rowOf n (img t Q1) with
    | none => rw [hro] at h; simp at h
    | some r' =>
      rw [hro] at h
      rcases List.mem_cons.mp h with e | h
      · obtain rfl := Option.some.inj e
        exact rowOf_len hro
      · exact rowsIn_lens ts _ r h
def dataK (n : Nat) (ts : List Tl) : PyData := .tuple ((canon n (knownL n ts)).map fun l => PyData.str (ln l))
def dataR (n : Nat) (ts : List Tl) : PyData := .tuple ((rowsIn n ts (rowsOf n)).map rowD)
def dataL (n : Nat) (ts : List Tl) : PyData := .list [dataK n ts, dataR n ts, natD (settledOf (rowsIn n ts (rowsOf n)))]
theorem canon_in {n : Nat} {Q1 : List (List Bool)} {l : List Bool} (h : l ∈ canon n Q1) : l.length = n := rowsOf_mem.mp (List.mem_filter.mp h).1
theorem shw_K {n : Nat} {ts : List Tl} (hn : n ≤ 6) : Shw (dataK n ts) 1 448 := by
  have hpow : 2 ^ n ≤ 64 := Nat.le_trans (Nat.pow_le_pow_right (by decide) hn) (by decide)
  have hl := canon_len n (knownL n ts)
  refine (shw_tup (k := 0) (W := 6) fun d hd => ?_).le (Nat.le_refl _) ?_
  · obtain ⟨l, hl, rfl⟩ := List.mem_map.mp hd
    exact shw_ln (by rw [canon_in hl]; exact hn)
  · rw [List.length_map]; omega
theorem dataK_fits {n : Nat} {ts : List Tl} (hn : n ≤ 6) : (dataK n ts).showable = true ∧ (dataK n ts).hasDict = false ∧ (dataK n ts).depth ≤ 60 ∧ (dataK n ts).shown.length ≤ sizeLine := (shw_K hn).fits (by decide) (by decide)
theorem dataL_fits {n : Nat} {ts : List Tl} (hn : n ≤ 6) (hts : ts.length ≤ 10) : (dataL n ts).showable = true ∧ (dataL n ts).hasDict = false ∧ (dataL n ts).depth ≤ 60 ∧ (dataL n ts).shown.length ≤ sizeLine := by
  have hrl := rowsIn_le (n := n) ts (rowsOf n)
  have h2 : Shw (dataR n ts) 1 448 := by
    refine (shw_tup (k := 0) (W := 6) fun d hd => ?_).le (Nat.le_refl _) ?_
    · obtain ⟨r, hr, rfl⟩ := List.mem_map.mp hd
      refine shw_row fun r' e => ?_
      subst e
      exact ⟨rowsIn_codes ts _ r' hr, by rw [rowsIn_lens ts _ r' hr]; exact hn⟩
    · rw [List.length_map]; omega
  have h3 : Shw (natD (settledOf (rowsIn n ts (rowsOf n)))) 0 20 := shw_nat fun k hk => by
    have := settled_lt hk
    omega
  refine Shw.fits (k := 2) (W := 3 * 449) ?_ (by decide) (by decide)
  refine shw_lst (ds := [dataK n ts, dataR n ts, natD (settledOf (rowsIn n ts (rowsOf n)))]) (k := 1) (W := 448) fun d hd => ?_
  have hd : d = dataK n ts ∨ d = dataR n ts ∨ d = natD (settledOf (rowsIn n ts (rowsOf n))) := by simpa using hd
  rcases hd with rfl | rfl | rfl
  · exact shw_K hn
  · exact h2
  · exact h3.le (by decide) (by decide)
theorem sorted_canon {n : Nat} {Q1 : List (List Bool)} {ys : List Str} (h : ys.Perm ((canon n Q1).map ln)) (hs : sortedS ys = true) : ys.map V.str = (canon n Q1).map lnV := by
  have e := pw_unique (sorted_pw hs) (List.pairwise_map.mpr ((rowsOf_pw n).filter fun l => decide (l ∈ Q1))) (h.nodup_iff.mpr (nodup_ln (canon_nodup n Q1))) (nodup_ln (canon_nodup n Q1)) fun x => h.mem_iff
  rw [e, List.map_map]
  rfl
theorem cut_to (xs : List V) (k : Nat) : cutV xs none (some (k : Int)) = xs.take k := by
  unfold cutV
  rw [HT.sIx_none, HT.sIx_nat, List.drop_zero, Nat.sub_zero]
  by_cases h : k ≤ xs.length
  · rw [Nat.min_eq_left h]
  · rw [Nat.min_eq_right (by omega), List.take_of_length_le (Nat.le_refl _), List.take_of_length_le (by omega)]
end
end Fx

set_option Elab.async false
set_option linter.all false
set_option maxRecDepth 100000
set_option maxHeartbeats 2000000
set_option pp.maxSteps 400
namespace Fx
open PySem PySem.Spec PyProof.Rows L2
section
variable {P : Program} {w : World} {K : PySem.W.Frag} {mg : Str → Option Value} {base : Heap}
local macro_rules | `(tactic| walk_at "rd") => `(tactic| repeat (first
  | refine ⟨_, rfl, ?_⟩ | refine ⟨_, _, rfl, rfl, ?_⟩ | refine ⟨rfl, ?_⟩ | refine iteT ?_ | refine iteF ?_
  | refine ⟨_, _, rfl, by assumption, ?_⟩ | refine ⟨_, _, rfl, .inr (by assumption), ?_⟩ | refine ⟨_, _, rfl, .inl (by assumption), ?_⟩
  | refine ⟨_, _, _, _, rfl, rfl, by assumption, by first | rfl | exact atI_nat (j := 0) rfl | exact atI_nat (j := 1) rfl | exact atI_nat (j := 2) rfl, ?_⟩
  | refine And.intro (by omega) ?_))
/-! ### law -/
abbrev s_law : Stmt := topS 61
theorem sc_law : FnScope ["_law_script", "_law_m", "_law_turn", "_law_wide", "_law_tellings_here", "_law_sets_here", "_law_rows", "_law_due", "_law_told", "_law_k", "_law_two", "_law_long_so", "_law_some"] ["_law_script"] (defScope s_law) := ⟨rfl, rfl, rfl, by decide +kernel, rfl, by decide +kernel, by decide +kernel⟩
def spLaw (K : PySem.W.Frag) : Sp := fun vs H Q _ => ∃ (a : Addr) (ns : List Int), vs = [.ref a] ∧ SqL K H a (ns.map V.int) ∧ ns.length ≤ 63 ∧ ∀ H', Q (.bl true) H'
def twoT : Tl := .modes [.stay 0, .stay 0]
def fullT : Tl := .full [1, 2]
def runT : Tl := .modes [.runs 3 0]
def longTs : List Tl := List.replicate 11 twoT ++ List.replicate 2 fullT
theorem good_two : GoodT twoT := ⟨by decide, fun m hm => by
  have hm : m = .stay 0 := by simpa using hm
  subst hm; exact ⟨by decide, by decide⟩⟩
theorem good_full : GoodT fullT := ⟨by decide, by decide, by decide, by decide, by decide⟩
theorem good_run : GoodT runT := ⟨by decide, fun m hm => by
  have hm : m = .runs 3 0 := by simpa using hm
  subst hm; exact ⟨by decide, by decide⟩⟩
theorem good_long : GoodTs 3 longTs := ⟨by decide, by decide, by decide, fun t ht => by
  rcases List.mem_append.mp ht with h | h
  · rw [List.eq_of_mem_replicate h]; exact good_two
  · rw [List.eq_of_mem_replicate h]; exact good_full⟩
theorem good_last : GoodTs 3 [twoT, runT] := ⟨by decide, by decide, by decide, fun t ht => by
  have ht : t = twoT ∨ t = runT := by simpa using ht
  rcases ht with rfl | rfl
  · exact good_two
  · exact good_run⟩
theorem mk_two {H : Hp} {p5 p6 p7 : Addr} (h5 : H p5 = none) (h6 : upd H p5 (.tup [.str "stay", .int 0]) p6 = none)
    (h7 : upd (upd H p5 (.tup [.str "stay", .int 0])) p6 (.tup [.str "stay", .int 0]) p7 = none) :
    Same H (upd (upd (upd H p5 (.tup [.str "stay", .int 0])) p6 (.tup [.str "stay", .int 0])) p7 (.tup [.ref p5, .ref p6])) ∧
    TD K (upd (upd (upd H p5 (.tup [.str "stay", .int 0])) p6 (.tup [.str "stay", .int 0])) p7 (.tup [.ref p5, .ref p6])) (.ref p7) twoT.data := by
  have t5 : TD K (upd H p5 (.tup [.str "stay", .int 0])) (.ref p5) (Md.stay 0).data := td_new h5 (.cons (.str _) (.cons (.int _) .nil))
  have t6 : TD K (upd (upd H p5 (.tup [.str "stay", .int 0])) p6 (.tup [.str "stay", .int 0])) (.ref p6) (Md.stay 0).data := td_new h6 (.cons (.str _) (.cons (.int _) .nil))
  exact ⟨((same_new h5).trans (same_new h6)).trans (same_new h7), td_new h7 (.cons (t5.same (same_new h6)) (.cons t6 .nil))⟩
theorem mk_last {H : Hp} {p5 p6 p7 pa pb pc : Addr} (h5 : H p5 = none) (h6 : upd H p5 (.tup [.str "stay", .int 0]) p6 = none)
    (h7 : upd (upd H p5 (.tup [.str "stay", .int 0])) p6 (.tup [.str "stay", .int 0]) p7 = none)
    (ha : upd (upd (upd H p5 (.tup [.str "stay", .int 0])) p6 (.tup [.str "stay", .int 0])) p7 (.tup [.ref p5, .ref p6]) pa = none)
    (hb : upd (upd (upd (upd H p5 (.tup [.str "stay", .int 0])) p6 (.tup [.str "stay", .int 0])) p7 (.tup [.ref p5, .ref p6])) pa (.tup [.str "runs", .int 3, .int 0]) pb = none)
    (hc : upd (upd (upd (upd (upd H p5 (.tup [.str "stay", .int 0])) p6 (.tup [.str "stay", .int 0])) p7 (.tup [.ref p5, .ref p6])) pa (.tup [.str "runs", .int 3, .int 0])) pb (.tup [.ref pa]) pc = none) :
    TD K (upd (upd (upd (upd (upd (upd H p5 (.tup [.str "stay", .int 0])) p6 (.tup [.str "stay", .int 0])) p7 (.tup [.ref p5, .ref p6])) pa (.tup [.str "runs", .int 3, .int 0])) pb (.tup [.ref pa])) pc (.tup [.ref p7, .ref pb]))
      (.ref pc) (tsD [twoT, runT]) := by
  have t7 := (mk_two (K := K) h5 h6 h7).2
  have ta : TD K _ (.ref pa) (Md.runs 3 0).data := td_new ha (.cons (.str _) (.cons (.int _) (.cons (.int _) .nil)))
  have tb : TD K _ (.ref pb) runT.data := td_new hb (.one ta)
  exact td_new hc (.cons ((t7.same (same_new ha)).same (same_new hb)) (.one tb))
theorem TDs.rep {H : Hp} {v : V} {d : PyData} (t : TD K H v d) : ∀ n : Nat, TDs K H (List.replicate n [v]).flatten (List.replicate n d)
  | 0 => .nil
  | n + 1 => by rw [List.replicate_succ, List.flatten_cons, List.replicate_succ]; exact .cons t (TDs.rep t n)
theorem DpAll.rep {H : Hp} {v : V} {d : PyData} (t : Dp K H v d) : ∀ n : Nat, DpAll K H (List.replicate n [v]).flatten (List.replicate n d)
  | 0 => .nil
  | n + 1 => by rw [List.replicate_succ, List.flatten_cons, List.replicate_succ]; exact .cons t (DpAll.rep t n)
theorem DpAll.app {H : Hp} : ∀ {xs ys : List V} {ds es : List PyData}, DpAll K H xs ds → DpAll K H ys es → DpAll K H (xs ++ ys) (ds ++ es)
  | _, _, _, _, .nil, b => b
  | _, _, _, _, .cons a t, b => .cons a (DpAll.app t b)
theorem c_known : PyData.eqv (dataK 2 []) (.tuple [.str "##", .str "#.", .str ".#", .str ".."]) = true := by decide +kernel
theorem c_set2 : natO (settledOf (rowsIn 2 [] (rowsOf 2))) = V.non := by rfl
theorem c_long : PyData.eqv (dataR 3 longTs) (.tuple (List.replicate 11 (.str "??#") ++ List.replicate 2 (.str ".##"))) = true := by decide +kernel
theorem c_longS : settledOf (rowsIn 3 longTs (rowsOf 3)) = some 11 := by decide +kernel
theorem c_last : PyData.eqv (dataR 3 [twoT, runT]) (.tuple [.str "??#", .str "..."]) = true := by decide +kernel
theorem c_lastS : settledOf (rowsIn 3 [twoT, runT] (rowsOf 3)) = some 1 := by decide +kernel
theorem c_shp1 : SeqAt.shaped (dataK 2 []) = true ∧ SeqAt.shaped (.tuple [.str "##", .str "#.", .str ".#", .str ".."]) = true := by decide +kernel
theorem c_shp2 : SeqAt.shaped (dataR 3 longTs) = true ∧ SeqAt.shaped (.tuple (List.replicate 11 (.str "??#") ++ List.replicate 2 (.str ".##"))) = true := by decide +kernel
theorem c_shp3 : SeqAt.shaped (dataR 3 [twoT, runT]) = true ∧ SeqAt.shaped (.tuple [.str "??#", .str "..."]) = true := by decide +kernel
theorem ok_law {f : Addr} {fd : FuncData} (F : Fun K "law" "law" s_law f fd) (T : Txt mg) (C_known : Cal P w K mg base "known" 6 ["width", "tellings"] (spKnown K)) (C_sure_rows : Cal P w K mg base "sure_rows" 6 ["width", "tellings"] (spSure K))
    (C_settled : Cal P w K mg base "settled" 6 ["width", "tellings"] (spSettled K)) (C_law_begun : Cal P w K mg base "_law_begun" 1 ["_law_script"] (spBegun K)) (C_law_next : Cal P w K mg base "_law_next" 1 ["_law_m", "_law_total"] spDraw)
    (C_law_tellings : Cal P w K mg base "_law_tellings" 5 ["_law_m", "_law_wide", "_law_bound"] (spTellings K)) (C_law_sets : Cal P w K mg base "_law_sets" 4 ["_law_wide", "_law_tellings_here"] (spSets K))
    (C_law_row_of : Cal P w K mg base "_law_row_of" 1 ["_law_wide", "_law_rows"] (spLRowOf K)) (C_law_settled : Cal P w K mg base "_law_settled" 1 ["_law_rows"] (spLSettled K)) :
    FnG P w K mg base CX0 7 f fd ["_law_script"] (spLaw K) := by
  refine fn_ofG F sc_law (fun vs H Q E h => ?_) (fun cdv A outer s H vs Q E hgd hr h => ?_)
  · obtain ⟨_, _, rfl, _⟩ := h; rfl
  · obtain ⟨a, ns, rfl, ha, hz, q⟩ := h
    refine ⟨_, (pss_cons (ps_set (i := 1) sc_law.nd rfl (.inl rfl) (pe_cal C_law_begun (hr.mono (by decide)) (pa_cons (pv 0) pa_nil)))
      (pss_cons (ps_for PassesOwn.never rfl (pi_range1 (by rfl) T.b_range (pa_cons (pe_op op_add pe_int (pe_callB (call_min2 rfl) (by rfl) T.b_min (by decide +kernel) (pa_cons (pe_callB call_len_seq (by rfl) T.b_len PySem.boot_len (pa_cons (pv 0) pa_nil)) (pa_cons pe_int pa_nil)))) pa_nil)) (pg_name (i := 2) sc_law.nd rfl (.inl rfl)) (pss_cons (ps_set (i := 3) sc_law.nd rfl (.inr rfl) (pe_op op_add pe_int (pe_cal C_law_next (hr.mono (by decide)) (pa_cons (pv 1) (pa_cons pe_int pa_nil)))))
      (pss_cons (ps_set (i := 4) sc_law.nd rfl (.inl rfl) (pe_cal C_law_tellings (hr.mono (by decide)) (pa_cons (pv 1) (pa_cons (pv 3) (pa_cons pe_int pa_nil)))))
      (pss_cons (ps_set (i := 5) sc_law.nd rfl (.inl rfl) (pe_cal C_law_sets (hr.mono (by decide)) (pa_cons (pv 3) (pa_cons (pv 4) pa_nil))))
      (pss_cons (ps_setLc (i := 6) (own := [("_law_some", 12)]) (g := (gName 12)) (tt := tYes) rfl sc_law.nd rfl rfl (sw_true rfl rfl rfl (by decide +kernel)) (pi_list (pe_slice sl_list (pv 5) (po_some pe_int) po_none)) (blkOk_by (own := [("_law_some", 12)]) (N := ["_law_script", "_law_m", "_law_turn", "_law_wide", "_law_tellings_here", "_law_sets_here", "_law_rows", "_law_due", "_law_told", "_law_k", "_law_two", "_law_long_so", "_law_some"]) (sc := defScope s_law) (by decide +kernel)) (fun _ _ _ _ _ => (pg_name (i := 12) sc_law.nd rfl (.inl rfl))) (fun _ _ _ _ _ => pts_nil) (fun _ _ _ _ _ => (pe_cal C_law_row_of (hr.mono (by decide)) (pa_cons (pv 3) (pa_cons (pv 12) pa_nil)))))
      (pss_cons (ps_set (i := 7) sc_law.nd rfl (.inl rfl) (pe_ifExp (pt_cmpR op_in_seq pe_non (pv 6) (by rfl)) (pe_slice sl_list (pv 6) po_none (po_some (pe_op op_add (pe_bm PySem.F.plainAttrs_list PySem.F.slot_list_index PySem.F.type_list_index mt_index (pv 6) (pa_cons pe_non pa_nil)) pe_int))) (pv 6)))
      (pss_cons (ps_set (i := 8) sc_law.nd rfl (.inl rfl) (pe_lst (pa_cons (pe_cal C_known (hr.mono (by decide)) (pa_cons (pv 3) (pa_cons (pv 4) pa_nil))) (pa_cons (pe_cal C_sure_rows (hr.mono (by decide)) (pa_cons (pv 3) (pa_cons (pv 4) pa_nil))) (pa_cons (pe_cal C_settled (hr.mono (by decide)) (pa_cons (pv 3) (pa_cons (pv 4) pa_nil))) pa_nil)))))
      (pss_cons (ps_if (pt_cmpR op_ne (pe_callB (call_repr hgd hr.units) (by rfl) T.b_repr (by decide +kernel) (pa_cons (pv 8) pa_nil)) (pe_callB (call_repr hgd hr.units) (by rfl) T.b_repr (by decide +kernel) (pa_cons (pe_lst (pa_cons (pe_callTy call_tuple_of (by rfl) T.b_tuple (by decide +kernel) (pa_cons (pe_callB cr_sortedA (by rfl) T.b_sorted (by decide +kernel) (pa_cons (pe_ix ix_list (pv 5) (pe_un un_neg pe_int) (fun _ _ => rfl)) pa_nil)) pa_nil)) (pa_cons (pe_callTy call_tuple_of (by rfl) T.b_tuple (by decide +kernel) (pa_cons (pv 7) pa_nil)) (pa_cons (pe_cal C_law_settled (hr.mono (by decide)) (pa_cons (pv 7) pa_nil)) pa_nil)))) pa_nil)) (nomark _)) (pss_one (ps_ret pe_bl)) pss_nil)
      (pss_one (ps_for PassesOwn.never rfl (pi_range1 (by rfl) T.b_range (pa_cons (pe_callB call_len_seq (by rfl) T.b_len PySem.boot_len (pa_cons (pv 4) pa_nil)) pa_nil)) (pg_name (i := 9) sc_law.nd rfl (.inl rfl)) (pss_one (ps_if (pt_cmpR op_ne (pe_callB (call_repr hgd hr.units) (by rfl) T.b_repr (by decide +kernel) (pa_cons (pe_cal C_known (hr.mono (by decide)) (pa_cons (pv 3) (pa_cons (pe_slice sl_tupA (pv 4) po_none (po_some (pv 9))) pa_nil))) pa_nil)) (pe_callB (call_repr hgd hr.units) (by rfl) T.b_repr (by decide +kernel) (pa_cons (pe_callTy call_tuple_of (by rfl) T.b_tuple (by decide +kernel) (pa_cons (pe_callB cr_sortedA (by rfl) T.b_sorted (by decide +kernel) (pa_cons (pe_ix ix_list (pv 5) (pv 9) (fun _ _ => rfl)) pa_nil)) pa_nil)) pa_nil)) (nomark _)) (pss_one (ps_ret pe_bl)) pss_nil))))))))))))
      (pss_cons (ps_if (PW.pt (pw_or (pt_cmpR (op_neD hr.units) (pe_cal C_known (hr.mono (by decide)) (pa_cons pe_int (pa_cons (pe_tup pa_nil) pa_nil))) (pe_tup (pa_cons pe_str (pa_cons pe_str (pa_cons (pe_lnC w_both) (pa_cons pe_str pa_nil))))) (nomark _)) (pw_or1 (pt_cmpR op_notN (pe_cal C_settled (hr.mono (by decide)) (pa_cons pe_int (pa_cons (pe_tup pa_nil) pa_nil))) pe_non (nomark _))))) (pss_one (ps_ret pe_bl)) pss_nil)
      (pss_cons (ps_set (i := 10) sc_law.nd rfl (.inl rfl) (pe_tup (pa_cons (pe_tup (pa_cons pe_str (pa_cons pe_int pa_nil))) (pa_cons (pe_tup (pa_cons pe_str (pa_cons pe_int pa_nil))) pa_nil))))
      (pss_cons (ps_set (i := 11) sc_law.nd rfl (.inl rfl) (pe_op op_catA (pe_op op_repT (pe_tup (pa_cons (pv 10) pa_nil)) pe_int) (pe_op op_repT (pe_tup (pa_cons (pe_tup (pa_cons (pe_tup (pa_cons pe_str (pa_cons (pe_tup (pa_cons pe_int (pa_cons pe_int pa_nil))) pa_nil))) pa_nil)) pa_nil)) pe_int)))
      (pss_cons (ps_if (PW.pt (pw_or (pt_cmpR (op_neD hr.units) (pe_cal C_sure_rows (hr.mono (by decide)) (pa_cons pe_int (pa_cons (pv 11) pa_nil))) (pe_op op_catA (pe_op op_repT (pe_tup (pa_cons pe_str pa_nil)) pe_int) (pe_op op_repT (pe_tup (pa_cons pe_str pa_nil)) pe_int)) (nomark _)) (pw_or1 (pt_cmpR op_ne (pe_cal C_settled (hr.mono (by decide)) (pa_cons pe_int (pa_cons (pv 11) pa_nil))) pe_int (nomark _))))) (pss_one (ps_ret pe_bl)) pss_nil)
      (pss_cons (ps_set (i := 8) sc_law.nd rfl (.inl rfl) (pe_cal C_sure_rows (hr.mono (by decide)) (pa_cons pe_int (pa_cons (pe_tup (pa_cons (pe_tup (pa_cons (pe_tup (pa_cons pe_str (pa_cons pe_int pa_nil))) (pa_cons (pe_tup (pa_cons pe_str (pa_cons pe_int pa_nil))) pa_nil))) (pa_cons (pe_tup (pa_cons (pe_tup (pa_cons pe_str (pa_cons pe_int (pa_cons pe_int pa_nil)))) pa_nil)) pa_nil))) pa_nil))))
      (pss_one (ps_ret (pe_and (pe_cmpR (op_eqD hr.units) (pv 8) (pe_tup (pa_cons pe_str (pa_cons pe_str pa_nil))) (nomark _)) (pe_one (pe_cmpR op_eq (pe_cal C_settled (hr.mono (by decide)) (pa_cons pe_int (pa_cons (pe_tup (pa_cons (pe_tup (pa_cons (pe_tup (pa_cons pe_str (pa_cons pe_int pa_nil))) (pa_cons (pe_tup (pa_cons pe_str (pa_cons pe_int pa_nil))) pa_nil))) (pa_cons (pe_tup (pa_cons (pe_tup (pa_cons pe_str (pa_cons pe_int (pa_cons pe_int pa_nil)))) pa_nil)) pa_nil))) pa_nil))) pe_int (nomark _))))))))))))), ?_⟩
    refine ⟨_, rfl, a, ns, rfl, ha, Nat.le_trans hz (szOf (show 63 ≤ 100000 by decide)), fun H1 m S1 e1 hm1 G1 hk1 hg1 hc1 => ?_⟩
    refine ⟨_, rfl, a, _, rfl, .inl (sqL_same e1 ha), _, _, rfl, _, _, rfl, rfl, _, rfl, ?_⟩
    have hn13 : (5 + (if (8 : Int) < ((ns.map V.int).length : Int) then 8 else ((ns.map V.int).length : Int))).toNat ≤ 13 ∧ -(2 ^ 62) ≤ (5 + (if (8 : Int) < ((ns.map V.int).length : Int) then 8 else ((ns.map V.int).length : Int))) ∧ (5 + (if (8 : Int) < ((ns.map V.int).length : Int) then 8 else ((ns.map V.int).length : Int))) < 2 ^ 62 := by
      split <;> omega
    generalize (5 + (if (8 : Int) < ((ns.map V.int).length : Int) then 8 else ((ns.map V.int).length : Int))) = turns at hn13 ⊢
    refine ⟨hn13.2.1, hn13.2.2, for_range (lo := 0) (fun i σ H2 => ∃ (S2 : GS) (y2 y3 y4 y5 y6 y7 y8 y9 y10 y11 y12 : Option V), Gen H2 m S2 ∧ S2.k ≤ 5000 * i ∧ σ = [some (.ref a), some (.ref m), y2, y3, y4, y5, y6, y7, y8, y9, y10, y11, y12])
      ⟨S1, none, none, none, none, none, none, none, none, none, none, none, G1, by omega, rfl⟩ ?_ ?_⟩
    · rintro i σ H2 hi ⟨S2, y2, y3, y4, y5, y6, y7, y8, y9, y10, y11, y12, G2, hk2, rfl⟩
      refine ⟨_, rfl, m, 6, S2, rfl, by decide, by decide, G2, by omega, fun H3 S3 r d3 hr3 => ?_⟩
      have f3 := d3.far
      refine ⟨_, _, rfl, rfl, ?_⟩
      refine ⟨_, rfl, _, rfl, m, 1 + r, 5, S3, rfl, by omega, by omega, by decide, d3.gen, by omega, fun H4 S4 v ts d4 tv hts hgt => ?_⟩
      have f4 := d4.far
      have hgts : GoodTs (1 + r) ts := ⟨by omega, by omega, by omega, hgt⟩
      obtain ⟨va, vx, rfl, hva, hvx⟩ := tv.tupI
      have hvl : vx.length = ts.length := by rw [hvx.length, List.length_map]
      refine ⟨_, rfl, _, rfl, 1 + r, _, ts, rfl, tv, hgts, by omega, fun H5 p L e5 hp hL hS hnL => ?_⟩
      have hpow : 2 ^ (1 + r) ≤ 64 := Nat.le_trans (Nat.pow_le_pow_right (by decide) (show 1 + r ≤ 6 by omega)) (by decide)
      refine ⟨_, rfl, _, rfl, p, _, rfl, sqL_of hL, fun d0 hd0 => ?_⟩
      rw [cut1]
      have sn6 := same_new (o := .lst ((L.map V.ref).drop 1)) hd0
      refine ⟨d0, rfl, ⟨_, sqL_new⟩, fun d hd => ?_⟩
      have hlx : ((L.map V.ref).drop 1).length = ts.length := by rw [List.length_drop, List.length_map, hS.len]; omega
      refine loop_it (walk_list (K := K) (a := d0) (xs := (L.map V.ref).drop 1)) (fun j H7 => Same (upd H5 d0 (.lst ((L.map V.ref).drop 1))) H7 ∧ H7 d = some (.lst ((rowsAll (1 + r) (ts.take j) (rowsOf (1 + r))).map rowV)))
        ⟨same_new hd, upd_same⟩ (fun j H7 _ h => sqL_of (h.1 _ _ upd_same)) ?_ ?_
      · rintro j x H7 H8 hj ⟨e7, k1⟩ ⟨rfl, hx⟩
        rw [hlx] at hj
        obtain ⟨t, ht⟩ : ∃ t, ts[j]? = some t := ⟨_, List.getElem?_eq_getElem hj⟩
        rw [List.getElem?_drop, List.getElem?_map] at hx
        obtain ⟨b, hb, rfl⟩ : ∃ b, L[1 + j]? = some b ∧ x = .ref b := by
          cases hz : L[1 + j]? with
          | none => rw [hz] at hx; cases hx
          | some b => rw [hz] at hx; exact ⟨b, rfl, (Option.some.inj hx).symm⟩
        have hbl := hS.at' _ b hb
        have hkl := knownL_len (w := 1 + r) (ts.take (1 + j))
        have hcz := canon_len (1 + r) (knownL (1 + r) (ts.take (1 + j)))
        refine ⟨rfl, ?_⟩
        refine ⟨_, rfl, _, rfl, 1 + r, b, canon (1 + r) (knownL (1 + r) (ts.take (1 + j))), rfl, sqL_of (e7 _ _ (sn6 _ _ hbl)), fun l hl => hkl l ((canon_mem hkl l).mp hl), by omega, by omega, fun H9 e9 => ⟨_, e9 _ _ k1, ?_, same_mut (e7.trans e9) hd, ?_⟩⟩
        · rw [List.length_map, rowsAll_len, List.length_take]
          exact szLt (by omega)
        · rw [upd_same, take_snoc ht, rowsAll_snoc, List.map_append, rowOf_congr (canon_mem hkl), Nat.add_comm 1 j, take_snoc ht, knownL_snoc]
          rfl
      rintro H7 ⟨e7, k1⟩
      rw [hlx, List.take_length] at k1
      have hRc := rowsIn_cut (n := 1 + r) ts (rowsOf (1 + r))
      generalize hR : rowsAll (1 + r) ts (rowsOf (1 + r)) = R at k1 hRc
      have e57 : Same H5 H7 := sn6.trans e7
      have tv : TD K H5 (.ref va) (tsD ts) := tv.same e5
      have hva := same_t e5 _ _ hva
      obtain ⟨L0, bl, hLs⟩ : ∃ L0 bl, L = L0 ++ [bl] := by
        have h0 : L ≠ [] := fun z => by have := hS.len; rw [z] at this; cases this
        exact ⟨L.dropLast, L.getLast h0, (List.dropLast_concat_getLast h0).symm⟩
      have hbl := hS.at' ts.length bl (by
        have := hS.len
        rw [hLs] at this ⊢
        rw [List.length_append] at this
        have hl0 : L0.length = ts.length := by simpa using this
        rw [List.getElem?_append_right (by omega), hl0, Nat.sub_self]; rfl)
      rw [List.take_length] at hbl
      have hlnV : ((canon (1 + r) (knownL (1 + r) ts)).map ln).map V.str = (canon (1 + r) (knownL (1 + r) ts)).map lnV := by rw [List.map_map]; rfl
      refine ⟨_, rfl, d, _, rfl, .inl (sqL_of k1), rfl, rows_flat _, decide (none ∈ R), congrArg V.bl (none_in R), d2 (fun h1 => ?_) (fun h1 => ?_)⟩
      · obtain ⟨j, j1, j2, j3⟩ := cutN_at h1
        refine ⟨_, rfl, _, rfl, .inl ⟨rfl, _, sqL_of k1⟩, d, _, .non, j, rowV none, rfl, rfl, sqL_of k1, rfl, rows_flat _, by rw [List.getElem?_map, j1]; rfl, rfl, fun m' z' hm' hz' => ?_, ?_⟩
        · obtain ⟨r', hr'⟩ := j2 m' hm'
          rw [List.getElem?_map, hr'] at hz'
          rw [← Option.some.inj hz']
          rfl
        refine ⟨_, _, rfl, rfl, _, rfl, d, _, rfl, sqL_of k1, fun du hdu => ?_⟩
        have sn8 := same_new (o := .lst (cutV (R.map rowV) none (some ((j : Int) + 1)))) hdu
        have e8 := e57.trans sn8
        have g8 : (upd H7 du (.lst (cutV (R.map rowV) none (some ((j : Int) + 1))))) du = some (.lst ((rowsIn (1 + r) ts (rowsOf (1 + r))).map rowV)) := by
          rw [upd_same, show ((j : Int) + 1) = ((j + 1 : Nat) : Int) from rfl, cut_to, hRc, j3, List.map_take]
        refine ⟨_, rfl, _, rfl, 1 + r, _, ts, rfl, tv.same e8, hgts, fun H9 pk e9 hpk hk9 => ?_⟩
        have e9' := e8.trans e9
        refine ⟨_, rfl, _, rfl, 1 + r, _, ts, rfl, tv.same e9', hgts, fun H10 psu e10 hps hk10 => ?_⟩
        have e10' := e9'.trans e10
        refine ⟨_, rfl, _, rfl, 1 + r, _, ts, rfl, tv.same e10', hgts, fun H11 e11 => ⟨szOf (show 3 ≤ 100000 by decide), fun pt hpt => ?_⟩⟩
        have e11' := e10'.trans e11
        have sn12 := same_new (o := .lst [.ref pk, .ref psu, natO (settledOf (rowsIn (1 + r) ts (rowsOf (1 + r))))]) hpt
        have e12 := e11'.trans sn12
        have hk9' := sn12 _ _ (e11 _ _ (e10 _ _ hk9))
        have hk10' := sn12 _ _ (e11 _ _ hk10)
        have hD1 : Dp K (upd H11 pt (.lst [.ref pk, .ref psu, natO (settledOf (rowsIn (1 + r) ts (rowsOf (1 + r))))])) (.ref pt) (dataL (1 + r) ts) := .lst sqL_new (.cons (.tup (sqT_of hk9') (dpAll_lns _)) (.cons (.tup (sqT_of hk10') (dpAll_rows _)) (.cons (dp_nat _) .nil)))
        obtain ⟨ft1, ft2, ft3, ft4⟩ := dataL_fits (n := 1 + r) (ts := ts) (by omega) (by omega)
        have g12 := sn12 _ _ (e11 _ _ (e10 _ _ (e9 _ _ g8)))
        refine ⟨_, rfl, pt, _, rfl, hD1, ft1, ft2, ft3, ft4, ?_⟩
        refine ⟨_, rfl, _, rfl, p, _, -1, .ref bl, rfl, rfl, sqL_of (e12 _ _ hL), by rw [hLs, List.map_append]; exact atI_last _ _, bl, (canon (1 + r) (knownL (1 + r) ts)).map ln, rfl, ?_, fun ys q1 w1 w2 hq1 => ⟨q1, _, rfl, .inl ⟨sqL_new, fun q2 hq2 => ?_⟩⟩⟩
        · have := e12 _ _ hbl
          rw [← hlnV] at this
          exact sqL_of this
        have hys := sorted_canon w1 w2
        rw [hys] at hq2 ⊢
        have sn13 := same_new (o := .lst ((canon (1 + r) (knownL (1 + r) ts)).map lnV)) hq1
        have sn14 := sn13.trans (same_new (o := .tup ((canon (1 + r) (knownL (1 + r) ts)).map lnV)) hq2)
        refine ⟨_, rfl, _, _, rfl, .inl ⟨sqL_of (sn14 _ _ g12), fun q3 hq3 => ?_⟩⟩
        have sn15 := sn14.trans (same_new (o := .tup ((rowsIn (1 + r) ts (rowsOf (1 + r))).map rowV)) hq3)
        refine ⟨_, rfl, _, _, rfl, sqL_of (sn15 _ _ g12), ⟨by have := rowsIn_le (n := 1 + r) ts (rowsOf (1 + r)); omega, rowsIn_codes ts _, rowsIn_all ts _⟩, fun H16 e16 => ⟨szOf (show 3 ≤ 100000 by decide), fun pu hpu => ?_⟩⟩
        have sn17 := e16.trans (same_new (o := .lst [.ref q2, .ref q3, natO (settledOf (rowsIn (1 + r) ts (rowsOf (1 + r))))]) hpu)
        have hq2' := sn17 _ _ (upd_ne (o := .tup ((rowsIn (1 + r) ts (rowsOf (1 + r))).map rowV)) (ne_of_none upd_same hq3) |>.trans (upd_same (o := .tup ((canon (1 + r) (knownL (1 + r) ts)).map lnV))))
        have hq3' := sn17 _ _ (upd_same (o := .tup ((rowsIn (1 + r) ts (rowsOf (1 + r))).map rowV)))
        refine ⟨pu, dataL (1 + r) ts, rfl, .lst sqL_new (.cons (.tup (sqT_of hq2') (dpAll_lns _)) (.cons (.tup (sqT_of hq3') (dpAll_rows _)) (.cons (dp_nat _) .nil))), ft1, ft2, ft3, ft4, rfl, _, rfl, nF rfl ?_⟩
        have e18 := (e12.trans sn15).trans sn17
        clear sn17 sn15 sn14 sn13 sn12 hq2' hq3' hD1
        refine ⟨_, rfl, va, vx, rfl, .inr (same_t e18 _ _ hva), _, rfl, by omega, by omega, for_range (lo := 0) (fun k σ H2 => Same H5 H2 ∧ ∃ (y6 y7 y8 y9 : Option V), σ = [some (.ref a), some (.ref m), some (.int (0 + (i : Int))), some (.int ((1 + r : Nat) : Int)), some (.ref va), some (.ref p), y6, y7, y8, y9, y10, y11, y12])
          ⟨e18, _, _, _, _, rfl⟩ ?_ ?_⟩
        · rintro k σ H20 hk20 ⟨e20, y6, y7, y8, y9, rfl⟩
          rw [show V.int (0 + (k : Int)) = V.int ((k : Nat) : Int) from congrArg V.int (by omega)]
          have hkt : k < ts.length := by omega
          obtain ⟨bk, hbk⟩ : ∃ bk, L[k]? = some bk := ⟨_, List.getElem?_eq_getElem (by rw [hS.len]; omega)⟩
          have hbkl := hS.at' k bk hbk
          refine ⟨_, rfl, _, rfl, _, rfl, _, rfl, va, vx, rfl, same_t e20 _ _ hva, fun z => ?_, fun _ pz hpz => ?_⟩
          · exfalso
            have z2 := z.2
            rw [HT.sIx_nat] at z2
            omega
          rw [cut_to] at *
          have snz := same_new (o := .tup (vx.take k)) hpz
          have ez := e20.trans snz
          have tz : TD K (upd H20 pz (.tup (vx.take k))) (.ref pz) (tsD (ts.take k)) := .tup sqT_new (by rw [List.map_take]; exact ((hvx.same e5).same ez).take k)
          refine ⟨1 + r, _, ts.take k, rfl, tz, ⟨by omega, by omega, by rw [List.length_take]; omega, fun t ht => hgt t (List.mem_of_mem_take ht)⟩, fun H21 pk2 e21 hpk2 hk21 => ?_⟩
          have e21' := ez.trans e21
          obtain ⟨fk1, fk2, fk3, fk4⟩ := dataK_fits (n := 1 + r) (ts := ts.take k) (by omega)
          refine ⟨pk2, dataK (1 + r) (ts.take k), rfl, .tup (sqT_of hk21) (dpAll_lns _), fk1, fk2, fk3, fk4, ?_⟩
          refine ⟨_, rfl, _, rfl, p, _, (k : Int), .ref bk, rfl, rfl, sqL_of (e21' _ _ hL), atI_nat (by rw [List.getElem?_map, hbk]; rfl), bk, (canon (1 + r) (knownL (1 + r) (ts.take k))).map ln, rfl, ?_, fun ys q1 w1 w2 hq1 => ⟨q1, _, rfl, .inl ⟨sqL_new, fun q2 hq2 => ?_⟩⟩⟩
          · rw [List.map_map]
            exact sqL_of (e21' _ _ hbkl)
          have hys := sorted_canon w1 w2
          rw [hys] at hq2 ⊢
          have sn22 := (same_new (o := .lst ((canon (1 + r) (knownL (1 + r) (ts.take k))).map lnV)) hq1).trans (same_new (o := .tup ((canon (1 + r) (knownL (1 + r) (ts.take k))).map lnV)) hq2)
          refine ⟨q2, dataK (1 + r) (ts.take k), rfl, .tup sqT_new (dpAll_lns _), fk1, fk2, fk3, fk4, rfl, _, rfl, nF rfl ?_⟩
          exact ⟨e21'.trans sn22, _, _, _, _, rfl⟩
        · rintro σ H20 ⟨e20, y6, y7, y8, y9, rfl⟩
          exact ⟨S4, _, _, _, _, _, _, _, _, _, _, _, (d4.gen.same e5).same e20, by omega, rfl⟩
      · have e8 := e57
        have g8 : H7 d = some (.lst ((rowsIn (1 + r) ts (rowsOf (1 + r))).map rowV)) := by
          rw [k1, hRc, cutN_no h1]
        refine ⟨_, rfl, ?_⟩
        refine ⟨_, rfl, _, rfl, 1 + r, _, ts, rfl, tv.same e8, hgts, fun H9 pk e9 hpk hk9 => ?_⟩
        have e9' := e8.trans e9
        refine ⟨_, rfl, _, rfl, 1 + r, _, ts, rfl, tv.same e9', hgts, fun H10 psu e10 hps hk10 => ?_⟩
        have e10' := e9'.trans e10
        refine ⟨_, rfl, _, rfl, 1 + r, _, ts, rfl, tv.same e10', hgts, fun H11 e11 => ⟨szOf (show 3 ≤ 100000 by decide), fun pt hpt => ?_⟩⟩
        have e11' := e10'.trans e11
        have sn12 := same_new (o := .lst [.ref pk, .ref psu, natO (settledOf (rowsIn (1 + r) ts (rowsOf (1 + r))))]) hpt
        have e12 := e11'.trans sn12
        have hk9' := sn12 _ _ (e11 _ _ (e10 _ _ hk9))
        have hk10' := sn12 _ _ (e11 _ _ hk10)
        have hD1 : Dp K (upd H11 pt (.lst [.ref pk, .ref psu, natO (settledOf (rowsIn (1 + r) ts (rowsOf (1 + r))))])) (.ref pt) (dataL (1 + r) ts) := .lst sqL_new (.cons (.tup (sqT_of hk9') (dpAll_lns _)) (.cons (.tup (sqT_of hk10') (dpAll_rows _)) (.cons (dp_nat _) .nil)))
        obtain ⟨ft1, ft2, ft3, ft4⟩ := dataL_fits (n := 1 + r) (ts := ts) (by omega) (by omega)
        have g12 := sn12 _ _ (e11 _ _ (e10 _ _ (e9 _ _ g8)))
        refine ⟨_, rfl, pt, _, rfl, hD1, ft1, ft2, ft3, ft4, ?_⟩
        refine ⟨_, rfl, _, rfl, p, _, -1, .ref bl, rfl, rfl, sqL_of (e12 _ _ hL), by rw [hLs, List.map_append]; exact atI_last _ _, bl, (canon (1 + r) (knownL (1 + r) ts)).map ln, rfl, ?_, fun ys q1 w1 w2 hq1 => ⟨q1, _, rfl, .inl ⟨sqL_new, fun q2 hq2 => ?_⟩⟩⟩
        · have := e12 _ _ hbl
          rw [← hlnV] at this
          exact sqL_of this
        have hys := sorted_canon w1 w2
        rw [hys] at hq2 ⊢
        have sn13 := same_new (o := .lst ((canon (1 + r) (knownL (1 + r) ts)).map lnV)) hq1
        have sn14 := sn13.trans (same_new (o := .tup ((canon (1 + r) (knownL (1 + r) ts)).map lnV)) hq2)
        refine ⟨_, rfl, _, _, rfl, .inl ⟨sqL_of (sn14 _ _ g12), fun q3 hq3 => ?_⟩⟩
        have sn15 := sn14.trans (same_new (o := .tup ((rowsIn (1 + r) ts (rowsOf (1 + r))).map rowV)) hq3)
        refine ⟨_, rfl, _, _, rfl, sqL_of (sn15 _ _ g12), ⟨by have := rowsIn_le (n := 1 + r) ts (rowsOf (1 + r)); omega, rowsIn_codes ts _, rowsIn_all ts _⟩, fun H16 e16 => ⟨szOf (show 3 ≤ 100000 by decide), fun pu hpu => ?_⟩⟩
        have sn17 := e16.trans (same_new (o := .lst [.ref q2, .ref q3, natO (settledOf (rowsIn (1 + r) ts (rowsOf (1 + r))))]) hpu)
        have hq2' := sn17 _ _ (upd_ne (o := .tup ((rowsIn (1 + r) ts (rowsOf (1 + r))).map rowV)) (ne_of_none upd_same hq3) |>.trans (upd_same (o := .tup ((canon (1 + r) (knownL (1 + r) ts)).map lnV))))
        have hq3' := sn17 _ _ (upd_same (o := .tup ((rowsIn (1 + r) ts (rowsOf (1 + r))).map rowV)))
        refine ⟨pu, dataL (1 + r) ts, rfl, .lst sqL_new (.cons (.tup (sqT_of hq2') (dpAll_lns _)) (.cons (.tup (sqT_of hq3') (dpAll_rows _)) (.cons (dp_nat _) .nil))), ft1, ft2, ft3, ft4, rfl, _, rfl, nF rfl ?_⟩
        have e18 := (e12.trans sn15).trans sn17
        clear sn17 sn15 sn14 sn13 sn12 hq2' hq3' hD1
        refine ⟨_, rfl, va, vx, rfl, .inr (same_t e18 _ _ hva), _, rfl, by omega, by omega, for_range (lo := 0) (fun k σ H2 => Same H5 H2 ∧ ∃ (y6 y7 y8 y9 : Option V), σ = [some (.ref a), some (.ref m), some (.int (0 + (i : Int))), some (.int ((1 + r : Nat) : Int)), some (.ref va), some (.ref p), y6, y7, y8, y9, y10, y11, y12])
          ⟨e18, _, _, _, _, rfl⟩ ?_ ?_⟩
        · rintro k σ H20 hk20 ⟨e20, y6, y7, y8, y9, rfl⟩
          rw [show V.int (0 + (k : Int)) = V.int ((k : Nat) : Int) from congrArg V.int (by omega)]
          have hkt : k < ts.length := by omega
          obtain ⟨bk, hbk⟩ : ∃ bk, L[k]? = some bk := ⟨_, List.getElem?_eq_getElem (by rw [hS.len]; omega)⟩
          have hbkl := hS.at' k bk hbk
          refine ⟨_, rfl, _, rfl, _, rfl, _, rfl, va, vx, rfl, same_t e20 _ _ hva, fun z => ?_, fun _ pz hpz => ?_⟩
          · exfalso
            have z2 := z.2
            rw [HT.sIx_nat] at z2
            omega
          rw [cut_to] at *
          have snz := same_new (o := .tup (vx.take k)) hpz
          have ez := e20.trans snz
          have tz : TD K (upd H20 pz (.tup (vx.take k))) (.ref pz) (tsD (ts.take k)) := .tup sqT_new (by rw [List.map_take]; exact ((hvx.same e5).same ez).take k)
          refine ⟨1 + r, _, ts.take k, rfl, tz, ⟨by omega, by omega, by rw [List.length_take]; omega, fun t ht => hgt t (List.mem_of_mem_take ht)⟩, fun H21 pk2 e21 hpk2 hk21 => ?_⟩
          have e21' := ez.trans e21
          obtain ⟨fk1, fk2, fk3, fk4⟩ := dataK_fits (n := 1 + r) (ts := ts.take k) (by omega)
          refine ⟨pk2, dataK (1 + r) (ts.take k), rfl, .tup (sqT_of hk21) (dpAll_lns _), fk1, fk2, fk3, fk4, ?_⟩
          refine ⟨_, rfl, _, rfl, p, _, (k : Int), .ref bk, rfl, rfl, sqL_of (e21' _ _ hL), atI_nat (by rw [List.getElem?_map, hbk]; rfl), bk, (canon (1 + r) (knownL (1 + r) (ts.take k))).map ln, rfl, ?_, fun ys q1 w1 w2 hq1 => ⟨q1, _, rfl, .inl ⟨sqL_new, fun q2 hq2 => ?_⟩⟩⟩
          · rw [List.map_map]
            exact sqL_of (e21' _ _ hbkl)
          have hys := sorted_canon w1 w2
          rw [hys] at hq2 ⊢
          have sn22 := (same_new (o := .lst ((canon (1 + r) (knownL (1 + r) (ts.take k))).map lnV)) hq1).trans (same_new (o := .tup ((canon (1 + r) (knownL (1 + r) (ts.take k))).map lnV)) hq2)
          refine ⟨q2, dataK (1 + r) (ts.take k), rfl, .tup sqT_new (dpAll_lns _), fk1, fk2, fk3, fk4, rfl, _, rfl, nF rfl ?_⟩
          exact ⟨e21'.trans sn22, _, _, _, _, rfl⟩
        · rintro σ H20 ⟨e20, y6, y7, y8, y9, rfl⟩
          exact ⟨S4, _, _, _, _, _, _, _, _, _, _, _, (d4.gen.same e5).same e20, by omega, rfl⟩
    · rintro σ H2 ⟨S2, y2, y3, y4, y5, y6, y7, y8, y9, y10, y11, y12, G2, hk2, rfl⟩
      clear G2 hk2
      -- known(2, ()), settled(2, ())
      refine ⟨Nat.zero_le _, fun p1 hp1 => ?_⟩
      refine ⟨2, _, [], rfl, .tup sqT_new .nil, ⟨by decide, by decide, by decide, fun _ h => (by cases h)⟩, fun H3 pk e3 hpk hk => ⟨szOf (show 4 ≤ 100000 by decide), fun p4 hp4 => ?_⟩⟩
      have s4 := same_new (o := .tup [.str "##", .str "#.", .str ".#", .str ".."]) hp4
      refine ⟨dataK 2 [], .tuple [.str "##", .str "#.", .str ".#", .str ".."], .tup (sqT_of (s4 _ _ hk)) (dpAll_lns _), .tup sqT_new (.cons (.str _) (.cons (.str _) (.cons (.str _) (.cons (.str _) .nil)))), c_shp1.1, c_shp1.2, ?_⟩
      rw [c_known]
      refine ⟨_, rfl, ?_⟩
      refine ⟨Nat.zero_le _, fun p5 hp5 => ?_⟩
      refine ⟨2, _, [], rfl, .tup sqT_new .nil, ⟨by decide, by decide, by decide, fun _ h => (by cases h)⟩, fun H6 e6 => ?_⟩
      rw [c_set2]
      refine ⟨rfl, _, rfl, ?_⟩
      refine nF rfl ?_
      -- the long one
      refine ⟨szOf (show 2 ≤ 100000 by decide), fun p7 hp7 => ⟨szOf (show 2 ≤ 100000 by decide), fun p8 hp8 => ⟨szOf (show 2 ≤ 100000 by decide), fun p9 hp9 => ?_⟩⟩⟩
      obtain ⟨s9, t9⟩ := mk_two (K := K) hp7 hp8 hp9
      generalize upd (upd (upd H6 p7 (.tup [.str "stay", .int 0])) p8 (.tup [.str "stay", .int 0])) p9 (.tup [.ref p7, .ref p8]) = H9 at s9 t9 ⊢
      refine ⟨_, rfl, szOf (show 1 ≤ 100000 by decide), fun p10 hp10 => ⟨p10, 11, _, rfl, rfl, sqT_new, List.cons_ne_nil _ _, by decide, by decide, show 1 ≤ 1000 by decide, fun p11 hp11 => ?_⟩⟩
      have s11 := (same_new (o := .tup [.ref p9]) hp10).trans (same_new (o := .tup (List.replicate 11 [V.ref p9]).flatten) hp11)
      have u11 : (upd (upd H9 p10 (.tup [.ref p9])) p11 (.tup (List.replicate 11 [V.ref p9]).flatten)) p11 = some (.tup (List.replicate 11 [V.ref p9]).flatten) := upd_same
      have t11 := t9.same s11
      refine ⟨szOf (show 2 ≤ 100000 by decide), fun p12 hp12 => ⟨szOf (show 2 ≤ 100000 by decide), fun p13 hp13 => ⟨szOf (show 1 ≤ 100000 by decide), fun p14 hp14 => ⟨szOf (show 1 ≤ 100000 by decide), fun p15 hp15 => ⟨p15, 2, _, rfl, rfl, sqT_new, List.cons_ne_nil _ _, by decide, by decide, show 1 ≤ 1000 by decide, fun p16 hp16 => ?_⟩⟩⟩⟩⟩
      have t12 : TD K _ (.ref p12) (runsD [1, 2]) := td_new hp12 (.cons (.int _) (.cons (.int _) .nil))
      have t13 : TD K _ (.ref p13) (fullD [1, 2]) := td_new hp13 (.cons (.str _) (.one t12))
      have t14 : TD K _ (.ref p14) fullT.data := td_new hp14 (.one t13)
      have t16 := (t14.same (same_new (o := .tup [.ref p14]) hp15)).same (same_new (o := .tup (List.replicate 2 [V.ref p14]).flatten) hp16)
      have s16 := ((((same_new (o := .tup [.int 1, .int 2]) hp12).trans (same_new (o := .tup [.str "full", .ref p12]) hp13)).trans (same_new (o := .tup [.ref p13]) hp14)).trans (same_new (o := .tup [.ref p14]) hp15)).trans (same_new (o := .tup (List.replicate 2 [V.ref p14]).flatten) hp16)
      refine ⟨p11, p16, _, _, rfl, rfl, sqT_of (s16 _ _ u11), sqT_new, szOf (show 13 ≤ 100000 by decide), fun z => absurd z (List.cons_ne_nil _ _), fun _ z => absurd z (List.cons_ne_nil _ _), fun _ _ p17 hp17 => ?_⟩
      have s17 := same_new (o := .tup ((List.replicate 11 [V.ref p9]).flatten ++ (List.replicate 2 [V.ref p14]).flatten)) hp17
      have t17 : TD K _ (.ref p17) (tsD longTs) := .tup sqT_new (by
        rw [longTs, List.map_append, List.map_replicate, List.map_replicate]
        exact (TDs.rep ((t11.same s16).same s17) 11).append (TDs.rep (t16.same s17) 2))
      refine ⟨_, rfl, 3, _, longTs, rfl, t17, good_long, fun H18 ps e18 hps h18 => ?_⟩
      refine ⟨szOf (show 1 ≤ 100000 by decide), fun p19 hp19 => ⟨p19, 11, _, rfl, rfl, sqT_new, List.cons_ne_nil _ _, by decide, by decide, show 1 ≤ 1000 by decide, fun p20 hp20 => ?_⟩⟩
      have s20 := (same_new (o := .tup [.str "??#"]) hp19).trans (same_new (o := .tup (List.replicate 11 [V.str "??#"]).flatten) hp20)
      have u20 : (upd (upd H18 p19 (.tup [.str "??#"])) p20 (.tup (List.replicate 11 [V.str "??#"]).flatten)) p20 = some (.tup (List.replicate 11 [V.str "??#"]).flatten) := upd_same
      refine ⟨szOf (show 1 ≤ 100000 by decide), fun p21 hp21 => ⟨p21, 2, _, rfl, rfl, sqT_new, List.cons_ne_nil _ _, by decide, by decide, show 1 ≤ 1000 by decide, fun p22 hp22 => ?_⟩⟩
      have s22 := (same_new (o := .tup [.str ".##"]) hp21).trans (same_new (o := .tup (List.replicate 2 [V.str ".##"]).flatten) hp22)
      refine ⟨p20, p22, _, _, rfl, rfl, sqT_of (s22 _ _ u20), sqT_new, szOf (show 13 ≤ 100000 by decide), fun z => absurd z (List.cons_ne_nil _ _), fun _ z => absurd z (List.cons_ne_nil _ _), fun _ _ p23 hp23 => ?_⟩
      have s23 := (s20.trans s22).trans (same_new (o := .tup ((List.replicate 11 [V.str "??#"]).flatten ++ (List.replicate 2 [V.str ".##"]).flatten)) hp23)
      refine ⟨dataR 3 longTs, .tuple (List.replicate 11 (.str "??#") ++ List.replicate 2 (.str ".##")), .tup (sqT_of (s23 _ _ h18)) (dpAll_rows _), .tup sqT_new (DpAll.app (DpAll.rep (.str _) 11) (DpAll.rep (.str _) 2)), c_shp2.1, c_shp2.2, ?_⟩
      rw [c_long]
      refine ⟨_, rfl, ?_⟩
      refine ⟨_, rfl, 3, _, longTs, rfl, (t17.same e18).same s23, good_long, fun H24 e24 => ?_⟩
      rw [c_longS]
      refine ⟨rfl, _, rfl, ?_⟩
      refine nF rfl ?_
      -- the last one
      refine ⟨szOf (show 2 ≤ 100000 by decide), fun pa hpa => ⟨szOf (show 2 ≤ 100000 by decide), fun pb hpb => ⟨szOf (show 2 ≤ 100000 by decide), fun pc hpc => ⟨szOf (show 3 ≤ 100000 by decide), fun pd hpd => ⟨szOf (show 1 ≤ 100000 by decide), fun pe hpe => ⟨szOf (show 2 ≤ 100000 by decide), fun pf hpf => ?_⟩⟩⟩⟩⟩⟩
      refine ⟨3, _, [twoT, runT], rfl, mk_last hpa hpb hpc hpd hpe hpf, good_last, fun H25 pg e25 hpg h25 => ?_⟩
      refine ⟨_, rfl, szOf (show 2 ≤ 100000 by decide), fun ph hph => ?_⟩
      have s26 := same_new (o := .tup [.str "??#", .str "..."]) hph
      refine ⟨dataR 3 [twoT, runT], .tuple [.str "??#", .str "..."], .tup (sqT_of (s26 _ _ h25)) (dpAll_rows _), .tup sqT_new (.cons (.str _) (.cons (.str _) .nil)), c_shp3.1, c_shp3.2, ?_⟩
      rw [c_last]
      refine ⟨true, rfl, ?_⟩
      refine ⟨szOf (show 2 ≤ 100000 by decide), fun pa hpa => ⟨szOf (show 2 ≤ 100000 by decide), fun pb hpb => ⟨szOf (show 2 ≤ 100000 by decide), fun pc hpc => ⟨szOf (show 3 ≤ 100000 by decide), fun pd hpd => ⟨szOf (show 1 ≤ 100000 by decide), fun pe hpe => ⟨szOf (show 2 ≤ 100000 by decide), fun pf hpf => ?_⟩⟩⟩⟩⟩⟩
      refine ⟨3, _, [twoT, runT], rfl, mk_last hpa hpb hpc hpd hpe hpf, good_last, fun H27 e27 => ?_⟩
      rw [c_lastS]
      refine ⟨rfl, ?_⟩
      show Q (V.bl (decide (V.int ((1 : Nat) : Int) = V.int 1))) _
      rw [decide_eq_true (show V.int ((1 : Nat) : Int) = V.int 1 from rfl)]
      exact q _
end
end Fx

set_option Elab.async false
set_option linter.all false
set_option maxRecDepth 100000
set_option maxHeartbeats 2000000
namespace Fx
open PySem PySem.Spec PyProof.Rows L2
/-! What the top has left, and the promises one after another. -/

/-- a def of the top as the module's table has it -/
structure Kf (K : PySem.W.Frag) (x : Str) (st : Stmt) : Prop where
  ex : ∃ f oc od kV doc pm an cdv ct osl, PySem.W.nsIn K mainGlobals x = some (some (.ref f)) ∧
    K.lookup f = some ⟨oc, od, .func (PySem.W.fnOf x x (defArgs st) (defBody st) (defScope st) .none kV doc pm an cdv ct), osl⟩ ∧
    PySem.W.codeIn K cdv x = true ∧ PySem.W.keepIn K (.ref f) = true
theorem kf_mk {K : PySem.W.Frag} {x : Str} {st : Stmt} {f : Addr} {oc kV doc pm cdv ct : Value} {od an : Option Addr} {osl : Array (Option Value)}
    (a : PySem.W.nsIn K mainGlobals x = some (some (.ref f)))
    (l : K.lookup f = some ⟨oc, od, .func (PySem.W.fnOf x x (defArgs st) (defBody st) (defScope st) .none kV doc pm an cdv ct), osl⟩)
    (c : PySem.W.codeIn K cdv x = true) (k : PySem.W.keepIn K (.ref f) = true) : Kf K x st := ⟨_, _, _, _, _, _, _, _, _, _, a, l, c, k⟩
theorem kc_str {K : PySem.W.Frag} {x z : Str} {t : Tok} (e : PySem.W.nsIn K mainGlobals x = some (some (.str z t))) : ∃ t, PySem.W.nsIn K mainGlobals x = some (some (.str z t)) := ⟨t, e⟩
theorem kc_int {K : PySem.W.Frag} {x : Str} {i : Int} {t : Tok} (e : PySem.W.nsIn K mainGlobals x = some (some (.int i t))) : ∃ t, PySem.W.nsIn K mainGlobals x = some (some (.int i t)) := ⟨t, e⟩
theorem Kf.df {K : PySem.W.Frag} {h : Heap} {mg : Str → Option Value} {x : Str} {st : Stmt} {ps : List Str} (d : Kf K x st) (X : K.In h) (G : h.Ns mainGlobals mg)
    (hb : ∀ (kV doc pm : Value) (an : Option Addr) (cdv ct : Value) (us : List Value), us.length = ps.length →
      bindArgs (PySem.W.fnOf x x (defArgs st) (defBody st) (defScope st) .none kV doc pm an cdv ct) ⟨us, []⟩ = pure (ps.zip us)) : Df K mg x st ps := by
  obtain ⟨f, oc, od, kV, doc, pm, an, cdv, ct, osl, a, l, c, k⟩ := d.ex
  have F := L2.fun_mk (st := st) l c k
  exact ⟨f, _, F, PySem.W.mg_of X G a, F.binds hb⟩

structure KTxt (K : PySem.W.Frag) : Prop where
  white : ∃ t, PySem.W.nsIn K mainGlobals "WHITE" = some (some (.str "." t))
  black : ∃ t, PySem.W.nsIn K mainGlobals "BLACK" = some (some (.str "#" t))
  mostWidth : ∃ t, PySem.W.nsIn K mainGlobals "MOST_WIDTH" = some (some (.int 40 t))
  mostModes : ∃ t, PySem.W.nsIn K mainGlobals "MOST_MODES" = some (some (.int 80 t))
  mostStay : ∃ t, PySem.W.nsIn K mainGlobals "MOST_STAY" = some (some (.int 3 t))
  stay : ∃ t, PySem.W.nsIn K mainGlobals "STAY" = some (some (.str "stay" t))
  pas : ∃ t, PySem.W.nsIn K mainGlobals "PASS" = some (some (.str "pass" t))
  runs : ∃ t, PySem.W.nsIn K mainGlobals "RUNS" = some (some (.str "runs" t))
  full : ∃ t, PySem.W.nsIn K mainGlobals "FULL" = some (some (.str "full" t))
  unsure : ∃ t, PySem.W.nsIn K mainGlobals "UNSURE" = some (some (.str "?" t))
  mostLate : ∃ t, PySem.W.nsIn K mainGlobals "MOST_LATE" = some (some (.int 10 t))
  mostTellings : ∃ t, PySem.W.nsIn K mainGlobals "MOST_TELLINGS" = some (some (.int 60 t))
  b_isinstance : PySem.W.nsIn K mainGlobals "isinstance" = some none
  b_int : PySem.W.nsIn K mainGlobals "int" = some none
  b_bool : PySem.W.nsIn K mainGlobals "bool" = some none
  b_str : PySem.W.nsIn K mainGlobals "str" = some none
  b_tuple : PySem.W.nsIn K mainGlobals "tuple" = some none
  b_list : PySem.W.nsIn K mainGlobals "list" = some none
  b_set : PySem.W.nsIn K mainGlobals "set" = some none
  b_all : PySem.W.nsIn K mainGlobals "all" = some none
  b_sum : PySem.W.nsIn K mainGlobals "sum" = some none
  b_len : PySem.W.nsIn K mainGlobals "len" = some none
  b_range : PySem.W.nsIn K mainGlobals "range" = some none
  b_enumerate : PySem.W.nsIn K mainGlobals "enumerate" = some none
  b_sorted : PySem.W.nsIn K mainGlobals "sorted" = some none
  b_repr : PySem.W.nsIn K mainGlobals "repr" = some none
  b_min : PySem.W.nsIn K mainGlobals "min" = some none

theorem KTxt.txt {K : PySem.W.Frag} {h : Heap} {mg : Str → Option Value} (T : KTxt K) (X : K.In h) (G : h.Ns mainGlobals mg) : Txt mg where
  white := T.white.elim fun t e => ⟨t, PySem.W.mg_of X G e⟩
  black := T.black.elim fun t e => ⟨t, PySem.W.mg_of X G e⟩
  mostWidth := T.mostWidth.elim fun t e => ⟨t, PySem.W.mg_of X G e⟩
  mostModes := T.mostModes.elim fun t e => ⟨t, PySem.W.mg_of X G e⟩
  mostStay := T.mostStay.elim fun t e => ⟨t, PySem.W.mg_of X G e⟩
  stay := T.stay.elim fun t e => ⟨t, PySem.W.mg_of X G e⟩
  pas := T.pas.elim fun t e => ⟨t, PySem.W.mg_of X G e⟩
  runs := T.runs.elim fun t e => ⟨t, PySem.W.mg_of X G e⟩
  full := T.full.elim fun t e => ⟨t, PySem.W.mg_of X G e⟩
  unsure := T.unsure.elim fun t e => ⟨t, PySem.W.mg_of X G e⟩
  mostLate := T.mostLate.elim fun t e => ⟨t, PySem.W.mg_of X G e⟩
  mostTellings := T.mostTellings.elim fun t e => ⟨t, PySem.W.mg_of X G e⟩
  b_isinstance := PySem.W.mg_none_of X G T.b_isinstance
  b_int := PySem.W.mg_none_of X G T.b_int
  b_bool := PySem.W.mg_none_of X G T.b_bool
  b_str := PySem.W.mg_none_of X G T.b_str
  b_tuple := PySem.W.mg_none_of X G T.b_tuple
  b_list := PySem.W.mg_none_of X G T.b_list
  b_set := PySem.W.mg_none_of X G T.b_set
  b_all := PySem.W.mg_none_of X G T.b_all
  b_sum := PySem.W.mg_none_of X G T.b_sum
  b_len := PySem.W.mg_none_of X G T.b_len
  b_range := PySem.W.mg_none_of X G T.b_range
  b_enumerate := PySem.W.mg_none_of X G T.b_enumerate
  b_sorted := PySem.W.mg_none_of X G T.b_sorted
  b_repr := PySem.W.mg_none_of X G T.b_repr
  b_min := PySem.W.mg_none_of X G T.b_min

structure KAll (K : PySem.W.Frag) : Prop where
  d_is_whole : Kf K "is_whole" sIsWhole
  d_other_colour : Kf K "other_colour" sOther
  d_line_in : Kf K "line_in" sLineIn
  d_is_full : Kf K "is_full" sIsFull
  d_are_runs : Kf K "are_runs" sAreRuns
  d_is_mode : Kf K "is_mode" s_is_mode
  d_need_telling : Kf K "need_telling" s_need_telling
  d_change_from : Kf K "change_from" s_change_from
  d_change_back : Kf K "change_back" s_change_back
  d_dots_of : Kf K "dots_of" s_dots_of
  d_after_mode : Kf K "after_mode" s_after_mode
  d_read_beside : Kf K "read_beside" s_read_beside
  d_need_width : Kf K "need_width" s_need_width
  d_lines_of_width : Kf K "lines_of_width" s_lines_of_width
  d_need_late : Kf K "need_late" s_need_late
  d_next_known : Kf K "next_known" s_next_known
  d_known : Kf K "known" s_known
  d_row_of : Kf K "row_of" s_row_of
  d_rows_in : Kf K "rows_in" s_rows_in
  d_sure_rows : Kf K "sure_rows" s_sure_rows
  d_settled : Kf K "settled" s_settled
  d_law_begun : Kf K "_law_begun" s_law_begun
  d_law_next : Kf K "_law_next" s_law_next
  d_law_of : Kf K "_law_of" s_law_of
  d_law_other : Kf K "_law_other" s_law_other
  d_law_row : Kf K "_law_row" s_law_row
  d_law_near_row : Kf K "_law_near_row" s_law_near_row
  d_law_all_rows : Kf K "_law_all_rows" s_law_all_rows
  d_law_runs : Kf K "_law_runs" s_law_runs
  d_law_changes : Kf K "_law_changes" s_law_changes
  d_law_done : Kf K "_law_done" s_law_done
  d_law_read : Kf K "_law_read" s_law_read
  d_law_row_of : Kf K "_law_row_of" s_law_row_of
  d_law_settled : Kf K "_law_settled" s_law_settled
  d_law_sets : Kf K "_law_sets" s_law_sets
  d_law_goes_on : Kf K "_law_goes_on" s_law_goes_on
  d_law_any_mode : Kf K "_law_any_mode" s_law_any_mode
  d_law_modes : Kf K "_law_modes" s_law_modes
  d_law_telling : Kf K "_law_telling" s_law_telling
  d_law_tellings : Kf K "_law_tellings" s_law_tellings
  d_law : Kf K "law" s_law

theorem all_mk {l : PySem.W.OpenLaw} {w : World} {K : PySem.W.Frag} {h : Heap} {mg : Str → Option Value} {fa : Addr} (X : K.In h) (G : h.Ns mainGlobals mg) (hfa : mg "law" = some (.ref fa)) (A : KAll K) (TK : KTxt K) :
    ∃ fd : FuncData, (∀ (s : Shared) (v : Value), BindsTo s fd ⟨[v], []⟩ [("_law_script", v)]) ∧ ∀ base : Heap, K.In base → base.Ns mainGlobals mg → FnG l.prog w K mg base CX0 7 fa fd ["_law_script"] (spLaw K) := by
  have T := TK.txt X G
  obtain ⟨f, oc, od, kV, doc, pm, an, cdv, ct, osl, a, lk, c, k⟩ := A.d_law.ex
  have F := L2.fun_mk (st := s_law) lk c k
  have e := hfa.symm.trans (PySem.W.mg_of X G a)
  cases e
  refine ⟨PySem.W.fnOf "law" "law" (defArgs s_law) (defBody s_law) (defScope s_law) .none kV doc pm an cdv ct, fun s v => .of_eq rfl, fun base hb1 hb2 => ?_⟩
  have C_is_whole := ok_isWhole (P := l.prog) (w := w) (base := base) (A.d_is_whole.df (ps := ["thing", "least", "most"]) X G fun _ _ _ _ _ _ us hl => match us, hl with | [_, _, _], _ => rfl) T
  have C_other_colour := ok_other (P := l.prog) (w := w) (base := base) (A.d_other_colour.df (ps := ["colour"]) X G fun _ _ _ _ _ _ us hl => match us, hl with | [_], _ => rfl) T
  have C_line_in := ok_lineIn (P := l.prog) (w := w) (base := base) (A.d_line_in.df (ps := ["runs"]) X G fun _ _ _ _ _ _ us hl => match us, hl with | [_], _ => rfl) T C_other_colour
  have C_is_full := ok_isFull (P := l.prog) (w := w) (base := base) (A.d_is_full.df (ps := ["telling"]) X G fun _ _ _ _ _ _ us hl => match us, hl with | [_], _ => rfl) T
  have C_are_runs := ok_areRuns (P := l.prog) (w := w) (base := base) (A.d_are_runs.df (ps := ["thing"]) X G fun _ _ _ _ _ _ us hl => match us, hl with | [_], _ => rfl) T C_is_whole
  have C_is_mode := ok_isMode (P := l.prog) (w := w) (base := base) (A.d_is_mode.df (ps := ["thing"]) X G fun _ _ _ _ _ _ us hl => match us, hl with | [_], _ => rfl) T C_is_whole C_are_runs
  have C_need_telling := ok_need (P := l.prog) (w := w) (base := base) (A.d_need_telling.df (ps := ["thing"]) X G fun _ _ _ _ _ _ us hl => match us, hl with | [_], _ => rfl) T C_is_mode
  have C_change_from := ok_change (P := l.prog) (w := w) (base := base) (A.d_change_from.df (ps := ["reference", "place", "colour", "is_told"]) X G fun _ _ _ _ _ _ us hl => match us, hl with | [_, _, _, _], _ => rfl) T
  have C_change_back := ok_back (P := l.prog) (w := w) (base := base) (A.d_change_back.df (ps := ["reference", "place", "colour"]) X G fun _ _ _ _ _ _ us hl => match us, hl with | [_, _, _], _ => rfl) T
  have C_dots_of := ok_dots (P := l.prog) (w := w) (base := base) (A.d_dots_of.df (ps := ["mode", "place", "end", "colour"]) X G fun _ _ _ _ _ _ us hl => match us, hl with | [_, _, _, _], _ => rfl) T C_other_colour
  have C_after_mode := ok_after (P := l.prog) (w := w) (base := base) (A.d_after_mode.df (ps := ["reference", "mode", "place", "colour", "is_told"]) X G fun _ _ _ _ _ _ us hl => match us, hl with | [_, _, _, _, _], _ => rfl) T C_other_colour C_change_from C_change_back
  have C_read_beside := ok_read (P := l.prog) (w := w) (base := base) (A.d_read_beside.df (ps := ["reference", "telling"]) X G fun _ _ _ _ _ _ us hl => match us, hl with | [_, _], _ => rfl) T C_is_full C_line_in C_after_mode C_dots_of
  have C_need_width := ok_needW (P := l.prog) (w := w) (base := base) (A.d_need_width.df (ps := ["width"]) X G fun _ _ _ _ _ _ us hl => match us, hl with | [_], _ => rfl) T C_is_whole
  have C_lines_of_width := ok_lines (P := l.prog) (w := w) (base := base) (A.d_lines_of_width.df (ps := ["width"]) X G fun _ _ _ _ _ _ us hl => match us, hl with | [_], _ => rfl) T
  have C_need_late := ok_needL (P := l.prog) (w := w) (base := base) (A.d_need_late.df (ps := ["width", "tellings"]) X G fun _ _ _ _ _ _ us hl => match us, hl with | [_, _], _ => rfl) T C_need_width C_need_telling
  have C_next_known := ok_next (P := l.prog) (w := w) (base := base) (A.d_next_known.df (ps := ["lines", "telling"]) X G fun _ _ _ _ _ _ us hl => match us, hl with | [_, _], _ => rfl) T C_read_beside
  have C_known := ok_known (P := l.prog) (w := w) (base := base) (A.d_known.df (ps := ["width", "tellings"]) X G fun _ _ _ _ _ _ us hl => match us, hl with | [_, _], _ => rfl) T C_need_late C_lines_of_width C_next_known
  have C_row_of := ok_row (P := l.prog) (w := w) (base := base) (A.d_row_of.df (ps := ["width", "lines"]) X G fun _ _ _ _ _ _ us hl => match us, hl with | [_, _], _ => rfl) T
  have C_rows_in := ok_rows (P := l.prog) (w := w) (base := base) (A.d_rows_in.df (ps := ["width", "tellings"]) X G fun _ _ _ _ _ _ us hl => match us, hl with | [_, _], _ => rfl) T C_lines_of_width C_next_known C_row_of
  have C_sure_rows := ok_sure (P := l.prog) (w := w) (base := base) (A.d_sure_rows.df (ps := ["width", "tellings"]) X G fun _ _ _ _ _ _ us hl => match us, hl with | [_, _], _ => rfl) T C_need_late C_rows_in
  have C_settled := ok_settled (P := l.prog) (w := w) (base := base) (A.d_settled.df (ps := ["width", "tellings"]) X G fun _ _ _ _ _ _ us hl => match us, hl with | [_, _], _ => rfl) T C_need_late C_rows_in
  have C_law_begun := ok_begun (P := l.prog) (w := w) (base := base) (A.d_law_begun.df (ps := ["_law_script"]) X G fun _ _ _ _ _ _ us hl => match us, hl with | [_], _ => rfl) T
  have C_law_next := ok_draw (P := l.prog) (w := w) (base := base) (A.d_law_next.df (ps := ["_law_m", "_law_total"]) X G fun _ _ _ _ _ _ us hl => match us, hl with | [_, _], _ => rfl) T
  have C_law_of := ok_of (P := l.prog) (w := w) (base := base) (A.d_law_of.df (ps := ["_law_m", "_law_some"]) X G fun _ _ _ _ _ _ us hl => match us, hl with | [_, _], _ => rfl) T C_law_next
  have C_law_other := ok_lother (P := l.prog) (w := w) (base := base) (A.d_law_other.df (ps := ["_law_dot"]) X G fun _ _ _ _ _ _ us hl => match us, hl with | [_], _ => rfl) T
  have C_law_row := ok_lrow (P := l.prog) (w := w) (base := base) (A.d_law_row.df (ps := ["_law_m", "_law_wide"]) X G fun _ _ _ _ _ _ us hl => match us, hl with | [_, _], _ => rfl) T C_law_next C_law_of
  have C_law_near_row := ok_near (P := l.prog) (w := w) (base := base) (A.d_law_near_row.df (ps := ["_law_m", "_law_row_here"]) X G fun _ _ _ _ _ _ us hl => match us, hl with | [_, _], _ => rfl) T C_law_next
  have C_law_all_rows := ok_lall (P := l.prog) (w := w) (base := base) (A.d_law_all_rows.df (ps := ["_law_wide"]) X G fun _ _ _ _ _ _ us hl => match us, hl with | [_], _ => rfl) T
  have C_law_runs := ok_lruns (P := l.prog) (w := w) (base := base) (A.d_law_runs.df (ps := ["_law_row_here"]) X G fun _ _ _ _ _ _ us hl => match us, hl with | [_], _ => rfl) T
  have C_law_changes := ok_lchanges (P := l.prog) (w := w) (base := base) (A.d_law_changes.df (ps := ["_law_reference", "_law_spot", "_law_dot", "_law_begun_here"]) X G fun _ _ _ _ _ _ us hl => match us, hl with | [_, _, _, _], _ => rfl) T
  have C_law_done := ok_ldone (P := l.prog) (w := w) (base := base) (A.d_law_done.df (ps := ["_law_reference", "_law_mode", "_law_spot", "_law_dot", "_law_begun_here"]) X G fun _ _ _ _ _ _ us hl => match us, hl with | [_, _, _, _, _], _ => rfl) T C_law_other C_law_changes
  have C_law_read := ok_lread (P := l.prog) (w := w) (base := base) (A.d_law_read.df (ps := ["_law_reference", "_law_telling_here"]) X G fun _ _ _ _ _ _ us hl => match us, hl with | [_, _], _ => rfl) T C_law_done
  have C_law_row_of := ok_lrowof (P := l.prog) (w := w) (base := base) (A.d_law_row_of.df (ps := ["_law_wide", "_law_rows"]) X G fun _ _ _ _ _ _ us hl => match us, hl with | [_, _], _ => rfl) T
  have C_law_settled := ok_lsettled (P := l.prog) (w := w) (base := base) (A.d_law_settled.df (ps := ["_law_rows"]) X G fun _ _ _ _ _ _ us hl => match us, hl with | [_], _ => rfl) T
  have C_law_sets := ok_sets (P := l.prog) (w := w) (base := base) (A.d_law_sets.df (ps := ["_law_wide", "_law_tellings_here"]) X G fun _ _ _ _ _ _ us hl => match us, hl with | [_, _], _ => rfl) T C_law_all_rows C_law_read
  have C_law_goes_on := ok_goes (P := l.prog) (w := w) (base := base) (A.d_law_goes_on.df (ps := ["_law_row_here", "_law_spot", "_law_one"]) X G fun _ _ _ _ _ _ us hl => match us, hl with | [_, _, _], _ => rfl) T
  have C_law_any_mode := ok_any (P := l.prog) (w := w) (base := base) (A.d_law_any_mode.df (ps := ["_law_m", "_law_wide"]) X G fun _ _ _ _ _ _ us hl => match us, hl with | [_, _], _ => rfl) T C_law_next C_law_of
  have C_law_modes := ok_modes (P := l.prog) (w := w) (base := base) (A.d_law_modes.df (ps := ["_law_reference", "_law_row_here", "_law_spot", "_law_dot", "_law_begun_here"]) X G fun _ _ _ _ _ _ us hl => match us, hl with | [_, _, _, _, _], _ => rfl) T C_law_done
  have C_law_telling := ok_telling (P := l.prog) (w := w) (base := base) (A.d_law_telling.df (ps := ["_law_m", "_law_reference", "_law_row_here"]) X G fun _ _ _ _ _ _ us hl => match us, hl with | [_, _, _], _ => rfl) T C_law_of C_law_modes C_law_goes_on
  have C_law_tellings := ok_tellings (P := l.prog) (w := w) (base := base) (A.d_law_tellings.df (ps := ["_law_m", "_law_wide", "_law_bound"]) X G fun _ _ _ _ _ _ us hl => match us, hl with | [_, _, _], _ => rfl) T C_law_next C_law_of C_law_row C_law_near_row C_law_runs C_law_any_mode C_law_telling
  exact ok_law F T C_known C_sure_rows C_settled C_law_begun C_law_next C_law_tellings C_law_sets C_law_row_of C_law_settled
end Fx

open PySem PySem.W PyProof.Rows
set_option Elab.async false
set_option maxRecDepth 100000 in
set_option maxHeartbeats 0 in
theorem PySem.Challenge.cw_faxhouse_k60_whole_late_lines_holds : PySem.Challenge.rw_faxhouse_k60_whole_late_lines.Holds := by
  w_on; o_law; k_head; (case hw => w_witness2)
  k_fill
  refine Fx.walk_ofG (l := PySem.Challenge.rw_faxhouse_k60_whole_late_lines) (n := 63) (k := 7) (x := "_law_script") (sp := fun K => Fx.spLaw K) rfl (by decide) rfl ⟨rfl, by decide, by decide⟩ (fun w h Y => PySem.W.kIn_of Y) ?F (fun K H a ns hl hS => ⟨a, ns, rfl, hS, hl, fun _ => rfl⟩)
  case F =>
    intro w mg fa h KX G hmg
    refine Fx.all_mk KX G hmg ?A ?T
    case A =>
      constructor
      (case d_is_whole => refine' Fx.kf_mk ?a ?l ?c ?k; (case a => k_is); (case l => k_is); (case c => k_is); (case k => k_is))
      (case d_other_colour => refine' Fx.kf_mk ?a ?l ?c ?k; (case a => k_is); (case l => k_is); (case c => k_is); (case k => k_is))
      (case d_line_in => refine' Fx.kf_mk ?a ?l ?c ?k; (case a => k_is); (case l => k_is); (case c => k_is); (case k => k_is))
      (case d_is_full => refine' Fx.kf_mk ?a ?l ?c ?k; (case a => k_is); (case l => k_is); (case c => k_is); (case k => k_is))
      (case d_are_runs => refine' Fx.kf_mk ?a ?l ?c ?k; (case a => k_is); (case l => k_is); (case c => k_is); (case k => k_is))
      (case d_is_mode => refine' Fx.kf_mk ?a ?l ?c ?k; (case a => k_is); (case l => k_is); (case c => k_is); (case k => k_is))
      (case d_need_telling => refine' Fx.kf_mk ?a ?l ?c ?k; (case a => k_is); (case l => k_is); (case c => k_is); (case k => k_is))
      (case d_change_from => refine' Fx.kf_mk ?a ?l ?c ?k; (case a => k_is); (case l => k_is); (case c => k_is); (case k => k_is))
      (case d_change_back => refine' Fx.kf_mk ?a ?l ?c ?k; (case a => k_is); (case l => k_is); (case c => k_is); (case k => k_is))
      (case d_dots_of => refine' Fx.kf_mk ?a ?l ?c ?k; (case a => k_is); (case l => k_is); (case c => k_is); (case k => k_is))
      (case d_after_mode => refine' Fx.kf_mk ?a ?l ?c ?k; (case a => k_is); (case l => k_is); (case c => k_is); (case k => k_is))
      (case d_read_beside => refine' Fx.kf_mk ?a ?l ?c ?k; (case a => k_is); (case l => k_is); (case c => k_is); (case k => k_is))
      (case d_need_width => refine' Fx.kf_mk ?a ?l ?c ?k; (case a => k_is); (case l => k_is); (case c => k_is); (case k => k_is))
      (case d_lines_of_width => refine' Fx.kf_mk ?a ?l ?c ?k; (case a => k_is); (case l => k_is); (case c => k_is); (case k => k_is))
      (case d_need_late => refine' Fx.kf_mk ?a ?l ?c ?k; (case a => k_is); (case l => k_is); (case c => k_is); (case k => k_is))
      (case d_next_known => refine' Fx.kf_mk ?a ?l ?c ?k; (case a => k_is); (case l => k_is); (case c => k_is); (case k => k_is))
      (case d_known => refine' Fx.kf_mk ?a ?l ?c ?k; (case a => k_is); (case l => k_is); (case c => k_is); (case k => k_is))
      (case d_row_of => refine' Fx.kf_mk ?a ?l ?c ?k; (case a => k_is); (case l => k_is); (case c => k_is); (case k => k_is))
      (case d_rows_in => refine' Fx.kf_mk ?a ?l ?c ?k; (case a => k_is); (case l => k_is); (case c => k_is); (case k => k_is))
      (case d_sure_rows => refine' Fx.kf_mk ?a ?l ?c ?k; (case a => k_is); (case l => k_is); (case c => k_is); (case k => k_is))
      (case d_settled => refine' Fx.kf_mk ?a ?l ?c ?k; (case a => k_is); (case l => k_is); (case c => k_is); (case k => k_is))
      (case d_law_begun => refine' Fx.kf_mk ?a ?l ?c ?k; (case a => k_is); (case l => k_is); (case c => k_is); (case k => k_is))
      (case d_law_next => refine' Fx.kf_mk ?a ?l ?c ?k; (case a => k_is); (case l => k_is); (case c => k_is); (case k => k_is))
      (case d_law_of => refine' Fx.kf_mk ?a ?l ?c ?k; (case a => k_is); (case l => k_is); (case c => k_is); (case k => k_is))
      (case d_law_other => refine' Fx.kf_mk ?a ?l ?c ?k; (case a => k_is); (case l => k_is); (case c => k_is); (case k => k_is))
      (case d_law_row => refine' Fx.kf_mk ?a ?l ?c ?k; (case a => k_is); (case l => k_is); (case c => k_is); (case k => k_is))
      (case d_law_near_row => refine' Fx.kf_mk ?a ?l ?c ?k; (case a => k_is); (case l => k_is); (case c => k_is); (case k => k_is))
      (case d_law_all_rows => refine' Fx.kf_mk ?a ?l ?c ?k; (case a => k_is); (case l => k_is); (case c => k_is); (case k => k_is))
      (case d_law_runs => refine' Fx.kf_mk ?a ?l ?c ?k; (case a => k_is); (case l => k_is); (case c => k_is); (case k => k_is))
      (case d_law_changes => refine' Fx.kf_mk ?a ?l ?c ?k; (case a => k_is); (case l => k_is); (case c => k_is); (case k => k_is))
      (case d_law_done => refine' Fx.kf_mk ?a ?l ?c ?k; (case a => k_is); (case l => k_is); (case c => k_is); (case k => k_is))
      (case d_law_read => refine' Fx.kf_mk ?a ?l ?c ?k; (case a => k_is); (case l => k_is); (case c => k_is); (case k => k_is))
      (case d_law_row_of => refine' Fx.kf_mk ?a ?l ?c ?k; (case a => k_is); (case l => k_is); (case c => k_is); (case k => k_is))
      (case d_law_settled => refine' Fx.kf_mk ?a ?l ?c ?k; (case a => k_is); (case l => k_is); (case c => k_is); (case k => k_is))
      (case d_law_sets => refine' Fx.kf_mk ?a ?l ?c ?k; (case a => k_is); (case l => k_is); (case c => k_is); (case k => k_is))
      (case d_law_goes_on => refine' Fx.kf_mk ?a ?l ?c ?k; (case a => k_is); (case l => k_is); (case c => k_is); (case k => k_is))
      (case d_law_any_mode => refine' Fx.kf_mk ?a ?l ?c ?k; (case a => k_is); (case l => k_is); (case c => k_is); (case k => k_is))
      (case d_law_modes => refine' Fx.kf_mk ?a ?l ?c ?k; (case a => k_is); (case l => k_is); (case c => k_is); (case k => k_is))
      (case d_law_telling => refine' Fx.kf_mk ?a ?l ?c ?k; (case a => k_is); (case l => k_is); (case c => k_is); (case k => k_is))
      (case d_law_tellings => refine' Fx.kf_mk ?a ?l ?c ?k; (case a => k_is); (case l => k_is); (case c => k_is); (case k => k_is))
      (case d_law => refine' Fx.kf_mk ?a ?l ?c ?k; (case a => k_is); (case l => k_is); (case c => k_is); (case k => k_is))
    case T =>
      constructor
      (case white => refine' Fx.kc_str ?e; (case e => k_is))
      (case black => refine' Fx.kc_str ?e; (case e => k_is))
      (case mostWidth => refine' Fx.kc_int ?e; (case e => k_is))
      (case mostModes => refine' Fx.kc_int ?e; (case e => k_is))
      (case mostStay => refine' Fx.kc_int ?e; (case e => k_is))
      (case stay => refine' Fx.kc_str ?e; (case e => k_is))
      (case pas => refine' Fx.kc_str ?e; (case e => k_is))
      (case runs => refine' Fx.kc_str ?e; (case e => k_is))
      (case full => refine' Fx.kc_str ?e; (case e => k_is))
      (case unsure => refine' Fx.kc_str ?e; (case e => k_is))
      (case mostLate => refine' Fx.kc_int ?e; (case e => k_is))
      (case mostTellings => refine' Fx.kc_int ?e; (case e => k_is))
      (case b_isinstance => k_is)
      (case b_int => k_is)
      (case b_bool => k_is)
      (case b_str => k_is)
      (case b_tuple => k_is)
      (case b_list => k_is)
      (case b_set => k_is)
      (case b_all => k_is)
      (case b_sum => k_is)
      (case b_len => k_is)
      (case b_range => k_is)
      (case b_enumerate => k_is)
      (case b_sorted => k_is)
      (case b_repr => k_is)
      (case b_min => k_is)
