import PyProof.Rows.All
import Wide.All
import OpenK.AllK
import Wide.FinOn
import PyProof.NeKinds
import PyProof.ReprRoads
import HandS.ForMost
import HandS.Deep
import HandS.TupSets
import KE.GoesEnum
import KE.GoesMore
import HandS.Walk
import PyProof.DictCompW
import HandS.DictComp
import HandS.SetBool
import HandS.Strs
import KE.KMinKey
import KE.KDictWalk
import HandS.TupMul
import HandS.SortKw
import Wide.Seal
import PyProof.Rows.SortShell
import PyProof.Rows.SortKey
import KE.KSortTup
import PyProof.IsInstanceT
import PyProof.IsiTuple
import PyProof.MinMaxWalk
import PyProof.DictWalks
import PyProof.DictRoads
import PyProof.DictStraight
import PyProof.WalksMore
import PyProof.ListOps
import KE.KDictPairs
import KE.KDictKeyed
import HandS.Conv
import PyProof.TupleCall
import HandS.Ends
import HandS.Evl
import HandS.IsInst
import HandS.Wide
import HandS.Style
import HandS.TryOnly
import PyProof.P3Eq
import PyProof.ReprLen
import PySem.Challenge.RW_orderwide_k50_rows_common_to_many_lists
set_option Elab.async false
set_option linter.all false
set_option maxRecDepth 100000
set_option maxHeartbeats 4000000
/-! Further rules over the hand layer: either of two walks, lists held against [], the texts of nested data. -/
namespace Mv
open PySem PySem.Spec PyProof.Rows L2
section
variable {X : Cx}
/-- either of two ways to walk one thing -/
theorem pi_either {tg it : Expr} {w1 w2 : TI} (a : PI X tg it w1) (b : PI X tg it w2) : PI X tg it (fun σ H R => w1 σ H R ∨ w2 σ H R) :=
  ⟨fun pins s σ H R I h => h.elim (a.run pins s σ H R I) (b.run pins s σ H R I)⟩
theorem pe_either {e : Expr} {t1 t2 : TE} (a : PE X e t1) (b : PE X e t2) : PE X e (fun σ H Q => t1 σ H Q ∨ t2 σ H Q) :=
  ⟨fun pins s σ H Q I h => h.elim (a.run pins s σ H Q I) (b.run pins s σ H Q I)⟩
/-- a list or a tuple, walked -/
def iSeq (K : PySem.W.Frag) (tl : TE) : TI := fun σ H R => iList K tl σ H R ∨ iTup K tl σ H R
theorem pi_seq {tg l : Expr} {tl : TE} (h : PE X l tl) : PI X tg l (iSeq X.K tl) := pi_either (pi_list h) (pi_tup h)

/-! ### a list against an empty one -/
def rNilEq (K : PySem.W.Frag) (neg : Bool) : R2 := fun x y H Q => ∃ (a b : Addr) (xs : List V), x = .ref a ∧ y = .ref b ∧ SqL K H a xs ∧ SqL K H b [] ∧ Q (.bl (if neg = true then !xs.isEmpty else xs.isEmpty)) H
theorem nil_raw {pins : List (Addr × Obj)} {σ : L2.St} {H : Hp} {s : Shared} {a : Addr} {xs : List V} (I : Inv X pins σ H s) (h : SqL X.K H a xs) :
    ∃ its : Array Value, s.heap.IsList a its ∧ its.size = xs.length := by
  obtain ⟨its, r, p, _⟩ := I.list h
  exact ⟨its.toArray, p.isList, by rw [List.size_toArray]; exact r.length.symm⟩
theorem op_eqNil (hu : X.A.units < cLine) : OpR X (compareOp .Eq) (rNilEq X.K false) := by
  intro pins s σ H x y v u Q I rx ry h
  obtain ⟨a, b, xs, rfl, rfl, ha, hb, q⟩ := h
  cases rx
  cases ry
  obtain ⟨i1, l1, z1⟩ := nil_raw I ha
  obtain ⟨i2, l2, z2⟩ := nil_raw I hb
  have z2 : i2.size = 0 := z2
  cases xs with
  | nil =>
    have z1 : i1.size = 0 := z1
    refine PySem.SeqAt.eq_listAt (e := fun _ => true) l1 l2 (z1.trans z2.symm) hu (fun j h1 _ => absurd h1 (by omega)) ⟨.bl _, H, I, rfl, ?_⟩
    have e : ((List.range i1.size).all fun _ => true) = true := by simp
    rw [e]
    exact q
  | cons x r =>
    have z1 : i1.size = r.length + 1 := z1
    exact PySem.SeqAt.eq_list_lengthsAt l1 l2 (by rw [bne_iff_ne]; omega) hu ⟨.bl _, H, I, rfl, q⟩
theorem op_neNil (hu : X.A.units < cLine) : OpR X (compareOp .NotEq) (rNilEq X.K true) := by
  intro pins s σ H x y v u Q I rx ry h
  obtain ⟨a, b, xs, rfl, rfl, ha, hb, q⟩ := h
  cases rx
  cases ry
  obtain ⟨i1, l1, z1⟩ := nil_raw I ha
  obtain ⟨i2, l2, z2⟩ := nil_raw I hb
  have z2 : i2.size = 0 := z2
  cases xs with
  | nil =>
    have z1 : i1.size = 0 := z1
    have e : ((List.range i1.size).all fun _ => true) = true := by simp
    refine PySem.SeqAt.RcNeAt.lists (e := fun _ => true) l1 l2 (z1.trans z2.symm) hu (fun j h1 _ => absurd h1 (by omega)) _ _ _ _ ⟨.bl _, H, I, rfl, ?_⟩
    rw [e]
    exact q
  | cons x r =>
    have z1 : i1.size = r.length + 1 := z1
    exact PySem.SeqAt.RcNeAt.lists_lengths l1 l2 (by rw [bne_iff_ne]; omega) hu _ _ _ _ ⟨.bl _, H, I, rfl, q⟩

/-! ### the text of nested data (nothing else is being written out) -/
def rRepr (K : PySem.W.Frag) : List V → Hp → VK → Prop := fun xs H Q => ∃ (a : Addr) (d : PyData), xs = [.ref a] ∧ Dp K H (.ref a) d ∧ d.showable = true ∧ d.hasDict = false ∧ d.depth ≤ 60 ∧ d.shown.length ≤ sizeLine ∧ Q (.str d.shown) H
theorem call_repr (hg : X.A.guards = some []) (hu : X.A.units + 64 < cLine) : CallR X (.builtin "repr") (rRepr X.K) := by
  intro pins s σ H xs us Q I r h
  obtain ⟨a, d, rfl, hd, hs, hn, hz, hl, q⟩ := h
  cases r with
  | cons ra rt =>
    cases rt
    cases ra
    obtain ⟨as, rd⟩ := Dp.reads I d _ _ hd rfl
    exact repr_of_reads' rd hs (fun z => by rw [hn] at z; cases z) hg (by omega) (fun b o e => e) (fun h' u tk k => ⟨.str d.shown, H, I.kept k, ⟨u, rfl⟩, q⟩) hl
end
end Mv
/-! enumerate of a tuple that stays. -/
namespace Mv
open PySem PySem.Spec PyProof.Rows L2
open AutoSeq1 (wpAny_loadPart')
/-- what enumerate(a tuple) makes: its own record behind the tuple's iterator -/
theorem enum_new_tup (l : Addr) (items : Array Value) :
    Meets (Builtin.«enumerate.__new__» ⟨[.type "enumerate", .ref l], []⟩) (fun _ R s => s.heap.IsTuple l items ∧
      R (.ok (.ret (.ref (s.heap.push { cls := .type "tuple_iterator", data := .fields #[.ref l, .int 0 0] }).objs.size)))
        { s with heap := (s.heap.push { cls := .type "tuple_iterator", data := .fields #[.ref l, .int 0 0] }).push { cls := .type "enumerate", data := .fields #[.none, .bool false, .ref s.heap.objs.size, rawInt 0, .none, .none] } }) :=
  .of_wp fun prog w A R s h => by
    obtain ⟨hp, g, d, tk, os⟩ := s
    obtain ⟨hl, h⟩ := h
    have hsub := sub_enumerate
    have q1 : ∀ {A' : Around} {E : Value → Shared → Prop} {Q : Value → Shared → Prop}, Q (.ref hp.objs.size) ⟨hp.push { cls := .type "tuple_iterator", data := .fields #[.ref l, .int 0 0] }, g, d, tk, os⟩ →
        wpAny (model prog w) A' (pyIter (.ref l)) Q E ⟨hp, g, d, tk, os⟩ := fun q => (begins_tuple l items).iter prog w _ _ ⟨hp, g, d, tk, os⟩ _ hl q
    wp_walk using q1
    refine wpAny_stack_any fun st => wpAny_pure ?_
    split
    · rename_i c _ _ _ _ _
      cases (c == Value.type "enumerate") <;> (wp_walk using q1; exact ⟨_, rfl, h⟩)
    · wp_walk using q1
      exact ⟨_, rfl, h⟩
theorem enum_call_tup {prog : Program} {w : World} {A : Around} {E : Value → Shared → Prop} {s : Shared} {l : Addr} {items : Array Value} {Q : Value → Shared → Prop} (hL : s.heap.IsTuple l items)
    (h : ∀ h', IsEnum h' (s.heap.objs.size + 1) s.heap.objs.size 0 .none → h'.IsTupleIter s.heap.objs.size l 0 → (∀ b o, s.heap.get? b = some o → h'.get? b = some o) → Q (.ref (s.heap.objs.size + 1)) { s with heap := h' }) :
    wpAny (model prog w) A (call (.type "enumerate") [.ref l]) Q E s := by
  refine callType_new F.called_enumerate (by decide) (F.typeCall_enumerate_1 _) (F.newCall_enumerate_1 _) (fun obj => F.args_object_init_2 obj _) F.entry_enumerate_new (enum_new_tup l items) ⟨hL, ?_⟩
  generalize ho1 : ({ cls := .type "tuple_iterator", data := .fields #[.ref l, .int 0 0] } : Obj) = o1
  generalize ho2 : ({ cls := .type "enumerate", data := .fields #[.none, .bool false, .ref s.heap.objs.size, rawInt 0, .none, .none] } : Obj) = o2
  have hz : (s.heap.push o1).objs.size = s.heap.objs.size + 1 := Heap.size_push ..
  show _ ∧ _
  rw [hz]
  have g2 : ((s.heap.push o1).push o2).get? (s.heap.objs.size + 1) = some o2 := by
    rw [← hz]
    exact Heap.get?_push_size _ (by rw [← ho2] <;> rfl)
  have g1 : ((s.heap.push o1).push o2).get? s.heap.objs.size = some o1 := Heap.get?_push_of_some _ (Heap.get?_push_size _ (by rw [← ho1] <;> rfl))
  have he : IsEnum ((s.heap.push o1).push o2) (s.heap.objs.size + 1) s.heap.objs.size 0 .none := by
    rw [← ho2] at g2 ⊢
    exact g2
  exact ⟨⟨_, he, rfl⟩, h _ he ⟨o1, g1, by rw [← ho1], by rw [← ho1] <;> rfl⟩ fun b o x => Heap.get?_push_of_some _ (Heap.get?_push_of_some _ x)⟩

/-- turn i gives out a new pair of i and the i-th item -/
def ItU (K : PySem.W.Frag) (a : Addr) : It where
  go i H := ∃ (xs : List V) (x : V), SqT K H a xs ∧ xs[i]? = some x
  yld i H v H' := ∃ (T : Addr) (x : V), v = .ref T ∧ H T = none ∧ H' = upd H T (.tup [.int (i : Nat), x]) ∧ ∀ xs, SqT K H a xs → xs[i]? = some x
  stop i H := ∃ xs : List V, SqT K H a xs ∧ xs.length = i
structure EnSt (a e it : Addr) (i : Nat) (h : Heap) : Prop where
  en : ∃ old, IsEnum h e it (i : Nat) old
  ti : h.IsTupleIter it a i
  n1 : e ≠ it
  n2 : a ≠ it
  n3 : a ≠ e
theorem turn_enumU {P : Program} {w : World} {K : PySem.W.Frag} {elts : List Expr} {kk : Nat} {tpos : Pos} (a e it : Addr) : Turn P w K (.Tuple elts kk tpos) (ItU K a) [e, it] e (EnSt a e it) where
  mem := List.mem_cons_self
  obj i h st b hb := by
    obtain ⟨old, he⟩ := st.en
    rcases List.mem_cons.mp hb with z | z
    · rw [z]
      exact ⟨_, he, fun v q => nomatch q⟩
    · rw [List.mem_singleton.mp z]
      obtain ⟨o, ho, _, hd⟩ := st.ti
      exact ⟨o, ho, fun v q => by rw [hd] at q; cases q⟩
  keep i h h' st k := by
    obtain ⟨old, he⟩ := st.en
    exact ⟨⟨old, k e List.mem_cons_self _ he⟩, st.ti.at fun o q => k it (by simp) o q, st.n1, st.n2, st.n3⟩
  item := by
    intro X hP hw hK hc i pins s σ H E I hf st hg
    subst hP hw hK
    obtain ⟨old, he⟩ := st.en
    obtain ⟨xs, x, hq, hx⟩ := hg
    obtain ⟨its, rv, p, hz⟩ := I.tuple hq
    obtain ⟨u, hu, ru⟩ := rv.get hx
    have p : s.heap.IsTuple a its.toArray := p
    have hin : i < its.toArray.size := by
      rw [List.size_toArray]
      exact (List.getElem?_eq_some_iff.mp hu).1
    have lt1 : e < s.heap.objs.size := Heap.lt_size he
    have lt2 : it < s.heap.objs.size := let ⟨_, q, _⟩ := st.ti; Heap.lt_size q
    have nfp : e ∉ [it, a] := by
      intro z
      rcases List.mem_cons.mp z with z | z
      · exact st.n1 z
      · exact st.n3 (List.mem_singleton.mp z).symm
    refine wpAny_pyNext_enum_itemC (Draws.tuple (prog := X.prog) (w := X.w) (A := X.A.in1) (show X.A.in1.handled = none from I.ok.hd hc) it a st.n2 its.toArray) he ⟨st.ti, p⟩ hin st.n1 nfp fun y h' tk hy ho hst hT hsz hk => ?_
    have ey : y = u := by
      have hy' : its[i]? = some y := by simpa using hy
      rw [hu] at hy'
      exact (Option.some.inj hy').symm
    subst ey
    refine ⟨_, rfl, wpAny_letOwnedTupleGo_enum (s := { s with heap := h', toks := tk + 1 }) ho fun h'' he' sb => ?_⟩
    have far : ∀ b o, b ∉ [e, it] → s.heap.get? b = some o → h''.get? b = some o := fun b o hb q =>
      (sb.2 b fun z => hb (by simp [z])).trans (hk b o (fun z => hb (by simp [z])) (fun z => hb (by simp [z])) q)
    have hT2 := (sb.2 _ (Nat.ne_of_gt lt1)).trans hT
    have I1 : Inv X pins σ (upd H s.heap.objs.size (.tup [.int (i : Nat), x])) { s with heap := h'', toks := tk + 1 } :=
      I.turnedNew far hf (Nat.le_refl _) ⟨by show 2 ≤ sizeLine; decide, [.int i tk, y], .cons ⟨tk, rfl⟩ (.cons ru .nil), ⟨_, hT2, rfl, _, rfl⟩⟩
    refine ⟨.ref s.heap.objs.size, _, I1, rfl, ⟨_, x, rfl, I.hok.fresh (Nat.le_refl _), rfl, fun ys hy => by rw [I.tuple_inj hy hq]; exact hx⟩, ⟨⟨y, ?_⟩, hst.1.at fun o q => (sb.2 it st.n1.symm).trans q, st.n1, st.n2, st.n3⟩, fun b hb => ?_⟩
    · have e1 : ((i + 1 : Nat) : Int) = (i : Int) + 1 := Int.natCast_succ i
      rw [e1]
      exact he'
    · have : b < s.heap.objs.size := by
        rcases List.mem_cons.mp hb with z | z
        · rw [z]; exact lt1
        · rw [List.mem_singleton.mp z]; exact lt2
      rw [upd_ne (Nat.ne_of_lt this)]
      exact (hf b hb).1
  done := by
    intro X hP hw hK hc i pins s σ H E I hf st hg
    subst hP hw hK
    obtain ⟨old, he⟩ := st.en
    obtain ⟨xs, hq, hx⟩ := hg
    obtain ⟨its, rv, p, hz⟩ := I.tuple hq
    obtain ⟨f0, f1, f2, f3, f4, f5⟩ := hf it (by simp)
    have hn : its.toArray.size = i := by rw [List.size_toArray, ← rv.length, hx]
    have hst : s.heap.IsTupleIter it a its.toArray.size ∧ s.heap.IsTuple a its.toArray := by
      rw [hn]
      exact ⟨st.ti, p⟩
    exact wpAny_pyNext_enum_endD (Draws.tuple (prog := X.prog) (w := X.w) (A := X.A.in1) (show X.A.in1.handled = none from I.ok.hd hc) it a st.n2 its.toArray) he hst fun h' eb => ⟨rfl, I.turned (t' := s.toks) (fun b o hb q => eb b o hb q) f0 f1 f3 f4 f5⟩
  self := fun A i s Q E st h => let ⟨_, he⟩ := st.en; wpAny_pyIter_enum he h
def iEnumU (K : PySem.W.Frag) (ta : TA) : TI := fun σ H R => ta σ H fun vs H1 => ∃ a xs, vs = [.ref a] ∧ SqT K H1 a xs ∧ R (ItU K a) H1
theorem pi_enumU {X : Cx} {e : Expr} {ta : TA} {p pos tpos : Pos} {elts : List Expr} {kk : Nat} (hg : Gl X "enumerate") (hm : X.mg "enumerate" = none) (ha : PA X [e] ta) (hs : starEach [e] X.env = [(false, eval e X.env)] := by rfl) :
    PI X (.Tuple elts kk tpos) (.Call (.Name "enumerate" p) [e] [] pos) (iEnumU X.K ta) where
  run pins s σ H R I h := by
    refine Call_ (ld_blt I hg hm boot_enumerate (PyProof.Rows.callWith_type1 (thn (ha.run pos pins s σ H _ I h) fun us s1 ⟨vs, H1, I1, r1, a, xs, ex, hq, q⟩ => ?_) hs rfl))
    subst ex
    cases r1 with
    | cons r rr =>
      cases rr
      cases r
      obtain ⟨its, rv, p', hz⟩ := I1.tuple hq
      have p' : s1.heap.IsTuple a its.toArray := p'
      have la : a < s1.heap.objs.size := let ⟨_, o, _⟩ := p'; Heap.lt_size o
      refine enum_call_tup p' fun h' he hit hk => wpAny_pyIter_enum he ?_
      have I2 : Inv X pins σ H1 { s1 with heap := h' } := I1.kept (t' := s1.toks) hk
      refine ⟨_, [s1.heap.objs.size + 1, s1.heap.objs.size], _, _, H1, rfl, I2, turn_enumU a (s1.heap.objs.size + 1) s1.heap.objs.size,
        ⟨⟨.none, he⟩, hit, Nat.succ_ne_self _, Nat.ne_of_lt la, Nat.ne_of_lt (Nat.lt_succ_of_lt la)⟩, fun b hb => ?_, q⟩
      have hle : s1.heap.objs.size ≤ b := by
        rcases List.mem_cons.mp hb with z | z
        · rw [z]; exact Nat.le_succ _
        · rw [List.mem_singleton.mp z]; exact Nat.le_refl _
      exact I1.fpOk hle (I1.hok.fresh hle)
theorem walk_enumU {K : PySem.W.Frag} {a : Addr} {xs : List V} : Walk (ItU K a) xs.length (fun H => SqT K H a xs) (YPair (fun i => some (.int (i : Nat))) (fun i => xs[i]?)) where
  goes i _ hi q := ⟨xs, xs[i], q, by simp [hi]⟩
  stops _ q := ⟨xs, q, rfl⟩
  yields i H v H' _ q y := let ⟨T, x, h1, h2, h3, h4⟩ := y; ⟨T, .int (i : Nat), x, h1, h2, h3, rfl, h4 xs q⟩
end Mv
/-! Comprehensions that fill a dict (any keys that the layer tracks) or a set of ints: one walk for both, the sink left open. -/
namespace Mv
open PySem PySem.Spec PyProof.Rows L2
/-- what an element does to the thing that is made, in a block: Nx is wanted of the heap behind it -/
abbrev TK := Addr → L2.St → Hp → (Hp → Prop) → Prop
/-- {.. for tg in iter if ..}: ob0 D the empty thing at D -/
def tCm (ob0 : Addr → HO) (wi : TI) (g : TG) (tt : TT) (tk : TK) (vs : List Nat) : TE := fun σ H Q => wi σ H fun J H1 => ∀ D, H1 D = none → ∃ W : Nat → Nat → Hp → Prop, (∃ m, W 0 m (upd H1 D (ob0 D))) ∧
  ∀ i m H, W i m H → (J.stop i H ∧ Q (.ref D) H) ∨ (J.go i H ∧ ∃ Nx : Hp → Prop, (∀ H', Nx H' → ∃ m', m' < m ∧ W (i + 1) m' H') ∧
    ∀ x H', J.yld i H x H' → g x (wipe σ vs) H' fun σ2 H2 => wipe σ2 vs = wipe σ vs ∧ tt σ2 H2 fun b H3 => if b = true then tk D σ2 H3 Nx else Nx H3)
abbrev Stp := Env → Addr → (Shared → Prop) → (Value → Shared → Prop) → Shared → Prop
/-- the model's own turn of such a comprehension c over one clause, its element's effect as stp -/
structure CmRun (P : Program) (w : World) (A : Around) (c tg : Expr) (ifs : List Expr) (stp : Stp) : Prop where
  loop : ∀ (R : Result → Shared → Prop) (s : Shared) (it : Value) (D : Addr) (env : Env) (In : Nat → Shared → Prop),
    (∀ n s, In n s → wpAny (model P w) A (pyNext it) (fun r s₁ => match r with
      | none => R (.ok .next) s₁
      | some v => wpAny (model P w) A (letOwnedTupleGo tg it v) (fun _ s₁' => wpAny (model P w) A (assign tg env v) (fun _ s₂ =>
          wpAny (model P w) A (forIn ifs true fun c r => if r = true then do let ok ← isTrue c env (eval c env); pure (ForInStep.yield ok) else pure (ForInStep.yield r)) (fun ok s₃ =>
            if ok = true then stp env D (fun s₆ => ∃ m, m < n ∧ In m s₆) (notedBy (model P w) A env fun e s' => R (.error e) s') s₃
            else ∃ m, m < n ∧ In m s₃) (notedBy (model P w) A env fun e s' => R (.error e) s') s₂) (notedBy (model P w) A env fun e s' => R (.error e) s') s₁') (notedBy (model P w) A env fun e s' => R (.error e) s') s₁) (notedBy (model P w) A env fun e s' => R (.error e) s') s) →
    ∀ n, In n s → codeAny (model P w) A (.compLoop c 0 it (.ref D) env) R s
  start : ∀ (R : Result → Shared → Prop) (s : Shared) (it acc : Value) (env : Env), codeAny (model P w) A (.compLoop c 0 it acc env) R s →
    wpAny (model P w) A (pyIter it) (fun it' s' => codeAny (model P w) A (.compLoop c 0 it' acc env) R s') (notedBy (model P w) A env fun x s' => R (.error x) s') s → codeAny (model P w) A (.compStart c 0 it acc env) R s
section
variable {X : Cx}
theorem cm_core {pins : List (Addr × Obj)} {s : Shared} {σ : L2.St} {H : Hp} {Q : VK} {c tg iter : Expr} {ifs : List Expr} {scope : Scope} {own : List (Str × Nat)} {pos' : Pos} {wi : TI} {g : TG} {tt : TT} {tk : TK}
    {ob0 : Addr → HO} {obj : Obj} {new : Sem Value} {stp : Stp} {Qf : Value → Shared → Prop} (hcl : clausesOf c = [⟨tg, iter, ifs, 0⟩])
    (hc : X.calm = true) (hN : X.N.Nodup) (I : Inv X pins σ H s) (hi : PI X tg iter wi) (ok : BlkOk X.N X.env.scope scope own)
    (hnew : ∀ (s : Shared) (Q : Value → Shared → Prop) (E : Value → Shared → Prop), Q (.ref s.heap.objs.size) { s with heap := s.heap.push obj } → wpAny (model X.prog X.w) X.A new Q E s) (hfr : obj.isFreed = false)
    (hob : ∀ (H : Hp) (h : Heap), sysModules < h.objs.size → ObjOk X.prog X.w H (h.push obj) h.objs.size (ob0 h.objs.size))
    (run : CmRun X.prog X.w X.A c tg ifs stp)
    (hg : ∀ (s : Shared) (H : Hp) (C : Addr) (cl : List (Str × Addr)) (fp : List Addr), PG (X.blk s H scope (compEnvC scope cl C X.env) fp) tg g)
    (ht : ∀ (s : Shared) (H : Hp) (C : Addr) (cl : List (Str × Addr)) (fp : List Addr), PTs (X.blk s H scope (compEnvC scope cl C X.env) fp) ifs tt)
    (hk : ∀ (s : Shared) (H : Hp) (C : Addr) (cl : List (Str × Addr)) (fp : List Addr) (pn : List (Addr × Obj)) (s2 : Shared) (σ2 : L2.St) (H2 : Hp) (D : Addr) (Nx : Hp → Prop) (Pq : Shared → Prop) (E : Value → Shared → Prop),
      Inv (X.blk s H scope (compEnvC scope cl C X.env) fp) pn σ2 H2 s2 → tk D σ2 H2 Nx → (∀ s' H', Inv (X.blk s H scope (compEnvC scope cl C X.env) fp) pn σ2 H' s' → Nx H' → Pq s') → stp (compEnvC scope cl C X.env) D Pq E s2)
    (hs : ∀ x, foldedSetIterable iter X.env x = pure x) (h : tCm ob0 wi g tt tk (own.map (·.2)) σ H Q)
    (back : ∀ D C s' m H', Inv X pins σ H' s' → Q (.ref D) H' → s'.heap.Ns C m → FpOk X pins H' C → compPost (model X.prog X.w) X.A X.xe none Qf (.ref D) C (.ok .next) s') :
    wpAny (model X.prog X.w) X.A (comprehension c scope X.env pos' new false (eval iter X.env) none) Qf X.xe s := by
  have hfree : ∀ y ∈ scope.names, y.2 = .free → ∃ a, X.env.cells.lookup y.1 = some a := fun y hy e => (ok.free y hy e).elim (fun k => I.ok.has _ (.inl k)) fun k => I.ok.has _ (.inr k)
  refine wpAny_comprehension_free (use := none) hcl hs (closure_ok hfree) ok.kind (fun y hy e => by rw [ok.uniq y hy, e]) (thn (hi.run pins s σ H _ I h) fun xv s1 hx => thn hx fun itv s2 h2 => ?_)
  obtain ⟨it, fp, tn, J, H2, rfl, I2, T, st2, f2, q⟩ := h2
  refine hnew s2 _ _ (newEnv_comp ?_)
  generalize hD : s2.heap.objs.size = D
  obtain ⟨W, ⟨m0, w0⟩, turn⟩ := q D (I2.hok.fresh (Nat.le_of_eq hD))
  generalize hs3 : ({ s2 with heap := s2.heap.push obj } : Shared) = s3
  have h3 : s3.heap = s2.heap.push obj := by rw [← hs3]
  have up : ∀ b o, s2.heap.get? b = some o → s3.heap.get? b = some o := fun b o e => by
    rw [h3]
    exact Heap.get?_push_of_some _ e
  have I3 : Inv X pins σ (upd H2 D (ob0 D)) s3 := by
    rw [← hs3]
    refine I2.laid (t' := s2.toks) (fun b o e => Heap.get?_push_of_some _ e) (Nat.le_of_eq hD) ?_
    rw [← hD]
    exact hob _ s2.heap I2.big
  have f3 : ∀ b ∈ fp, FpOk X pins (upd H2 D (ob0 D)) b ∧ b < s3.heap.objs.size := fun b hb => by
    obtain ⟨o, e, _⟩ := T.obj _ _ st2 b hb
    have lt : b < s2.heap.objs.size := Heap.lt_size e
    have ne : b ≠ D := hD ▸ Nat.ne_of_lt lt
    exact ⟨⟨(upd_ne ne).trans (f2 b hb).1, (f2 b hb).2⟩, by rw [h3, Heap.size_push]; exact Nat.lt_succ_of_lt lt⟩
  have st3 : tn 0 s3.heap := T.keep _ _ _ st2 fun b _ => up b
  have I4 := block_start I3 ok hN f3
  show codeAny _ _ (.compStart c 0 (.ref it) (.ref D) (compEnvC scope (cellsFrom (s3.heap.objs.size + 1) scope.names (cloFrom X.env.cells scope.names [])) s3.heap.objs.size X.env)) (compPost (model X.prog X.w) X.A X.xe none Qf (.ref D) s3.heap.objs.size)
    { s3 with heap := pushCells (s3.heap.push { cls := .type "dict", data := .dict #[] }) scope.names }
  generalize hcl : cellsFrom (s3.heap.objs.size + 1) scope.names (cloFrom X.env.cells scope.names []) = cells at I4 ⊢
  generalize hH3 : upd H2 D (ob0 D) = H3 at I3 I4 w0 f3
  have pg := hg s3 H3 s3.heap.objs.size cells fp
  have pt := ht s3 H3 s3.heap.objs.size cells fp
  have pk := hk s3 H3 s3.heap.objs.size cells fp
  generalize hce : compEnvC scope cells s3.heap.objs.size X.env = ce at I4 pg pt pk ⊢
  have cL : ce.locals = s3.heap.objs.size := by rw [← hce] <;> rfl
  generalize hs4 : ({ s3 with heap := pushCells (s3.heap.push { cls := .type "dict", data := .dict #[] }) scope.names } : Shared) = s4 at I4 ⊢
  have st4 : tn 0 s4.heap := T.keep _ _ _ st3 fun b _ o e => by
    rw [← hs4]
    exact pushCells_keeps _ _ _ _ (Heap.get?_push_of_some _ e)
  have stat : ∀ {σ' : L2.St} {H' : Hp} {s' : Shared}, Inv (X.blk s3 H3 scope ce fp) [] σ' H' s' → (∀ b ∈ fp, H' b = none) → ∀ b ∈ fp, FpOk (X.blk s3 H3 scope ce fp) [] H' b := fun I' hn b hb =>
    ⟨hn b hb, (I'.ok.exf b hb).1, I'.ok.exfs b hb, .inl hb, fun x a e => (I'.ok.exf b hb).2 x a e, fun p hp => nomatch (show p ∈ ([] : List (Addr × Obj)) from hp)⟩
  have loop : codeAny (model X.prog X.w) X.A (.compLoop c 0 (.ref it) (.ref D) ce) (compPost (model X.prog X.w) X.A X.xe none Qf (.ref D) s3.heap.objs.size) s4 := by
    refine run.loop _ s4 _ D ce (fun n s' => ∃ i H', Inv (X.blk s3 H3 scope ce fp) [] (wipe σ (own.map (·.2))) H' s' ∧ tn i s'.heap ∧ (∀ b ∈ fp, H' b = none) ∧ W i n H') ?_ m0 ⟨0, H3, I4, st4, fun b hb => (f3 b hb).1.1, w0⟩
    rintro n s5 ⟨i, H5, I5, st5, n5, w5⟩
    rcases turn i n H5 w5 with ⟨stop, qq⟩ | ⟨go, Nx, hNx, step⟩
    · refine thnF (T.done (X.blk s3 H3 scope ce fp) rfl rfl rfl hc i [] s5 _ H5 (fun _ _ => False) I5 (stat I5 n5) st5 stop) fun r s6 ⟨hr, I6⟩ => ?_
      subst hr
      have I7 : Inv X pins σ H5 s6 := I3.call' (ch := fp) I6.os I6.base I6.hok I6.bare fun b hb => let f := (f3 b hb).1; ⟨f.2.2.2.1, f.2.1, f.2.2.2.2.1, f.2.2.2.2.2⟩
      have nC : H5 ce.locals = none := I6.free
      obtain ⟨m, hn, _⟩ := I6.loc
      have hn : s6.heap.Ns ce.locals m := hn
      rw [cL] at nC hn
      exact back D _ s6 m H5 I7 qq hn (I3.fpOk (Nat.le_refl _) nC)
    · refine thnF (T.item (X.blk s3 H3 scope ce fp) rfl rfl rfl hc i [] s5 _ H5 (fun _ _ => False) I5 (stat I5 n5) st5 go) fun r s6 ⟨u, hr, h6⟩ => ?_
      subst hr
      refine thnF h6 fun _ s7 ⟨x, H7, I7, r7, y7, st7, n7⟩ => ?_
      refine thnF (pg.run _ s7 _ H7 x u _ (I7.pinned (stat I7 n7) (T.obj _ _ st7)) r7 (step x H7 y7)) fun _ s8 ⟨σ8, H8, I8, hw8, q8⟩ => ?_
      refine thnF (pt.run _ s8 σ8 H8 _ I8 q8) fun b s9 ⟨H9, I9, q9⟩ => ?_
      have fin : ∀ (s' : Shared) (H' : Hp), Inv (X.blk s3 H3 scope ce fp) ([] ++ pinsAt fp s7.heap) σ8 H' s' → Nx H' → ∃ m, m < n ∧ ∃ i H', Inv (X.blk s3 H3 scope ce fp) [] (wipe σ (own.map (·.2))) H' s' ∧ tn i s'.heap ∧ (∀ b ∈ fp, H' b = none) ∧ W i m H' := fun s' H' I' nx => by
        obtain ⟨m', hm, w'⟩ := hNx H' nx
        have pin : ∀ b ∈ fp, ∀ o, s7.heap.get? b = some o → s'.heap.get? b = some o ∧ H' b = none := fun b hb o e =>
          let z := I'.pin (b, o) (List.mem_append_right _ (List.mem_append_right _ (mem_pinsAt hb e))); ⟨z.1, z.2.1⟩
        refine ⟨m', hm, i + 1, H', (I'.unpinned (pins := [])).weak (by rw [← hw8, wipe_length]) (fun j v e => ?_), T.keep _ _ _ st7 fun b hb o e => (pin b hb o e).1, fun b hb => ?_, w'⟩
        · rw [← hw8] at e
          exact (wipe_some e).1
        · obtain ⟨o, e, _⟩ := T.obj _ _ st7 b hb
          exact (pin b hb o e).2
      cases b with
      | false => exact fin s9 H9 I9 q9
      | true => exact pk _ s9 σ8 H9 D Nx _ _ I9 q9 fin
  exact run.start _ _ _ _ _ loop (T.self X.A 0 _ _ _ st4 loop)
end
end Mv
namespace Mv
open PySem PySem.Spec PyProof.Rows L2
section
variable {X : Cx}
/-! ### a dict by a comprehension -/
theorem dictSet_put {pins : List (Addr × Obj)} {σ : L2.St} {H H' : Hp} {s : Shared} {E : Value → Shared → Prop} {D : Addr} {y v : V} {u r : Value} {Q : Unit → Shared → Prop} (hu : X.A.units < cLine) (I : Inv X pins σ H s) (g : DPut H D y v H') (ry : RelV y u) (rv : RelV v r)
    (h : ∀ s', Inv X pins σ H' s' → Q () s') : wpAny (model X.prog X.w) X.A (dictSet D u r) Q E s := by
  rcases g with ⟨kvs, k, e, rfl, l, rfl⟩ | ⟨kvs, k, b, e, rfl, eb, l, rfl⟩
  · exact d_dictSet I e l ry rv h
  · cases (show u = Value.ref b from ry)
    obtain ⟨z, hd, xs, rel, dd⟩ := dt_of I.hok e
    have hz : xs.length ≤ sizeLine := Paired.length rel ▸ z
    have hl : (putK kvs k v).length ≤ sizeLine := Nat.le_trans (length_putK kvs k v) l
    refine wpAny_dictSet_heap (hsz := hz) (knd := tupleKind (mixKind X.prog X.w)) hu (key_of I.hok eb) dd fun h' dd' hs => h _ ?_
    obtain ⟨q, es, ep, hq, h2, h3, h4, _, h5⟩ := dd'
    refine d_write I (by rw [e]; exact True.intro) hs ⟨q, hq⟩ ⟨hl, hd, _, (rel.put k eb rv).keeps fun c ys ec => ?_, q, es, ep, hq, h2, h3, h4, h5⟩
    exact (upd_ne (ne_of ec e (fun z => nomatch z))).trans ec
def kDict (tk tv : TE) : TK := fun D σ H Nx => tk σ H fun y H1 => tv σ H1 fun z H2 => ∃ H3, DPut H2 D y z H3 ∧ Nx H3
/-- {k: v for ..} whose keys are tuples -/
theorem pe_dcT {kx vx tg iter : Expr} {ifs : List Expr} {scope : Scope} {own : List (Str × Nat)} {pos : Pos} {wi : TI} {g : TG} {tt : TT} {tk tv : TE} (hu : X.A.units < cLine) (hc : X.calm = true) (hN : X.N.Nodup) (hi : PI X tg iter wi) (ok : BlkOk X.N X.env.scope scope own)
    (hg : ∀ (s : Shared) (H : Hp) (C : Addr) (cl : List (Str × Addr)) (fp : List Addr), PG (X.blk s H scope (compEnvC scope cl C X.env) fp) tg g)
    (ht : ∀ (s : Shared) (H : Hp) (C : Addr) (cl : List (Str × Addr)) (fp : List Addr), PTs (X.blk s H scope (compEnvC scope cl C X.env) fp) ifs tt)
    (hk : ∀ (s : Shared) (H : Hp) (C : Addr) (cl : List (Str × Addr)) (fp : List Addr), PE (X.blk s H scope (compEnvC scope cl C X.env) fp) kx tk)
    (he : ∀ (s : Shared) (H : Hp) (C : Addr) (cl : List (Str × Addr)) (fp : List Addr), PE (X.blk s H scope (compEnvC scope cl C X.env) fp) vx tv) (hs : ∀ x, foldedSetIterable iter X.env x = pure x := by intro _; rfl) :
    PE X (.DictComp kx vx [⟨tg, iter, ifs, 0⟩] scope pos) (tCm (fun _ => .dT []) wi g tt (kDict tk tv) (own.map (·.2))) where
  run pins s σ H Q I h := by
    rw [arm_eval_DictComp]
    refine cm_core (obj := { cls := .type "dict", data := .dict #[] }) (stp := fun env D Pq E s => wpAny (model X.prog X.w) X.A (eval kx env) (fun kv s₄ => wpAny (model X.prog X.w) X.A (eval vx env) (fun vv s₅ => wpAny (model X.prog X.w) X.A (dictSet D kv vv) (fun _ => Pq) E s₅) E s₄) E s)
      rfl hc hN I hi ok (fun s Q E q => wpAny_newObj_type q) rfl (fun H h hb => dt_empty h hb) ⟨fun R s it D env In turn n hn => compLoop_anyD In turn n hn, fun R s it acc env a b => codeAny_compStart_dict a b⟩ hg ht
      (fun s1 H1 C cl fp pn s2 σ2 H2 D Nx Pq E I2 q k => ?_) hs h fun D C s' m H' I' q hn f => ⟨m, hn, fun h'' sb => ?_⟩
    · refine thnF ((hk s1 H1 C cl fp).run _ s2 σ2 H2 _ I2 q |> fun z => wpAny_mono z (fun _ _ z => z) fun _ _ z => z) fun u s3 ⟨y, H3, I3, r3, q3⟩ => ?_
      refine thnF ((he s1 H1 C cl fp).run _ s3 σ2 H3 _ I3 q3) fun u2 s4 ⟨z, H4, I4, r4, H5, put, nx⟩ => ?_
      exact dictSet_put (X := X.blk s1 H1 scope (compEnvC scope cl C X.env) fp) hu I4 put r3 r4 fun s5 I5 => k s5 H5 I5 nx
    · obtain ⟨f0, f1, f2, f3, f4, f5⟩ := f
      exact ⟨.ref D, H', I'.turned (t' := s'.toks) (fun b o hb e => (sb.2 b hb).trans e) f0 f1 f3 f4 f5, rfl, q⟩

/-! ### a set of ints by a comprehension -/
def kSetI (w : World) (te : TE) : TK := fun D σ H Nx => te σ H fun y H1 => ∃ (k : Int) (S : Int → Bool) (n : Nat), y = .int k ∧ H1 D = some (SetO w D S n) ∧ n + 1 < scanBound ∧
  Nx (upd H1 D (SetO w D (fun j => S j || decide (j = k)) (if S k = true then n else n + 1)))
theorem pe_scI {elt tg iter : Expr} {ifs : List Expr} {scope : Scope} {own : List (Str × Nat)} {pos : Pos} {wi : TI} {g : TG} {tt : TT} {te : TE} (hc : X.calm = true) (hN : X.N.Nodup) (hi : PI X tg iter wi) (ok : BlkOk X.N X.env.scope scope own)
    (hg : ∀ (s : Shared) (H : Hp) (C : Addr) (cl : List (Str × Addr)) (fp : List Addr), PG (X.blk s H scope (compEnvC scope cl C X.env) fp) tg g)
    (ht : ∀ (s : Shared) (H : Hp) (C : Addr) (cl : List (Str × Addr)) (fp : List Addr), PTs (X.blk s H scope (compEnvC scope cl C X.env) fp) ifs tt)
    (he : ∀ (s : Shared) (H : Hp) (C : Addr) (cl : List (Str × Addr)) (fp : List Addr), PE (X.blk s H scope (compEnvC scope cl C X.env) fp) elt te) (hs : ∀ x, foldedSetIterable iter X.env x = pure x := by intro _; rfl) :
    PE X (.SetComp elt [⟨tg, iter, ifs, 0⟩] scope pos) (tCm (fun D => SetO X.w D (fun _ => false) 0) wi g tt (kSetI X.w te) (own.map (·.2))) where
  run pins s σ H Q I h := by
    rw [PpSet.eval_SetComp]
    refine cm_core (obj := { cls := .type "set", dict := none, data := .set #[] 0 (.fresh 0 0 (!X.w.params.followText "set-order")) }) (stp := fun env D Pq E s => wpAny (model X.prog X.w) X.A (eval elt env) (fun v s₄ => wpAny (model X.prog X.w) X.A (call (.builtin "set.add") [.ref D, v]) (fun _ => Pq) E s₄) E s)
      rfl hc hN I hi ok (fun s Q E q => PpSet.newSet_ok q) rfl (fun H h _ => setO_new (setR_fresh X.w)) ⟨fun R s it D env In turn n hn => PpSet.compLoopS_any In turn n hn, fun R s it acc env a b => PpSet.codeAny_compStart_set a b⟩ hg ht
      (fun s1 H1 C cl fp pn s2 σ2 H2 D Nx Pq E I2 q k => ?_) hs h fun D C s' m H' I' q hn f => ⟨m, hn, fun h'' sb => ?_⟩
    · refine thnF ((he s1 H1 C cl fp).run _ s2 σ2 H2 _ I2 q) fun u s3 ⟨y, H3, I3, r3, j, S, n, ey, hD, room, nx⟩ => ?_
      subst ey
      obtain ⟨tk, rfl⟩ := r3
      refine setR_add (setO_get (X := X.blk s1 H1 scope (compEnvC scope cl C X.env) fp) I3 hD) room fun h' sb new => k _ _ (I3.write (e := D) (t' := s3.toks + 1) (by rw [hD]; trivial) (.inl rfl) (fun b u hb hu => (sb.2 b hb).trans hu) ?_ (setO_new new)) nx
      obtain ⟨o, _, _, _, ho, _⟩ := new
      exact ⟨o, ho⟩
    · obtain ⟨f0, f1, f2, f3, f4, f5⟩ := f
      exact ⟨.ref D, H', I'.turned (t' := s'.toks) (fun b o hb e => (sb.2 b hb).trans e) f0 f1 f3 f4 f5, rfl, q⟩

/-! ### how many a set holds -/
def rLenSetI (w : World) : List V → Hp → VK → Prop := fun xs H Q => ∃ (a : Addr) (S : Int → Bool) (n : Nat), xs = [.ref a] ∧ H a = some (SetO w a S n) ∧ Q (.int n) H
theorem call_lenSetI : CallR X (.builtin "len") (rLenSetI X.w) := by
  intro pins s σ H xs us Q I r h
  obtain ⟨a, S, n, rfl, ha, q⟩ := h
  rw [Vals.ref1 r]
  obtain ⟨o, es, ep, t, ho, hex, hd, _, _, _, hz, hf, hn, _⟩ := setO_get I ha
  have hb : es.size < 2 ^ 63 := Nat.lt_trans hz (by decide)
  refine call_len_set ho hex hd hf (by omega) ⟨.int n, H, I.tok _, ⟨_, by rw [hn]⟩, q⟩
def rLenSetT (P : Program) (w : World) : List V → Hp → VK → Prop := fun xs H Q => ∃ (a : Addr) (L : List (Addr × List Int)), xs = [.ref a] ∧ H a = some (SetTO P w a L) ∧ (∀ p ∈ L, H p.1 = some (.tup (p.2.map V.int))) ∧ ((L.map (·.2)).Nodup → Q (.int L.length) H)
theorem call_lenSetT : CallR X (.builtin "len") (rLenSetT X.prog X.w) := by
  intro pins s σ H xs us Q I r h
  obtain ⟨a, L, rfl, ha, ht, q⟩ := h
  rw [Vals.ref1 r]
  obtain ⟨es, ep, t, R⟩ := SetT0.full (I.hok a _ ha).1 fun p hp => I.isT (SqT.of (ht p hp))
  obtain ⟨o, ho, hex, hd⟩ := R.ob
  have hn := R.size
  have hf := R.few
  refine call_len_set ho hex hd R.fits (by omega) ⟨.int L.length, H, I.tok _, ⟨_, by rw [hn]⟩, q R.nd⟩
end
end Mv
namespace Mv
open PySem PySem.Spec PyProof.Rows L2
/-! ### the greatest of a walk's ints, or what is handed in for none -/
def mxOf (f : Nat → Int) : Nat → Option Int
  | 0 => none
  | n + 1 => some (match mxOf f n with | none => f n | some m => if f n > m then f n else m)
theorem mxOf_spec (f : Nat → Int) : ∀ n, (n = 0 ∧ mxOf f n = none) ∨ ∃ m, mxOf f n = some m ∧ (∃ i, i < n ∧ f i = m) ∧ ∀ i, i < n → f i ≤ m
  | 0 => .inl ⟨rfl, rfl⟩
  | n + 1 => by
    right
    rcases mxOf_spec f n with ⟨rfl, e⟩ | ⟨m, e, ⟨i, hi, hm⟩, hb⟩
    · refine ⟨f 0, by simp [mxOf], ⟨0, by omega, rfl⟩, fun i hi => ?_⟩
      obtain rfl : i = 0 := by omega
      exact Int.le_refl _
    · by_cases c : f n > m
      · refine ⟨f n, by simp [mxOf, e, c], ⟨n, by omega, rfl⟩, fun j hj => ?_⟩
        rcases Nat.lt_or_ge j n with h | h
        · have := hb j h; omega
        · obtain rfl : j = n := by omega
          exact Int.le_refl _
      · refine ⟨m, by simp [mxOf, e, c], ⟨i, by omega, hm⟩, fun j hj => ?_⟩
        rcases Nat.lt_or_ge j n with h | h
        · exact hb j h
        · obtain rfl : j = n := by omega
          omega
/-- what the loop's state list holds -/
def MxSt (h : Heap) (S : Addr) (o : Option Int) : Prop := ∃ c, (o = none ∧ h.get? S = some { cls := .type "list", dict := none, data := .seq #[] c, slots := #[] }) ∨
  ∃ m t, o = some m ∧ h.get? S = some { cls := .type "list", dict := none, data := .seq #[.int m t, .int m t] c, slots := #[] }
section
variable {prog : Program} {w : World} {A : Around} {R : Result → Shared → Prop} {I : Addr} {fp wr : List Addr} {n : Nat} {P : Nat → Value → Prop} {St : Nat → Heap → Prop}
theorem int_gt {i j : Int} {t u : Tok} {s : Shared} {Q E : Value → Shared → Prop} (h : Q (.bool (decide (i > j))) s) : wpAny (model prog w) A (richCompare .Gt (.int i t) (.int j u)) Q E s :=
  CmpOf.ints_gt (prog := prog) (w := w) (A := A) (P := fun k v => (k = 0 ∧ v = .int i t) ∨ (k = 1 ∧ v = .int j u)) (fun k => if k = 0 then i else j)
    (fun k v hv => by rcases hv with ⟨rfl, rfl⟩ | ⟨rfl, rfl⟩ <;> exact ⟨_, rfl⟩) 0 1 _ _ s Q E (.inl ⟨rfl, rfl⟩) (.inr ⟨rfl, rfl⟩) (by simpa using h)
theorem max_loop (W : Walks prog w A.in1 I fp wr n P St) (f : Nat → Int) (hv : ∀ i v, P i v → ∃ t, v = .int (f i) t) (kw : List (Str × Value)) (hkw : ∃ nm d, kw = [(nm, d)]) (S : Addr) (hSf : S ∉ fp) :
    ∀ (k i : Nat) (s : Shared), n - i = k → i ≤ n → St i s.heap → MxSt s.heap S (mxOf f i) →
    (∀ v h' tk, (match mxOf f n with | none => ∃ nm, kw = [(nm, v)] | some m => ∃ t, v = .int m t) → (∀ b o, b ∉ wr → b ≠ S → s.heap.get? b = some o → h'.get? b = some o) → R (.ok (.ret v)) { s with heap := h', toks := tk }) →
    codeAny (model prog w) A (.builtin "max.loop" ⟨[.ref I, .none, .ref S], kw⟩) R s := by
  have hSw : S ∉ wr := fun h => hSf (W.sub _ h)
  obtain ⟨nm, dflt, rfl⟩ := hkw
  have hname : (toString "max" ++ toString ".loop" : String) = "max.loop" := by decide
  intro k
  induction k with
  | zero =>
    intro i s hk hi hst hS hR
    obtain rfl : i = n := by omega
    refine codeAny_builtin PySem.F.entry_max_loop ?_
    rw [Around.under_plainId PySem.F.plain_max_loop _]
    obtain ⟨c, ⟨em, hS⟩ | ⟨m, t, em, hS⟩⟩ := hS
    · show wpAny _ A.in1 (seqItems? (.ref S) >>= _) _ _ s
      refine wpAny_bind (wpAny_seqItems hS rfl ?_)
      show wpAny _ A.in1 (tryCatch (pyNext (.ref I)) _ >>= _) _ _ s
      refine wpAny_bind (wpAny_tryCatch (W.done s _ _ hst fun h' tk hk' => ?_))
      show wpAny _ A.in1 (rule _ >>= _) _ _ _
      refine wpAny_bind (wpAny_rule (wpAny_pure (hR dflt h' tk ?_ fun b o hbw _ e => hk' b o hbw e)))
      rw [em]
      exact ⟨nm, rfl⟩
    · show wpAny _ A.in1 (seqItems? (.ref S) >>= _) _ _ s
      refine wpAny_bind (wpAny_seqItems hS rfl ?_)
      show wpAny _ A.in1 (tryCatch (pyNext (.ref I)) _ >>= _) _ _ s
      refine wpAny_bind (wpAny_tryCatch (W.done s _ _ hst fun h' tk hk' => ?_))
      have hS' := hk' S _ hSw hS
      show wpAny _ A.in1 (updateSeq S (fun _ => #[]) >>= _) _ _ _
      refine wpAny_bind (wpAny_updateSeq hS' rfl (wpAny_bind (wpAny_letGo (wpAny_pure (hR _ _ tk ?_ fun b o hbw hbS e => ?_)))))
      · rw [em]
        exact ⟨t, rfl⟩
      · exact (Heap.get?_update_other _ _ (Ne.symm hbS)).trans (hk' b o hbw e)
  | succ k ih =>
    intro i s hk hi hst hS hR
    have hlt : i < n := by omega
    refine codeAny_builtin PySem.F.entry_max_loop ?_
    rw [Around.under_plainId PySem.F.plain_max_loop _]
    obtain ⟨c, ⟨em, hS⟩ | ⟨m, t, em, hS⟩⟩ := hS
    · show wpAny _ A.in1 (seqItems? (.ref S) >>= _) _ _ s
      refine wpAny_bind (wpAny_seqItems hS rfl ?_)
      show wpAny _ A.in1 (tryCatch (pyNext (.ref I)) _ >>= _) _ _ s
      refine wpAny_bind (wpAny_tryCatch (W.item i s _ _ hlt hst fun v h' tk hP hst' hk' => ?_))
      have hS' := hk' S _ hSw hS
      obtain ⟨tv, rfl⟩ := hv i v hP
      show wpAny _ A.in1 (updateSeq S (fun _ => #[_, _]) >>= _) _ _ _
      refine wpAny_bind (wpAny_updateSeq hS' rfl ?_)
      rw [hname]
      refine wpAny_pure ⟨plainId_quiet PySem.F.plain_max_loop _, ih (i + 1) _ (by omega) hlt (W.frame _ _ _ hst' fun b hbf o e => ?_) ⟨_, .inr ⟨f i, tv, by simp [mxOf, em], Heap.get?_update_self _ hS' rfl⟩⟩ fun v' h'' tk'' hv' hk'' => ?_⟩
      · exact (Heap.get?_update_other _ _ (fun h : S = b => hSf (by rw [h]; exact hbf))).trans e
      · exact hR v' h'' tk'' hv' fun b o hbw hbS e => hk'' b o hbw hbS ((Heap.get?_update_other _ _ (Ne.symm hbS)).trans (hk' b o hbw e))
    · show wpAny _ A.in1 (seqItems? (.ref S) >>= _) _ _ s
      refine wpAny_bind (wpAny_seqItems hS rfl ?_)
      show wpAny _ A.in1 (tryCatch (pyNext (.ref I)) _ >>= _) _ _ s
      refine wpAny_bind (wpAny_tryCatch (W.item i s _ _ hlt hst fun v h' tk hP hst' hk' => ?_))
      have hS' := hk' S _ hSw hS
      obtain ⟨tv, rfl⟩ := hv i v hP
      show wpAny _ A.in1 (tryCatch (holding [_, _] (richCompare .Gt _ _ >>= _)) _ >>= _) _ _ _
      refine wpAny_bind (wpAny_tryCatch (wpAny_holding (wpAny_bind (int_gt ?_))))
      refine wpAny_bind (wpAny_holding (wpAny_truthy_bool ?_))
      refine wpAny_bind (wpAny_letGo (wpAny_pure ?_))
      by_cases hb : f i > m
      · rw [decide_eq_true hb]
        simp only [if_true]
        refine wpAny_bind (wpAny_updateSeq hS' rfl (wpAny_bind (wpAny_letGo ?_)))
        rw [hname]
        refine wpAny_pure ⟨plainId_quiet PySem.F.plain_max_loop _, ih (i + 1) _ (by omega) hlt (W.frame _ _ _ hst' fun b hbf o e => ?_) ⟨_, .inr ⟨f i, tv, by simp [mxOf, em, hb], Heap.get?_update_self _ hS' rfl⟩⟩ fun v' h'' tk'' hv' hk'' => ?_⟩
        · exact (Heap.get?_update_other _ _ (fun h : S = b => hSf (by rw [h]; exact hbf))).trans e
        · exact hR v' h'' tk'' hv' fun b o hbw hbS e => hk'' b o hbw hbS ((Heap.get?_update_other _ _ (Ne.symm hbS)).trans (hk' b o hbw e))
      · rw [decide_eq_false hb]
        simp only [Bool.false_eq_true, if_false]
        refine wpAny_bind (wpAny_letGo ?_)
        rw [hname]
        refine wpAny_pure ⟨plainId_quiet PySem.F.plain_max_loop _, ih (i + 1) _ (by omega) hlt hst' ⟨_, .inr ⟨m, t, by simp [mxOf, em, hb], hS'⟩⟩ fun v' h'' tk'' hv' hk'' => ?_⟩
        exact hR v' h'' tk'' hv' fun b o hbw hbS e => hk'' b o hbw hbS (hk' b o hbw e)
end
section
variable {prog : Program} {w : World} {A : Around} {E : Value → Shared → Prop} {s : Shared}
theorem args_max_dflt (a v : Value) : argsOk "max" ⟨[a], [(Str.ofString "default", v)]⟩ := by unfold argsOk; kernel_rfl
theorem call_max_dflt {x dv : Value} {Q : Value → Shared → Prop}
    (h : wpAny (model prog w) A.in1 (pyIter x) (fun it s₂ => ∃ I fp wr n P St f, it = .ref I ∧ Walks prog w A.in1 I fp wr n P St ∧ St 0 s₂.heap ∧ (∀ b ∈ fp, b < s₂.heap.objs.size) ∧ (∀ i v, P i v → ∃ t, v = .int (f i) t) ∧
      ∀ v h' tk, (match mxOf f n with | none => v = dv | some m => ∃ t, v = .int m t) → (∀ b o, b ∉ wr → s₂.heap.get? b = some o → h'.get? b = some o) → Q v { s₂ with heap := h', toks := tk }) E s) :
    wpAny (model prog w) A (call (.builtin "max") [x] [(Str.ofString "default", dv)]) Q E s := by
  have hname : (toString "max" ++ toString ".loop" : String) = "max.loop" := by decide
  refine PyProof.Rows.kmk_tree PySem.F.kind_max PySem.F.plain_max PySem.F.entry_max (args_max_dflt _ _) ?_
  show wpAny _ A.in1 (Builtin.Builtins.bindParams "max" ["key", "default"] 0 ⟨[], [(Str.ofString "default", dv)]⟩ >>= _) _ _ s
  refine wpAny_bind (wpAny_of_eq (show Builtin.Builtins.bindParams "max" ["key", "default"] 0 ⟨[], [(Str.ofString "default", dv)]⟩ = pure [none, some dv] from rfl) ?_)
  refine wpAny_bind (wpAny_pure ?_)
  refine wpAny_bind (wpAny_mono h (fun it s₂ h₂ => ?_) fun _ _ e => e)
  obtain ⟨I, fp, wr, n, P, St, f, rfl, W, hst, hfp, hv, hQ⟩ := h₂
  refine wpAny_bind (wpAny_newObj_type ?_)
  have hSf : s₂.heap.objs.size ∉ fp := fun hm => Nat.lt_irrefl _ (hfp _ hm)
  rw [hname]
  refine wpAny_pure ⟨plainId_quiet PySem.F.plain_max_loop _, max_loop W f hv _ ⟨_, dv, rfl⟩ s₂.heap.objs.size hSf n 0 _ (Nat.sub_zero _) (Nat.zero_le _) (W.frame _ _ _ hst fun b _ o e => Heap.get?_push_of_some _ e) ⟨_, .inl ⟨rfl, Heap.get?_push_size _ rfl⟩⟩ fun v h' tk hP hk => ?_⟩
  refine hQ v h' tk ?_ fun b o hbw e => hk b o hbw (Nat.ne_of_lt (Heap.lt_size e)) (Heap.get?_push_of_some _ e)
  cases em : mxOf f n with
  | none =>
    rw [em] at hP
    obtain ⟨nm, e⟩ := hP
    simp only [Option.toList, List.map_cons, List.map_nil, List.cons.injEq, Prod.mk.injEq, and_true] at e
    exact e.2.symm
  | some m =>
    rw [em] at hP
    exact hP
end

/-! ### d.values() of a dict with tuple keys; its greatest -/
def valuesO (p d : Addr) : HO := .ext fun h => h.IsValuesView p d
theorem valuesO_ok {P : Program} {w : World} {H : Hp} {h : Heap} {p d : Addr} (e : h.get? p = some { cls := .type "dict_values", data := .fields #[.ref d] }) : ObjOk P w H h p (valuesO p d) :=
  ⟨⟨_, e, rfl, rfl⟩, ⟨_, e⟩, fun h1 h2 x k => let ⟨o, ho, r⟩ := x; ⟨o, k o ho, r⟩⟩
section
variable {X : Cx}
theorem raw_of {pins : List (Addr × Obj)} {σ : L2.St} {H : Hp} {s : Shared} {a : Addr} {kvs : List (List Key × V)} (I : Inv X pins σ H s) (ha : H a = some (.dT kvs)) :
    (a == sysModules) = false ∧ ∃ (es : Array DictEntry) (ep : Nat), s.heap.DictRaw a es ep ∧ es.size = kvs.length ∧ ∀ (i : Nat) (hi : i < es.size), ∃ k v, kvs[i]? = some (k, v) ∧ RelV v es[i].val := by
  obtain ⟨z, hd, xs, rel, o, es, ep, ho, hx, hdat, hes, _, _⟩ := dt_of I.hok ha
  have hl : es.size = xs.length := by
    have q := congrArg List.length hes
    rw [Array.length_toList, List.length_map] at q
    exact q
  have hl2 : kvs.length = xs.length := Paired.length rel
  refine ⟨hd, es, ep, ⟨o, ho, hx, hdat⟩, hl.trans hl2.symm, fun i hi => ?_⟩
  have get : ∀ {kvs : List (List Key × V)} {xs : List (List Key × Addr × Value)} (_ : KT H kvs xs) (i : Nat) (y : List Key × Addr × Value), xs[i]? = some y → ∃ v, kvs[i]? = some (y.1, v) ∧ RelV v y.2.2 := by
    intro kvs xs r
    induction r with
    | nil => intro i y e; simp at e
    | cons hh t ih =>
      intro i y e
      cases i with
      | zero =>
        cases (Option.some.inj (show some _ = some y from e))
        exact ⟨_, congrArg some (Prod.ext hh.1 rfl), hh.2.2⟩
      | succ i => exact ih i y e
  have hx' : i < xs.length := hl ▸ hi
  obtain ⟨v, e1, e2⟩ := get rel i xs[i] (List.getElem?_eq_getElem hx')
  have ev : es[i].val = (xs[i]).2.2 := by
    have q : es.toList[i]? = (xs.map (entryOfKey (tupleKind (mixKind X.prog X.w))))[i]? := by rw [hes]
    rw [Array.getElem?_toList, List.getElem?_map, List.getElem?_eq_getElem hx', Array.getElem?_eq_getElem hi] at q
    have q := Option.some.inj q
    rw [q] <;> rfl
  exact ⟨_, v, e1, by rw [ev]; exact e2⟩
def rValuesT : V → List V → Hp → VK → Prop := fun x xs H Q => ∃ (a : Addr) (kvs : List (List Key × V)), x = .ref a ∧ xs = [] ∧ H a = some (.dT kvs) ∧ ∀ p, H p = none → Q (.ref p) (upd H p (valuesO p a))
theorem mt_valuesT : MtR X "dict.values" rValuesT := by
  intro pins s σ H x xs v us Q I rx rxs h
  obtain ⟨a, kvs, rfl, rfl, ha, q⟩ := h
  cases rx
  cases rxs
  obtain ⟨hd, es, ep, hr, _⟩ := raw_of I ha
  refine call_meetsIn F.slot_dict_values hr.typeIs F.entry_dict_values (F.args_dict_values_1 _) (meets_dict_values_raw a hd) ⟨⟨es, ep, hr⟩, ?_⟩
  exact ⟨.ref s.heap.objs.size, upd H s.heap.objs.size (valuesO s.heap.objs.size a), I.laid (t' := s.toks) (fun b u e => Heap.get?_push_of_some _ e) (Nat.le_refl _) (valuesO_ok (Heap.get?_push_size _ rfl)), rfl, q _ (I.hok.fresh (Nat.le_refl _))⟩
/-- what a view's walk asks and gives -/
theorem view_walk {pins : List (Addr × Obj)} {σ : L2.St} {H : Hp} {s : Shared} {p a : Addr} {kvs : List (List Key × V)} {is : List Int} {A : Around} {E : Value → Shared → Prop} (hh : A.handled = none) (I : Inv X pins σ H s) (hp : H p = some (valuesO p a)) (ha : H a = some (.dT kvs))
    (hi : kvs.map (·.2) = is.map V.int) {Q : Value → Shared → Prop}
    (h : ∀ I fp wr P St s₂ n, n = is.length → Walks X.prog X.w A I fp wr n P St → St 0 s₂.heap → (∀ b ∈ fp, b < s₂.heap.objs.size) → (∀ i v, P i v → ∃ t, v = .int (is.getD i 0) t) → (∀ b o, s.heap.get? b = some o → s₂.heap.get? b = some o ∧ b ∉ wr) →
      (∃ h₂, s₂ = { s with heap := h₂ }) → Q (.ref I) s₂) : wpAny (model X.prog X.w) A (pyIter (.ref p)) Q E s := by
  obtain ⟨hd, es, ep, hr, hz, hv⟩ := raw_of I ha
  have hpv : s.heap.IsValuesView p a := (I.hok p _ hp).1
  have hlt : a < s.heap.objs.size := let ⟨_, o, _⟩ := hr; Heap.lt_size o
  have hlen : kvs.length = is.length := by
    have q := congrArg List.length hi
    rwa [List.length_map, List.length_map] at q
  refine wpAny_pyIter_values_raw hpv hr ?_
  generalize ho : ({ cls := .type "dict_valueiterator", data := .fields #[.ref a, .int 0 0, .int es.size 0, .int ep 0] } : Obj) = o1
  have W := Walks.rawValues (prog := X.prog) (w := X.w) hh s.heap.objs.size a (Nat.ne_of_lt hlt) es ep
  have g1 : (s.heap.push o1).get? s.heap.objs.size = some o1 := Heap.get?_push_size _ (by rw [← ho] <;> rfl)
  refine h s.heap.objs.size [s.heap.objs.size, a] [s.heap.objs.size] _ _ _ _ (hz.trans hlen) W ⟨?_, hr.at fun o e => Heap.get?_push_of_some _ e⟩ (fun b hb => ?_) (fun i v hP => ?_) (fun b o e => ⟨Heap.get?_push_of_some _ e, fun z => ?_⟩) ⟨_, rfl⟩
  · exact ⟨o1, g1, by rw [← ho] <;> rfl, by rw [← ho] <;> rfl⟩
  · show b < (s.heap.push o1).objs.size
    rw [Heap.size_push]
    rcases List.mem_cons.mp hb with z | z
    · rw [z]; exact Nat.lt_succ_self _
    · rw [List.mem_singleton.mp z]; exact Nat.lt_succ_of_lt hlt
  · obtain ⟨hi', rfl⟩ := hP
    obtain ⟨k, v, e1, e2⟩ := hv i hi'
    have e3 : (kvs.map (·.2))[i]? = some v := by rw [List.getElem?_map, e1] <;> rfl
    rw [hi, List.getElem?_map] at e3
    obtain ⟨j, hj, e4⟩ := Option.map_eq_some_iff.mp e3
    subst e4
    obtain ⟨t, e5⟩ := e2
    exact ⟨t, by rw [e5, List.getD_eq_getElem?_getD, hj] <;> rfl⟩
  · exact absurd (Heap.lt_size e) (by rw [List.mem_singleton.mp z]; exact Nat.lt_irrefl _)
def IsMax (is : List Int) (m : Int) : Prop := m ∈ is ∧ ∀ j ∈ is, j ≤ m
def rMaxV : List V → Hp → VK → Prop := fun vs H Q => ∃ (p a : Addr) (kvs : List (List Key × V)) (is : List Int), vs = [.ref p] ∧ H p = some (valuesO p a) ∧ H a = some (.dT kvs) ∧ kvs.map (·.2) = is.map V.int ∧ is ≠ [] ∧ ∀ m, IsMax is m → Q (.int m) H
theorem cr_maxV (hc : X.calm = true) : CallR X (.builtin "max") rMaxV := by
  intro pins s σ H vs us Q I r h
  obtain ⟨p, a, kvs, is, rfl, hp, ha, hi, hne, q⟩ := h
  rw [Vals.ref1 r]
  refine call_max_walk (view_walk (A := X.A.in1) (show X.A.in1.handled = none from I.ok.hd hc) I hp ha hi fun It fp wr P St s₂ n en W st hfp hv k es2 => ?_)
  have hl : 0 < is.length := List.length_pos_iff.mpr hne
  subst en
  refine ⟨It, fp, wr, is.length, P, St, _, rfl, W, st, hfp, hl, CmpOf.ints_gt (fun i => is.getD i 0) hv, fun v h' tk hP hk => ?_⟩
  obtain ⟨t, rfl⟩ := hv _ v hP
  obtain ⟨h₂, rfl⟩ := es2
  obtain ⟨b1, b2⟩ := argBest_gt (fun i => is.getD i 0) (is.length - 1)
  have hb : argBest (fun i j => decide (is.getD i 0 > is.getD j 0)) (is.length - 1) < is.length := by omega
  refine ⟨.int _, H, I.kept (t' := tk) fun b u e => hk b u (k b u e).2 (k b u e).1, ⟨t, rfl⟩, q _ ⟨?_, fun j hj => ?_⟩⟩
  · rw [List.getD_eq_getElem?_getD, List.getElem?_eq_getElem hb]
    exact List.getElem_mem hb
  · obtain ⟨i, hi, e⟩ := List.mem_iff_getElem.mp hj
    have e2 : is.getD i 0 = j := by rw [List.getD_eq_getElem?_getD, List.getElem?_eq_getElem hi, ← e] <;> rfl
    rw [← e2]
    exact b2 i (by omega)
/-- max(d.values(), default=e) -/
def rMaxVD : List V → List V → Hp → VK → Prop := fun vs zs H Q => ∃ (p a : Addr) (kvs : List (List Key × V)) (is : List Int) (d : V), vs = [.ref p] ∧ zs = [d] ∧ H p = some (valuesO p a) ∧ H a = some (.dT kvs) ∧ kvs.map (·.2) = is.map V.int ∧ (is = [] → Q d H) ∧ ∀ m, IsMax is m → Q (.int m) H
theorem crk_maxV (hc : X.calm = true) : CallRK X (.builtin "max") [Str.ofString "default"] rMaxVD := by
  intro pins s σ H vs zs us ws Q I r rz h
  obtain ⟨p, a, kvs, is, d, rfl, rfl, hp, ha, hi, q0, q⟩ := h
  rw [Vals.ref1 r]
  cases rz with
  | cons rd rt =>
    cases rt
    rename_i dv
    refine call_max_dflt (view_walk (A := X.A.in1) (show X.A.in1.handled = none from I.ok.hd hc) I hp ha hi fun It fp wr P St s₂ n en W st hfp hv k es2 => ?_)
    subst en
    refine ⟨It, fp, wr, is.length, P, St, fun i => is.getD i 0, rfl, W, st, hfp, hv, fun v h' tk hP hk => ?_⟩
    obtain ⟨h₂, rfl⟩ := es2
    have J : Inv X pins σ H { s with heap := h', toks := tk } := I.kept (t' := tk) fun b u e => hk b u (k b u e).2 (k b u e).1
    rcases mxOf_spec (fun i => is.getD i 0) is.length with ⟨e0, em⟩ | ⟨m, em, ⟨i, hi', ei⟩, hb⟩
    · rw [em] at hP
      subst hP
      exact ⟨d, H, J, rd, q0 (List.length_eq_zero_iff.mp e0)⟩
    · rw [em] at hP
      obtain ⟨t, rfl⟩ := hP
      refine ⟨.int m, H, J, ⟨t, rfl⟩, q m ⟨?_, fun j hj => ?_⟩⟩
      · rw [← ei, List.getD_eq_getElem?_getD, List.getElem?_eq_getElem hi']
        exact List.getElem_mem hi'
      · obtain ⟨i2, hi2, e⟩ := List.mem_iff_getElem.mp hj
        have e2 : is.getD i2 0 = j := by rw [List.getD_eq_getElem?_getD, List.getElem?_eq_getElem hi2, ← e] <;> rfl
        rw [← e2]
        exact hb i2 hi2

/-! ### a store into a dict, as one of several targets -/
theorem set_dict (hu : X.A.units + 1 < cLine) : PSet X (fun o i v H Q => ∃ (a : Addr) (H' : Hp), o = .ref a ∧ DPut H a i v H' ∧ Q H') := by
  intro pins s σ H o i v ov iv u Q I ro ri rv h
  obtain ⟨a, H', rfl, put, q⟩ := h
  cases ro
  exact d_setItem hu I put ri rv fun s' I' => ⟨H', I', q⟩
end
end Mv
/-! set and sorted of a tuple of tuples of ints. -/
namespace Mv
open PySem PySem.Spec PyProof.Rows L2
section
variable {P : Program} {w : World} {A : Around} {E : Value → Shared → Prop} {s : Shared}
set_option maxHeartbeats 6400000 in
theorem call_set_tupsU {l : Addr} {items : Array Value} (ks : List (Addr × List Int)) {Q : Value → Shared → Prop} (hh : A.handled = none) (hl : s.heap.IsTuple l items) (hit : items.toList = ks.map fun p => Value.ref p.1)
    (hk : ∀ p ∈ ks, IsT P w s.heap p.2 p.1) (hfew : ks.length < 64) (hu : A.units + 3 < cLine)
    (h : ∀ (h' : Heap) (tk : Nat) L es ep t, SetTR P w h' s.heap.objs.size L es ep t → Got ks ks.length L → (∀ b o, s.heap.get? b = some o → h'.get? b = some o) → Q (.ref s.heap.objs.size) { s with heap := h', toks := tk }) :
    wpAny (model P w) A (call (.type "set") [.ref l]) Q E s := by
  have hisz : items.size = ks.length := by
    have q := congrArg List.length hit
    rw [Array.length_toList, List.length_map] at q
    exact q
  obtain ⟨c, tl, hmro⟩ := F.called_set.mro
  have hmade := F.called_set.made
  have hsub := F.called_set.sub
  refine wpAny_call (codeAny_of_tree ?_)
  show wpAny _ _ (callAny (.type "set") _) _ _ _
  refine wpAny_pure ⟨Code.quiet_builtin _ (by decide +kernel), codeAny_builtin F.entry_type_call ?_⟩
  rw [Around.under_plain (weight_type_call_type "set" [.ref l] []) rfl]
  have h1 := F.called_set.notType
  have h2 := F.called_set.canCreate
  have hct := F.typeCall_set_1 (.ref l)
  repeat (any_goals (first | assumption | wp_step))

  refine codeAny_mono (code_set_led1 (.ref l) (E := E) (Q₁ := fun obj s₁ => obj = .ref s.heap.objs.size ∧ s₁ = { s with heap := s.heap.push { cls := .type "set", dict := none, data := .set #[] 0 (.fresh 0 0 (!w.params.followText "set-order")) } }) ⟨rfl, rfl⟩) fun r s₁ hr => ?_
  cases r with
  | error e => exact hr
  | ok fl =>
    cases fl with
    | ret obj =>
      obtain ⟨rfl, rfl⟩ := hr
      have hS : (s.heap.push { cls := .type "set", dict := none, data := .set #[] 0 (.fresh 0 0 (!w.params.followText "set-order")) }).get? s.heap.objs.size = some { cls := .type "set", dict := none, data := .set #[] 0 (.fresh 0 0 (!w.params.followText "set-order")) } := Heap.get?_push_size _ rfl
      have hT : Shared.TypeIs { s with heap := s.heap.push { cls := .type "set", dict := none, data := .set #[] 0 (.fresh 0 0 (!w.params.followText "set-order")) } } (.ref s.heap.objs.size) "set" := ⟨_, hS, rfl⟩
      have hli := F.called_set.init.lookup
      have hbi := F.called_set.init.bind (.ref s.heap.objs.size)
      repeat (any_goals (first | assumption | wp_step))

      refine codeAny_mono (codeAny_call_builtin (R := wants (fun r s₂ => r = .none ∧ ∃ h' tk L es ep t, s₂ = { s with heap := h', toks := tk } ∧ SetTR P w h' s.heap.objs.size L es ep t ∧ Got ks ks.length L ∧
          (∀ b o, s.heap.get? b = some o → h'.get? b = some o)) E) F.called_set.init.plain F.entry_set_init (check_set_init_1 hT ?_)) fun r₂ s₂ hr₂ => ?_
      · obtain ⟨ol, hol, hcl, nl, hdl⟩ := hl
        obtain ⟨ocls, odict, odata, oslots⟩ := ol
        simp only at hcl hdl
        subst hcl; subst hdl
        have hol' : (s.heap.push { cls := .type "set", dict := none, data := .set #[] 0 (.fresh 0 0 (!w.params.followText "set-order")) }).get? l = some { cls := .type "tuple", dict := odict, data := .seq items nl, slots := oslots } := Heap.get?_push_of_some _ hol
        have hsls := F.sub_tuple_set
        have hslf := F.sub_tuple_frozenset
        have hne : (Value.type "tuple" == Value.type "dict") = false := by decide
        have hl1 : (s.heap.push { cls := .type "set", dict := none, data := .set #[] 0 (.fresh 0 0 (!w.params.followText "set-order")) }).IsTuple l items := ⟨_, hol', rfl, nl, rfl⟩
        unfold Builtin.«set.__init__» noKeywords Builtin.Frozenset.updateFrom
        generalize hPI : pyIter = PI
        wp_walk
        subst hPI

        refine wpAny_pyIter_tuple hl1 ?_
        refine wpAny_bind (wpAny_runValue ?_)
        have hlS : l < s.heap.objs.size := Heap.lt_size hol
        have hh3 : A.in1.in1.in1.handled = none := by simp [hh]
        have hz1 : (s.heap.push { cls := .type "set", dict := none, data := .set #[] 0 (.fresh 0 0 (!w.params.followText "set-order")) }).objs.size = s.heap.objs.size + 1 := Heap.size_push ..
        have hneI : l ≠ (s.heap.push { cls := .type "set", dict := none, data := .set #[] 0 (.fresh 0 0 (!w.params.followText "set-order")) }).objs.size := by
          rw [Heap.size_push]; exact Nat.ne_of_lt (Nat.lt_succ_of_lt hlS)
        have hSf : s.heap.objs.size ∉ [(s.heap.push { cls := .type "set", dict := none, data := .set #[] 0 (.fresh 0 0 (!w.params.followText "set-order")) }).objs.size, l] := by
          rw [Heap.size_push]; simp only [List.mem_cons, List.mem_singleton, List.not_mem_nil, or_false, not_or]
          exact ⟨Nat.ne_of_lt (Nat.lt_succ_self _), Nat.ne_of_gt hlS⟩
        have hval : ∀ (i : Nat) (v : Value), items[i]? = some v → ∃ p, ks[i]? = some p ∧ v = .ref p.1 := fun i v hv => by
          have q : items.toList[i]? = some v := by rw [Array.getElem?_toList]; exact hv
          rw [hit, List.getElem?_map] at q
          cases hq : ks[i]? with
          | none => rw [hq] at q; cases q
          | some p =>
            rw [hq] at q
            exact ⟨p, rfl, (Option.some.inj q).symm⟩
        have none_of : ∀ b, s.heap.objs.size ≤ b → s.heap.get? b = none := fun b hb => by
          cases q : s.heap.get? b with
          | none => rfl
          | some o => exact absurd (Nat.lt_of_lt_of_le (Heap.lt_size q) hb) (Nat.lt_irrefl _)
        refine set_update_tups ((Walks.tuple hh3 _ l hneI items).toS) s.heap.objs.size
          hSf ks hisz hfew hval s.heap hk (none_of _ (Nat.le_refl _)) (fun b hb => none_of b (by
            rw [List.mem_singleton.mp hb, Heap.size_push]
            exact Nat.le_succ _)) hu (items.size - 0) 0 _ (by omega) (Nat.zero_le _)
          ⟨⟨_, Heap.get?_push_size _ rfl, rfl, rfl⟩, (hl1.push _)⟩ (fun b o e => Heap.get?_push_of_some _ (Heap.get?_push_of_some _ e)) ?hS0 ?hR
        case hS0 =>
          have hget : ((s.heap.push { cls := .type "set", dict := none, data := .set #[] 0 (.fresh 0 0 (!w.params.followText "set-order")) }).push { cls := .type "tuple_iterator", data := .fields #[.ref l, .int 0 0] }).get? s.heap.objs.size
              = some { cls := .type "set", dict := none, data := .set #[] 0 (.fresh 0 0 (!w.params.followText "set-order")) } := Heap.get?_push_of_some _ hS
          exact ⟨[], #[], 0, _, setTR_fresh hget, Got.zero ks⟩
        case hR =>
          intro s' L es ep t hm hS' g' hkp
          obtain ⟨h', g2, d', tk', os'⟩ := s'
          have eg : g2 = s.gens := hm.gens
          have ed : d' = s.drawn := hm.drawn
          have eo : os' = s.os := hm.os
          subst eg; subst ed; subst eo
          show wpAny _ _ _ _ _ _
          refine wpAny_pure ?_
          show wpAny _ _ (ret Value.none) _ _ _
          rw [hisz] at g'
          exact wpAny_pure ⟨rfl, h', tk', L, es, ep, t, rfl, hS', g', hkp⟩

      · cases r₂ with
        | error e => exact hr₂
        | ok fl₂ =>
          cases fl₂ with
          | ret r =>
            obtain ⟨rfl, h', tk, L, es, ep, t, rfl, hS', g', hk'⟩ := hr₂
            repeat (any_goals (first | assumption | wp_step))
            exact h _ _ _ _ _ _ hS' g' hk'
          | _ => exact hr₂.elim
    | _ => exact hr.elim
end
section
variable {X : Cx}
/-- set(xs), xs a tuple of tuples of ints -/
def rSetOfTU (K : PySem.W.Frag) (P : Program) (w : World) : List V → Hp → VK → Prop := fun xs H Q => ∃ (l : Addr) (ks : List (Addr × List Int)), xs = [V.ref l] ∧ SqT K H l (ks.map fun p => V.ref p.1) ∧ (∀ p ∈ ks, SqT K H p.1 (p.2.map V.int)) ∧ ks.length < 64 ∧
  ∀ a L, H a = none → (∀ p ∈ L, p ∈ ks) → (∀ p ∈ ks, p.2 ∈ L.map (·.2)) → Q (.ref a) (upd H a (SetTO P w a L))
theorem cr_setOfTU (hc : X.calm = true) (hu : X.A.units + 64 < cLine) : CallR X (.type "set") (rSetOfTU X.K X.prog X.w) := by
  intro pins s σ H xs us Q I r h
  obtain ⟨l, ks, rfl, hl, hk, hf, q⟩ := h
  rw [Vals.ref1 r]
  obtain ⟨its, rv, pl, hz⟩ := I.tuple hl
  have pl : s.heap.IsTuple l its.toArray := pl
  have hn : H s.heap.objs.size = none := I.hok.fresh (Nat.le_refl _)
  refine call_set_tupsU (P := X.prog) (w := X.w) ks (I.ok.hd hc) pl (by simpa using refs_of_vals rv) (fun p hp => I.isT (hk p hp)) hf (by omega) fun h' tk L es ep t R g k => ?_
  refine ⟨.ref s.heap.objs.size, upd H s.heap.objs.size (SetTO X.prog X.w s.heap.objs.size L), I.laid (t' := tk) k (Nat.le_refl _) (setTO_new R.t0), rfl, q _ L hn (fun p hp => ?_) fun p hp => ?_⟩
  · exact List.mem_of_mem_take (g.sub p hp)
  · exact g.all p (by rw [List.take_length]; exact hp)
end
end Mv
/-! sorted of a tuple of tuples of ints; sum of lists; a tuple once. -/
namespace Mv
open PySem PySem.Spec PyProof.Rows L2
section
variable {prog : Program} {w : World} {A : Around} {E : Value → Shared → Prop} {s : Shared}
theorem collect_tup {l : Addr} {vs : List Value} {Q : List Value → Shared → Prop} (hl : s.heap.IsTuple l vs.toArray)
    (h : Q vs { s with heap := (s.heap.push (seqObj "list" #[] 0)).update s.heap.objs.size (Obj.mapSeq (· ++ vs.toArray)) }) (hsz : vs.length ≤ sizeLine := by size_fits) :
    wpAny (model prog w) A (collect (.ref l)) Q E s := by
  obtain ⟨o, ho, hc, n, hd⟩ := id hl
  unfold collect
  refine wpAny_bind (wpAny_runValue (codeAny_builtin entry_proto_collect' ?_))
  show wpAny _ _ (do again (.builtin "list.__iadd__" ⟨[← newList [], .ref l], []⟩)) _ _ s
  refine wpAny_bind (wpAny_newList (wpAny_pure ⟨Code.quiet_builtin _ (by decide +kernel), codeAny_builtin entry_list_iadd' ?_⟩))
  show wpAny _ _ (Builtin.List.listExtendWith (.ref s.heap.objs.size) (.ref l) (.ref s.heap.objs.size)) _ _ { s with heap := s.heap.push (seqObj "list" #[] 0) }
  unfold Builtin.List.listExtendWith
  have ho' : (s.heap.push (seqObj "list" #[] 0)).get? l = some o := Heap.get?_push_of_some _ ho
  refine wpAny_bind (wpAny_typeOf (T := "tuple") ⟨o, ho', hc⟩ ?_)
  have ht : (Value.type "tuple" == Value.type "tuple") = true := by rfl
  rw [if_pos (by rw [ht]; simp)]
  refine wpAny_bind (listItems_at ho' hd ?_)
  refine wpAny_bind (listItems_at (xs := #[]) (n := 0) (Heap.get?_push_size _ rfl) rfl ?_)
  rw [if_neg (by simp)]
  refine wpAny_bind (listUpdate_at (xs := #[]) (n := 0) (Heap.get?_push_size _ rfl) rfl ?_ (Nat.zero_le _) (by show (#[] ++ vs.toArray).size ≤ sizeLine + 1; simp only [Array.size_append, List.size_toArray, List.length_nil]; omega))
  refine wpAny_pure ?_
  show wpAny (model prog w) A (do
      let o ← load s.heap.objs.size
      match o.data with
      | .seq xs _ => pure xs.toList
      | _ => unsupported "internal:collect") Q E { s with heap := (s.heap.push (seqObj "list" #[] 0)).update s.heap.objs.size (Obj.mapSeq (· ++ vs.toArray)) }
  refine wpAny_bind (wpAny_load (get?_update_seq (Heap.get?_push_size _ rfl) _) ?_)
  show wpAny _ _ (pure ((#[] : Array Value) ++ vs.toArray).toList) Q E _
  rw [show ((#[] : Array Value) ++ vs.toArray).toList = vs by simp]
  exact wpAny_pure h
theorem sorted_tupsU {l : Addr} {vs : List Value} {d : Nat} {B : Int} {Q : Value → Shared → Prop} (hl : s.heap.IsTuple l vs.toArray) (h64 : vs.length < 64) (hd : 1 ≤ d) (x : TS.TupsOk s.heap d B vs)
    (h : ∀ out : Array Value, out.toList.Perm vs → out.toList.Pairwise (fun u v => TS.code B (TS.intsOf s.heap u) ≤ TS.code B (TS.intsOf s.heap v)) → Q (.ref (s.heap.objs.size + 1)) { s with heap := sortedAll s.heap vs out }) :
    wpAny (model prog w) A (call (.builtin "sorted") [.ref l]) Q E s := by
  refine Calls.call_function_entry kind_sorted plain_sorted entry_sorted (args_sorted1 _) ?_
  unfold Builtin.«sorted»
  refine wpAny_bind (m := checkCount "sorted" 1 1 _) (wpAny_pure ?_)
  refine wpAny_bind (collect_tup hl ?_ (by rw [sizeLine_eq]; omega))
  refine wpAny_bind (wpAny_newList ?_ (by rw [sizeLine_eq]; omega))
  have hsz : ((s.heap.push (seqObj "list" #[] 0)).update s.heap.objs.size (Obj.mapSeq (· ++ vs.toArray))).objs.size = s.heap.objs.size + 1 := by
    rw [Heap.size_update, size_push']
  have hoL : (((s.heap.push (seqObj "list" #[] 0)).update s.heap.objs.size (Obj.mapSeq (· ++ vs.toArray))).push (seqObj "list" vs.toArray 0)).get? (s.heap.objs.size + 1) = some (seqObj "list" vs.toArray 0) := by
    rw [← hsz]; exact Heap.get?_push_size _ rfl
  have keep : ∀ b o, s.heap.get? b = some o → o.cls = .type "tuple" → (((s.heap.push (seqObj "list" #[] 0)).update s.heap.objs.size (Obj.mapSeq (· ++ vs.toArray))).push (seqObj "list" vs.toArray 0)).get? b = some o := fun b o q _ => by
    have hlt : b < s.heap.objs.size := Heap.lt_size q
    rw [Heap.get?_push_ne _ _ _ (by rw [hsz]; exact Nat.ne_of_lt (Nat.lt_succ_of_lt hlt)), Heap.get?_update_ne _ _ _ _ (Nat.ne_of_lt hlt), Heap.get?_push_ne _ _ _ (Nat.ne_of_lt hlt)]
    exact q
  show wpAny _ _ _ _ _ { s with heap := ((s.heap.push (seqObj "list" #[] 0)).update s.heap.objs.size (Obj.mapSeq (· ++ vs.toArray))).push (seqObj "list" vs.toArray 0) }
  rw [hsz]
  refine wpAny_bind (wpAny_holding (wpAny_call_entry slot_list_sort ⟨_, hoL, rfl⟩ entry_list_sort (TS.sort_tups hoL h64 hd (x.keeps keep) (fun v => TS.code B (TS.intsOf s.heap v)) (fun v hv ns t => ?_) fun out a1 a2 => ⟨_, rfl, ?_⟩) (args_list_sort _)))
  · obtain ⟨ns0, t0, _⟩ := x v hv
    have e : ns = ns0 := t.ints.symm.trans (t0.keeps keep).ints
    rw [e]
    show TS.code B (TS.intsOf s.heap v) = TS.code B ns0
    rw [t0.ints]
  · exact wpAny_pure ⟨_, rfl, h out a1 a2⟩

end
section
variable {X : Cx} {pins : List (Addr × Obj)} {σ : L2.St} {H : Hp} {s : Shared}
def rSortUU (K : PySem.W.Frag) (d : Nat) (B : Int) : List V → Hp → VK → Prop := fun vs H Q => ∃ (a : Addr) (xs : List V), vs = [V.ref a] ∧ SqT K H a xs ∧ xs.length < 64 ∧ (∀ x ∈ xs, ∃ ns, TupI K H x ns ∧ ns.length = d ∧ TS.Bd B ns) ∧
  ∀ (ys : List V) (p : Addr), ys.Perm xs → ys.Pairwise (fun x y => ∀ n m, TupI K H x n → TupI K H y m → TS.code B n ≤ TS.code B m) → H p = none → Q (.ref p) (upd H p (.lst ys))
theorem cr_sortTU {d : Nat} {B : Int} (hd : 1 ≤ d) : CallR X (.builtin "sorted") (rSortUU X.K d B) := by
  intro pins s σ H vs us Q I r h
  obtain ⟨a, xs, rfl, hs, h64, hx, q⟩ := h
  obtain ⟨its, rv, hl, hz⟩ := I.tuple hs
  rw [Vals.ref1 r]
  obtain ⟨e1, e2⟩ := bkV_refs rv fun x m => by
    obtain ⟨ns, ⟨t, e, _⟩, _⟩ := hx x m
    exact ⟨t, e⟩
  refine sorted_tupsU (d := d) (B := B) (show s.heap.IsTuple a its.toArray from hl) (by rw [← rv.length]; exact h64) hd (fun v hv => ?_) fun out h1 h2 => ?_
  · obtain ⟨t, rfl⟩ := e2 v hv
    have hm : V.ref t ∈ xs := by
      rw [e1]
      exact List.mem_map.mpr ⟨_, hv, rfl⟩
    obtain ⟨ns, ⟨t', e, ht⟩, hn, hb⟩ := hx _ hm
    cases e
    exact ⟨ns, tupI_raw I ht, hn, hb⟩
  · obtain ⟨ep, he'⟩ := PyProof.Rows.sortedAll_at s.heap its out
    have h3 : ∀ u ∈ out.toList, ∃ a, u = Value.ref a := fun u hu => e2 u (h1.mem_iff.mp hu)
    have hp : (out.toList.map bkV).Perm xs := by
      rw [e1]
      exact h1.map bkV
    have hlen : (out.toList.map bkV).length ≤ sizeLine := by
      rw [hp.length_eq]
      exact hz
    refine ⟨.ref _, upd H (s.heap.objs.size + 1) (.lst (out.toList.map bkV)), I.laid (t' := s.toks) (fun _ _ => PyProof.Rows.sortedAll_old) (Nat.le_succ _) ⟨hlen, out.toList, ep, bkV_vals h3, he'⟩, rfl, q _ _ hp ?_ (I.hok.fresh (Nat.le_succ _))⟩
    rw [List.pairwise_map]
    refine List.Pairwise.imp (fun {u v} huv n m hn hm => ?_) h2
    obtain ⟨t, et, ht⟩ := hn
    obtain ⟨t', et', ht'⟩ := hm
    have eu := bkV_ref et
    have ev := bkV_ref et'
    have i1 : TS.intsOf s.heap u = n := by
      rw [eu]
      exact (tupI_raw I ht).ints
    have i2 : TS.intsOf s.heap v = m := by
      rw [ev]
      exact (tupI_raw I ht').ints
    rw [← i1, ← i2]
    exact huv

end
/-! ### sum(xs, ys) of lists -/
section
variable {prog : Program} {w : World} {A : Around} {E : Value → Shared → Prop}
theorem args_sum2 (a b : Value) : argsOk "sum" ⟨[a, b], []⟩ := by unfold argsOk; kernel_rfl
def flat (ls : List (Addr × List Value)) : List Value := (ls.map (·.2)).flatten
theorem sum_loopL {R : Result → Shared → Prop} (hh : A.in1.handled = none) (I ax S : Addr) (h0 : Heap) (ls : List (Addr × List Value)) (hI0 : h0.get? I = none) (hS0 : h0.get? S = none) (hax : ∃ o, h0.get? ax = some o) (hIS : I ≠ S)
    (hl : ∀ p ∈ ls, ∃ c, IsL h0 p.1 p.2.toArray c) (items : Array Value) (hit : items.toList = ls.map fun p => Value.ref p.1) :
    ∀ (k i : Nat) (s : Shared) (t : Addr) (acc : List Value) (c cc : Nat), ls.length - i = k → i ≤ ls.length → s.heap.IsListIter I ax i → s.heap.IsList ax items → (∀ b o, h0.get? b = some o → s.heap.get? b = some o) → h0.objs.size ≤ s.heap.objs.size →
      IsL s.heap S #[.ref t] cc → IsL s.heap t acc.toArray c → t ≠ I → t ≠ S → acc.length + (flat (ls.drop i)).length ≤ sizeLine →
      (∀ h' tk t' c', (∀ b o, h0.get? b = some o → h'.get? b = some o) → (i = ls.length → t' = t) → (i < ls.length → h0.objs.size ≤ t') → IsL h' t' (acc ++ flat (ls.drop i)).toArray c' → R (.ok (.ret (.ref t'))) { s with heap := h', toks := tk }) →
      codeAny (model prog w) A (.builtin "sum.loop" ⟨[.ref I, .ref S, rawInt 2, rawInt 0], []⟩) R s := by
  obtain ⟨oax, hax⟩ := hax
  have nai : ax ≠ I := fun e => by rw [e, hI0] at hax; cases hax
  have nas : ax ≠ S := fun e => by rw [e, hS0] at hax; cases hax
  have hn : items.size = ls.length := by
    have q := congrArg List.length hit
    rwa [Array.length_toList, List.length_map] at q
  intro k
  induction k with
  | zero =>
    intro i s t acc c cc hk hi hst hax' hkp hsz hS ht h1 h2 hz hR
    have hin : i = ls.length := by omega
    refine codeAny_builtin F.entry_sum_loop ?_
    rw [Around.under_plainId F.plain_sum_loop _]
    show wpAny _ A.in1 (seqItems? (.ref S) >>= _) _ _ s
    refine wpAny_bind (wpAny_seqItems hS rfl ?_)
    show wpAny _ A.in1 (tryCatch (pyNext (.ref I)) _ >>= _) _ _ s
    refine wpAny_bind (wpAny_tryCatch (wpAny_pyNext_list_end hh hst hax' (Array.getElem?_eq_none (by rw [hn]; omega)) fun h' he' => ?_))
    refine wpAny_pure (hR h' s.toks t c (fun b o e => (he' b o (fun z => by rw [z, hI0] at e; cases e) (hkp b o e))) (fun _ => rfl) (fun z => absurd z (by omega)) ?_)
    have e0 : flat (ls.drop i) = [] := by rw [hin, List.drop_length] <;> rfl
    rw [e0, List.append_nil]
    exact he' t _ h1 ht
  | succ k ih =>
    intro i s t acc c cc hk hi hst hax' hkp hsz hS ht h1 h2 hz hR
    have hlt : i < ls.length := by omega
    obtain ⟨p, hp⟩ : ∃ p, ls[i]? = some p := ⟨ls[i], List.getElem?_eq_getElem hlt⟩
    have hx : items[i]? = some (Value.ref p.1) := by
      rw [← Array.getElem?_toList, hit, List.getElem?_map, hp] <;> rfl
    obtain ⟨cp, hlp⟩ := hl p (List.mem_of_getElem? hp)
    have nps : p.1 ≠ S := fun e => by
      have q : h0.get? p.1 = some _ := hlp
      rw [e, hS0] at q; cases q
    have npi : p.1 ≠ I := fun e => by
      have q : h0.get? p.1 = some _ := hlp
      rw [e, hI0] at q; cases q
    have ed : ls.drop i = p :: ls.drop (i + 1) := by
      rw [List.drop_eq_getElem_cons hlt]
      congr 1
      rw [List.getElem?_eq_getElem hlt] at hp
      exact Option.some.inj hp
    have ef : flat (ls.drop i) = p.2 ++ flat (ls.drop (i + 1)) := by rw [ed] <;> rfl
    refine codeAny_builtin F.entry_sum_loop ?_
    rw [Around.under_plainId F.plain_sum_loop _]
    show wpAny _ A.in1 (seqItems? (.ref S) >>= _) _ _ s
    refine wpAny_bind (wpAny_seqItems hS rfl ?_)
    show wpAny _ A.in1 (tryCatch (pyNext (.ref I)) _ >>= _) _ _ s
    refine wpAny_bind (wpAny_tryCatch (wpAny_pyNext_list_item hst hax' hx fun h1' hit' hs' => ?_))
    have hs1 := hs'.extBut
    have hS1 : IsL h1' S #[.ref t] cc := hs1 S _ hIS.symm hS
    have ht1 : IsL h1' t acc.toArray c := hs1 t _ h1 ht
    have hk1 : ∀ b o, h0.get? b = some o → h1'.get? b = some o := fun b o e => hs1 b o (fun z => by rw [z, hI0] at e; cases e) (hkp b o e)
    have hsz1 : h0.objs.size ≤ h1'.objs.size := by rw [hs'.1]; exact hsz
    have hp1 : IsL h1' p.1 p.2.toArray cp := hk1 _ _ hlp
    have hax1 : h1'.IsList ax items := by
      obtain ⟨o, ho, r⟩ := hax'
      exact ⟨o, hs1 ax o nai ho, r⟩
    show wpAny _ A.in1 ((holding [Value.ref p.1] (binaryOp .Add (.ref t) (.ref p.1))).attempt >>= _) _ _ _
    have lsz : acc.length + p.2.length ≤ sizeLine := by
      rw [ef, List.length_append] at hz
      omega
    refine wpAny_bind (wpAny_attempt (wpAny_holding (P.add_list (s := { s with heap := h1' }) ht1 hp1 ?_ (by rw [List.size_toArray, List.size_toArray]; exact lsz))))
    have eap : acc.toArray ++ p.2.toArray = (acc ++ p.2).toArray := by simp
    rw [eap]
    have gT : IsL (h1'.push { cls := .type "list", data := .seq (acc ++ p.2).toArray }) h1'.objs.size (acc ++ p.2).toArray 0 := IsL.new _ _
    have lS : S < h1'.objs.size := Heap.lt_size hS1
    have lI : I < h1'.objs.size := let ⟨_, e, _⟩ := hit'; Heap.lt_size e
    have hS2 : IsL (h1'.push { cls := .type "list", data := .seq (acc ++ p.2).toArray }) S #[.ref t] cc := hS1.push _
    show wpAny _ A.in1 (updateSeq S (fun _ => #[.ref h1'.objs.size]) >>= _) _ _ { s with heap := h1'.push { cls := .type "list", data := .seq (acc ++ p.2).toArray } }
    refine wpAny_bind (wpAny_updateSeq hS2 rfl ?_)
    have hS3 := Heap.get?_update_self (Obj.mapSeq fun _ => #[Value.ref h1'.objs.size]) hS2 rfl
    refine wpAny_bind (wpAny_letGo ?_)
    refine wpAny_bind (wpAny_updateSeq hS3 rfl ?_)
    have hS4 := Heap.get?_update_self (Obj.mapSeq fun _ => #[Value.ref h1'.objs.size]) hS3 rfl
    have up : ∀ b o, b ≠ S → h1'.get? b = some o → (((h1'.push { cls := .type "list", data := .seq (acc ++ p.2).toArray }).update S (Obj.mapSeq fun _ => #[Value.ref h1'.objs.size])).update S (Obj.mapSeq fun _ => #[Value.ref h1'.objs.size])).get? b = some o := fun b o hb e =>
      (Heap.get?_update_other _ _ (Ne.symm hb)).trans ((Heap.get?_update_other _ _ (Ne.symm hb)).trans (Heap.get?_push_of_some _ e))
    refine wpAny_pure ⟨plainId_quiet F.plain_sum_loop _, ih (i + 1) _ h1'.objs.size (acc ++ p.2) 0 _ (by omega) hlt (hit'.at fun o e => up I o hIS e) ?_ (fun b o e => up b o (fun z => by rw [z, hS0] at e; cases e) (hk1 b o e)) (by rw [Heap.size_update, Heap.size_update, Heap.size_push]; exact Nat.le_succ_of_le hsz1) hS4 ?_ (Nat.ne_of_gt lI) (Nat.ne_of_gt lS) ?_ fun h' tk t' c' k1 k2 k3 k4 => ?_⟩
    · obtain ⟨o, ho, r⟩ := hax1
      exact ⟨o, up ax o nas ho, r⟩
    · exact (Heap.get?_update_other _ _ (Nat.ne_of_lt lS)).trans ((Heap.get?_update_other _ _ (Nat.ne_of_lt lS)).trans gT)
    · rw [List.length_append]
      rw [ef, List.length_append] at hz
      omega
    · refine hR h' tk t' c' k1 (fun z => absurd z (by omega)) (fun _ => ?_) ?_
      · rcases Nat.lt_or_ge (i + 1) ls.length with z | z
        · exact k3 z
        · rw [k2 (by omega)]
          exact hsz1
      · rw [ef, ← List.append_assoc]
        exact k4
variable {s : Shared}
theorem call_sumLL {l st : Addr} {acc : List Value} {c : Nat} {Q : Value → Shared → Prop} (hh : A.handled = none) (ls : List (Addr × List Value)) (items : Array Value) (hL : s.heap.IsList l items) (hit : items.toList = ls.map fun p => Value.ref p.1)
    (hl : ∀ p ∈ ls, ∃ c, IsL s.heap p.1 p.2.toArray c) (hst : IsL s.heap st acc.toArray c) (hz : acc.length + (flat ls).length ≤ sizeLine)
    (h : ∀ h' tk t' c', (∀ b o, s.heap.get? b = some o → h'.get? b = some o) → (ls = [] → t' = st) → (ls ≠ [] → s.heap.objs.size ≤ t') → IsL h' t' (acc ++ flat ls).toArray c' → Q (.ref t') { s with heap := h', toks := tk }) :
    wpAny (model prog w) A (call (.builtin "sum") [.ref l, .ref st]) Q E s := by
  refine call_function_tree F.kind_sum F.plain_sum F.entry_sum (args_sum2 _ _) ?_
  unfold Builtin.«sum»
  simp only [List.length_cons, List.length_nil]
  rw [if_neg (by decide)]
  refine wpAny_bind (wpAny_of_eq (show Builtin.Builtins.bindParams "sum" ["start"] 0 ⟨[.ref st], []⟩ = pure [some (.ref st)] from rfl) ?_)
  refine wpAny_bind (wpAny_pyIter_list hL ?_)
  refine wpAny_bind (wpAny_pure ?_)
  have oT : Shared.TypeIs { s with heap := s.heap.push { cls := .type "list_iterator", data := .fields #[.ref l, .int 0 0] } } (.ref st) "list" := ⟨_, hst.push _, rfl⟩
  simp only [List.forIn_cons, List.forIn_nil]
  refine wpAny_bind (wpAny_bind (wpAny_bind (wpAny_isInstance (T := "list") (b := false) oT F.sub_list_str ?_)))
  simp only [Bool.false_eq_true, if_false]
  refine wpAny_pure (wpAny_bind (wpAny_bind (wpAny_isInstance (T := "list") (b := false) oT F.sub_list_bytes ?_)))
  simp only [Bool.false_eq_true, if_false]
  refine wpAny_pure (wpAny_bind (wpAny_bind (wpAny_isInstance (T := "list") (b := false) oT F.sub_list_bytearray ?_)))
  simp only [Bool.false_eq_true, if_false]
  refine wpAny_pure (wpAny_pure ?_)
  refine wpAny_bind (wpAny_newObj_type ?_)
  generalize ho : ({ cls := .type "list_iterator", data := .fields #[.ref l, .int 0 0] } : Obj) = oi at oT ⊢
  have hz1 : (s.heap.push oi).objs.size = s.heap.objs.size + 1 := Heap.size_push ..
  have none_of : ∀ b, s.heap.objs.size ≤ b → s.heap.get? b = none := fun b hb => by
    cases q : s.heap.get? b with
    | none => rfl
    | some o => exact absurd (Nat.lt_of_lt_of_le (Heap.lt_size q) hb) (Nat.lt_irrefl _)
  have gi : (s.heap.push oi).get? s.heap.objs.size = some oi := Heap.get?_push_size _ (by rw [← ho] <;> rfl)
  have hlt : st < s.heap.objs.size := Heap.lt_size hst
  refine wpAny_pure ⟨plainId_quiet F.plain_sum_loop _, sum_loopL (show A.in1.handled = none by simpa using hh) s.heap.objs.size l (s.heap.push oi).objs.size s.heap ls (none_of _ (Nat.le_refl _)) (none_of _ (by rw [hz1]; exact Nat.le_succ _)) (let ⟨o, e, _⟩ := hL; ⟨o, e⟩) (by rw [hz1]; exact Nat.ne_of_lt (Nat.lt_succ_self _)) hl items hit
    ls.length 0 _ st acc c 0 rfl (Nat.zero_le _) ⟨oi, Heap.get?_push_of_some _ gi, by rw [← ho] <;> rfl, by rw [← ho] <;> rfl⟩ (let ⟨o, e, r⟩ := hL; ⟨o, Heap.get?_push_of_some _ (Heap.get?_push_of_some _ e), r⟩) (fun b o e => Heap.get?_push_of_some _ (Heap.get?_push_of_some _ e))
    (by rw [Heap.size_push, Heap.size_push]; omega) (Heap.get?_push_size _ rfl) ((hst.push _).push _) (Nat.ne_of_lt hlt) (by rw [hz1]; exact Nat.ne_of_lt (Nat.lt_succ_of_lt hlt)) (by rw [List.drop_zero]; exact hz) fun h' tk t' c' k1 k2 k3 k4 => ?_⟩
  rw [List.drop_zero] at k4
  exact h h' tk t' c' k1 (fun e => k2 (by rw [e] <;> rfl)) (fun e => k3 (List.length_pos_iff.mpr e)) k4
end
section
variable {X : Cx}
/-- sum(xss, ys) of a list of lists: ys itself where xss is empty, else a new list -/
def rSumL : List V → Hp → VK → Prop := fun vs H Q => ∃ (l st : Addr) (ls : List (Addr × List V)) (ys : List V), vs = [.ref l, .ref st] ∧ H l = some (.lst (ls.map fun p => V.ref p.1)) ∧ (∀ p ∈ ls, H p.1 = some (.lst p.2)) ∧ H st = some (.lst ys) ∧ ys.length + (ls.map (·.2)).flatten.length ≤ sizeLine ∧
  (ls = [] → Q (.ref st) H) ∧ ∀ p, H p = none → Q (.ref p) (upd H p (.lst (ys ++ (ls.map (·.2)).flatten)))
theorem raw_lists {pins : List (Addr × Obj)} {σ : L2.St} {H : Hp} {s : Shared} (I : Inv X pins σ H s) : ∀ ls : List (Addr × List V), (∀ p ∈ ls, H p.1 = some (.lst p.2)) →
    ∃ rs : List (Addr × List Value), rs.map (·.1) = ls.map (·.1) ∧ (∀ p ∈ rs, ∃ c, IsL s.heap p.1 p.2.toArray c) ∧ Vals (ls.map (·.2)).flatten (flat rs)
  | [], _ => ⟨[], rfl, fun _ h => absurd h (by simp), .nil⟩
  | p :: ls, h => by
    obtain ⟨rs, e1, e2, e3⟩ := raw_lists I ls fun q hq => h q (List.mem_cons_of_mem _ hq)
    obtain ⟨z, its, n, r, hl, e⟩ := I.lstM (h p List.mem_cons_self)
    refine ⟨(p.1, its) :: rs, by rw [List.map_cons, List.map_cons, e1], fun q hq => ?_, r.append e3⟩
    rcases List.mem_cons.mp hq with z | z
    · subst z
      exact ⟨n, e⟩
    · exact e2 q z
theorem cr_sumL (hc : X.calm = true) : CallR X (.builtin "sum") rSumL := by
  intro pins s σ H vs us Q I r h
  obtain ⟨l, st, ls, ys, rfl, hl, hls, hst, hz, q0, q⟩ := h
  cases r with
  | cons r1 rt =>
  cases rt with
  | cons r2 rt =>
  cases rt
  cases r1
  cases r2
  obtain ⟨rs, e1, e2, e3⟩ := raw_lists I ls hls
  obtain ⟨z, its, n, rv, hlen, e⟩ := I.lstM hl
  obtain ⟨z2, its2, n2, rv2, hlen2, eS⟩ := I.lstM hst
  have hits : its = rs.map fun p => Value.ref p.1 := by
    have a : Vals ((rs.map (·.1)).map V.ref) its := by
      rw [e1, List.map_map]
      exact rv
    have : ∀ (as : List Addr) (us : List Value), Vals (as.map V.ref) us → us = as.map Value.ref := by
      intro as
      induction as with
      | nil => intro us h; cases h; rfl
      | cons a as ih =>
        intro us h
        cases h with
        | cons r t =>
          cases r
          rw [ih _ t] <;> rfl
    rw [this _ _ a, List.map_map] <;> rfl
  have hf : (flat rs).length = (ls.map (·.2)).flatten.length := e3.length.symm
  refine call_sumLL (I.ok.hd hc) rs its.toArray (IsL.isList e) (by simpa using hits) e2 eS (by rw [← hlen2, hf]; exact hz) fun h' tk t' c' k1 k2 k3 k4 => ?_
  have J : Inv X pins σ H { s with heap := h', toks := tk } := I.kept (t' := tk) k1
  rcases Classical.em (ls = []) with z | z
  · have zr : rs = [] := by
      have := congrArg List.length e1
      rw [z] at this
      exact List.eq_nil_of_length_eq_zero (by simpa using this)
    rw [k2 zr]
    exact ⟨.ref st, H, J, rfl, q0 z⟩
  · have zr : rs ≠ [] := fun q => z (by
      have := congrArg List.length e1
      rw [q] at this
      exact List.eq_nil_of_length_eq_zero (by simpa using this.symm))
    have k5 := k3 zr
    refine ⟨.ref t', _, I.laid (t' := tk) (o := .lst (ys ++ (ls.map (·.2)).flatten)) k1 k5 ⟨by rw [List.length_append]; exact hz, _, c', rv2.append e3, k4⟩, rfl, q _ (I.hok.fresh k5)⟩
end
end Mv
/-! A tuple times one; a dict of pairs with tuple keys. -/
namespace Mv
open PySem PySem.Spec PyProof.Rows L2
theorem tuple_mul1 (l : Addr) (items : Array Value) (n : Nat) (dd : Option Addr) (sl : Array (Option Value)) (u : Tok) :
    Meets (Builtin.«tuple.__mul__» ⟨[.ref l, .int 1 u], []⟩) (fun _ R s => s.heap.get? l = some { cls := .type "tuple", dict := dd, data := .seq items n, slots := sl } ∧ R (.ok (.ret (Value.ref l))) { s with toks := s.toks }) :=
  .of_wp fun prog w A R s h => by
    obtain ⟨hp, g, d, tk, os⟩ := s
    obtain ⟨hl, h⟩ := h
    have f1 := AutoSeq1.idx_int
    have c0 : ¬ (decide ((1 : Int) < -(2 ^ 63)) || decide ((1 : Int) ≥ 2 ^ 63)) = true := by decide
    have c1 : (items.isEmpty || (1 : Int) == 1) = true := by simp
    wp_walk using AutoSeq1.wpAny_loadPart' hl
    repeat (first
      | (refine wpAny_ite_false (decide_eq_false c0) ?_; wp_walk using AutoSeq1.wpAny_loadPart' hl)
      | (refine wpAny_ite_true (decide_eq_true c1) ?_; wp_walk using AutoSeq1.wpAny_loadPart' hl))
    exact ⟨_, rfl, h⟩
/-- a tuple times a small count: the very tuple where it is 1 -/
def rRepU (K : PySem.W.Frag) : R2 := fun x y H Q => ∃ l k xs, x = .ref l ∧ y = .int k ∧ SqT K H l xs ∧ xs ≠ [] ∧ 1 ≤ k ∧ k ≤ 1000 ∧ xs.length ≤ 1000 ∧ (k = 1 → Q (.ref l) H) ∧ (k ≠ 1 → ∀ p, H p = none → Q (.ref p) (upd H p (.tup (List.replicate k.toNat xs).flatten)))
section
variable {X : Cx}
theorem op_repU : OpR X (binaryOp .Mult) (rRepU X.K) := by
  intro pins s σ H x y v u Q I rx ry h
  obtain ⟨l, k, xs, rfl, rfl, hT, hne, h1, h2, hz, q1, q2⟩ := h
  by_cases e : k = 1
  · subst e
    cases rx
    obtain ⟨t, rfl⟩ := ry
    obtain ⟨its, r, ⟨⟨cls, dd, data, sl⟩, ho, hc, n, hd⟩, hs⟩ := I.tuple hT
    simp only at hc hd
    subst hc hd
    refine wpAny_binaryOp_repeat_ref (T := "tuple") (U := "int") (by decide) ⟨_, ho, rfl⟩ (fun s' => typeIs_int s' 1 t) noFill_tuple_mul F.fills_int_mul F.slot_int_rmul repeat_tuple F.slot_int_index.lookup
      (call_meets F.slot_int_rmul (typeIs_int s 1 t) F.entry_int_rmul (F.args_int_rmul_2 _ _) (int_rmul_tuple 1 t l its.toArray n dd sl)
        ⟨ho, rfl, ⟨_, ho, rfl⟩, call_meets F.slot_tuple_mul ⟨_, ho, rfl⟩ F.entry_tuple_mul (F.args_tuple_mul_2 _ _) (tuple_mul1 l its.toArray n dd sl t) ⟨ho, ?_⟩⟩)
    exact ⟨.ref l, H, I, rfl, q1 rfl⟩
  · exact op_repT pins s σ H _ _ _ _ Q I rx ry ⟨l, k, xs, rfl, rfl, hT, hne, by omega, h2, hz, q2 e⟩

/-! ### dict(pairs), the keys tuples -/
theorem raw_pairs {pins : List (Addr × Obj)} {σ : L2.St} {H : Hp} {s : Shared} (I : Inv X pins σ H s) : ∀ ps : List (Addr × List Key × Addr × V), (∀ p ∈ ps, H p.1 = some (.tup [.ref p.2.2.1, p.2.2.2])) →
    ∃ rs : List (Addr × List Key × Addr × Value), rs.map (fun r => Value.ref r.1) = ps.map (fun p => Value.ref p.1) ∧ (∀ r ∈ rs, s.heap.IsTuple r.1 #[.ref r.2.2.1, r.2.2.2]) ∧
      Paired (fun (p : Addr × List Key × Addr × V) (r : Addr × List Key × Addr × Value) => p.1 = r.1 ∧ p.2.1 = r.2.1 ∧ p.2.2.1 = r.2.2.1 ∧ RelV p.2.2.2 r.2.2.2) ps rs
  | [], _ => ⟨[], rfl, fun _ h => absurd h (by simp), .nil⟩
  | p :: ps, h => by
    obtain ⟨rs, e1, e2, e3⟩ := raw_pairs I ps fun q hq => h q (List.mem_cons_of_mem _ hq)
    obtain ⟨its, rv, pl, _⟩ := I.tuple (xs := [.ref p.2.2.1, p.2.2.2]) (.inl (.inl (h p List.mem_cons_self)))
    cases rv with
    | cons r1 rt =>
    cases rt with
    | cons r2 rt =>
    cases rt
    cases r1
    rename_i u2
    refine ⟨(p.1, p.2.1, p.2.2.1, u2) :: rs, by rw [List.map_cons, List.map_cons, e1], fun q hq => ?_, .cons ⟨rfl, rfl, rfl, r2⟩ e3⟩
    rcases List.mem_cons.mp hq with z | z
    · subst z
      exact pl
    · exact e2 q z
def rDictPT : List V → Hp → VK → Prop := fun vs H Q => ∃ (l : Addr) (ps : List (Addr × List Key × Addr × V)), vs = [.ref l] ∧ H l = some (.lst (ps.map fun p => V.ref p.1)) ∧ (∀ p ∈ ps, H p.1 = some (.tup [.ref p.2.2.1, p.2.2.2])) ∧ (∀ p ∈ ps, H p.2.2.1 = some (.tup (p.2.1.map kV))) ∧
  ∀ d, H d = none → Q (.ref d) (upd H d (.dT (ps.foldl (fun acc p => putK acc p.2.1 p.2.2.2) [])))
theorem kt_fold {H : Hp} : ∀ {ps : List (Addr × List Key × Addr × V)} {rs : List (Addr × List Key × Addr × Value)} {kvs : List (List Key × V)} {xs : List (List Key × Addr × Value)},
    Paired (fun (p : Addr × List Key × Addr × V) (r : Addr × List Key × Addr × Value) => p.1 = r.1 ∧ p.2.1 = r.2.1 ∧ p.2.2.1 = r.2.2.1 ∧ RelV p.2.2.2 r.2.2.2) ps rs → (∀ p ∈ ps, H p.2.2.1 = some (.tup (p.2.1.map kV))) → KT H kvs xs →
    KT H (ps.foldl (fun acc p => putK acc p.2.1 p.2.2.2) kvs) (storedAllH xs (rs.map fun r => r.2))
  | _, _, _, _, .nil, _, r => r
  | _, _, _, _, .cons (a := p) (b := q) (l₁ := ps) (l₂ := rs) h t, hk, r => by
    obtain ⟨h1, h2, h3, h4⟩ := h
    have z := KT.put r p.2.1 (hk p List.mem_cons_self) h4
    rw [h2, h3] at z
    have w := kt_fold t (fun x hx => hk x (List.mem_cons_of_mem _ hx)) z
    show KT H (ps.foldl _ (putK _ p.2.1 p.2.2.2)) (storedAllH (storedH _ q.2.1 q.2.2.1 q.2.2.2) (rs.map fun r => r.2))
    rw [h2]
    exact w
theorem paired_at {α β : Type} {F : α → β → Prop} : ∀ {xs : List α} {ys : List β}, Paired F xs ys → ∀ (i : Nat) (y : β), ys[i]? = some y → ∃ x, xs[i]? = some x ∧ F x y
  | _, _, .nil, i, y, h => by simp at h
  | _, _, .cons (a := a) h t, 0, y, e => by
    cases (Option.some.inj (show some _ = some y from e))
    exact ⟨a, rfl, h⟩
  | _, _, .cons h t, i + 1, y, e => paired_at t i y e
theorem cr_dictPT (hc : X.calm = true) (hu : X.A.units + 64 < cLine) : CallR X (.type "dict") rDictPT := by
  intro pins s σ H vs us Q I r h
  obtain ⟨l, ps, rfl, hl, hp, hk, q⟩ := h
  rw [Vals.ref1 r]
  obtain ⟨rs, e1, e2, e3⟩ := raw_pairs I ps hp
  obtain ⟨z, its, n, rv, hlen, e⟩ := I.lstM hl
  have refs : ∀ (as : List Addr) (us : List Value), Vals (as.map V.ref) us → us = as.map Value.ref := by
    intro as
    induction as with
    | nil => intro us h; cases h; rfl
    | cons a as ih =>
      intro us h
      cases h with
      | cons r t =>
        cases r
        rw [ih _ t] <;> rfl
  have hits : its = rs.map fun p => Value.ref p.1 := by
    rw [e1]
    have := refs (ps.map (·.1)) its (by rw [List.map_map]; exact rv)
    rw [this, List.map_map] <;> rfl
  have hpl : ps.length = rs.length := Paired.length e3
  have key : ∀ r ∈ rs, H r.2.2.1 = some (.tup (r.2.1.map kV)) := by
    intro r hr
    obtain ⟨i, hi, ei⟩ := List.mem_iff_getElem.mp hr
    obtain ⟨p, hpi, h1, h2, h3, h4⟩ := paired_at e3 i r (by rw [List.getElem?_eq_getElem hi, ei])
    rw [← h3, ← h2]
    exact hk p (List.mem_of_getElem? hpi)
  have hraw : (rs.map fun r => (Value.ref r.2.2.1, r.2.2.2)).length = rs.length := List.length_map _
  have zlen : rs.length ≤ sizeLine := by
    rw [List.length_map] at z
    omega
  refine call_dict_pairsH (knd := tupleKind (mixKind X.prog X.w)) (ps := rs.map fun r => r.2) (PairArg.list l its.toArray (fun j => (rs.getD j default).1) (rs.map fun r => (Value.ref r.2.2.1, r.2.2.2))) (I.ok.hd hc) (show X.A.units + 2 < cLine by omega) ⟨⟨_, n, e, rfl, rfl, rfl⟩, ?_, ?_⟩ ⟨by rw [List.length_map, List.length_map], ?_⟩ ?_ (by rw [hraw]; exact zlen) fun h' tk hd' hk' => ?_
  · rw [hits, List.size_toArray, List.length_map, List.length_map]
  · intro j k v hj
    rw [List.getElem?_map] at hj
    obtain ⟨r, hr, er⟩ := Option.map_eq_some_iff.mp hj
    have ed : rs.getD j default = r := by rw [List.getD_eq_getElem?_getD, hr] <;> rfl
    cases er
    show its.toArray[j]? = some (Value.ref (rs.getD j default).1) ∧ PairAt s.heap (rs.getD j default).1 _ _
    rw [ed]
    refine ⟨?_, .inl (e2 r (List.mem_of_getElem? hr))⟩
    rw [hits, List.getElem?_toArray, List.getElem?_map, hr] <;> rfl
  · intro i kk v hi
    have hi : (rs.map fun r => (Value.ref r.2.2.1, r.2.2.2))[i]? = some (kk, v) := hi
    rw [List.getElem?_map] at hi
    obtain ⟨r, hr, er⟩ := Option.map_eq_some_iff.mp hi
    cases er
    exact ⟨r.2.1, r.2.2.1, by rw [List.getElem?_map, hr] <;> rfl, rfl⟩
  · intro h' hk' x hx
    obtain ⟨r, hr, rfl⟩ := List.mem_map.mp hx
    have hkey := key_of I.hok (key r hr)
    refine tupleKind_stays.stays (fun b o vs n hb hd => hk' b o (Nat.ne_of_lt (Heap.lt_size hb)) (by simp) hb) hkey
  · have rel : KT H (ps.foldl (fun acc p => putK acc p.2.1 p.2.2.2) []) (storedAllH [] (rs.map fun r => r.2)) := kt_fold e3 hk .nil
    have keep : ∀ b o, s.heap.get? b = some o → h'.get? b = some o := fun b o e => hk' b o (by simp) e
    have hn : H s.heap.objs.size = none := I.hok.fresh (Nat.le_refl _)
    have hl2 : (ps.foldl (fun acc p => putK acc p.2.1 p.2.2.2) ([] : List (List Key × V))).length ≤ sizeLine := by
      have a := Paired.length rel
      have b := storedAllH_length (rs.map fun r => r.2) ([] : List (List Key × Addr × Value))
      rw [List.length_map, List.length_nil] at b
      omega
    obtain ⟨o, es, ep, ho, h2, h3, h4, _, h5⟩ := hd'
    refine ⟨.ref s.heap.objs.size, _, I.laid (t' := tk) (o := .dT (ps.foldl (fun acc p => putK acc p.2.1 p.2.2.2) [])) keep (Nat.le_refl _) ⟨hl2, beq_eq_false_iff_ne.mpr (Ne.symm (Nat.ne_of_lt I.big)), _, rel.keeps fun c ys ec => ?_, o, es, ep, ho, h2, h3, h4, h5⟩, rfl, q _ hn⟩
    exact (upd_ne (fun z => by rw [z, hn] at ec; cases ec)).trans ec
end
end Mv
/-! Defs of which one knows that nothing is being written out when they are called. -/
namespace Mv
open PySem PySem.Spec PyProof.Rows L2
structure FnG (P : Program) (w : World) (K : PySem.W.Frag) (mg : Str → Option Value) (base : Heap) (CX : CXT) (k : Nat) (f : Addr) (fd : FuncData) (ps : List Str) (sp : Sp) : Prop where
  len : ∀ vs H Q E, sp vs H Q E → vs.length = ps.length
  run : ∀ (A : Around) (outer : List Env) (s : Shared) (H : Hp) (args : Args) (us : List Value) (vs : List V) (Q : VK) (E : XK), A.guards = some [] → Room k A → Env0 P w K mg base A outer s H → BindsTo s fd args (ps.zip us) → Vals vs us → sp vs H Q E →
    codeAny (model P w) A (.call (.ref f) args) (CR CX outer P w H s Q E) s
theorem fn_ofG {CX : CXT} {P : Program} {w : World} {K : PySem.W.Frag} {mg : Str → Option Value} {base : Heap} {k : Nat} {f : Addr} {name qual : Str} {params : Arguments} {body : List Stmt} {scope : Scope} {dV kV doc pm cdv ct oc : Value} {an od : Option Addr}
    {osl : Array (Option Value)} {N ps : List Str} {sp : Sp} (lk : K.lookup f = some ⟨oc, od, .func (PySem.W.fnOf name qual params body scope dV kV doc pm an cdv ct), osl⟩) (hcd : PySem.W.codeIn K cdv qual = true) (S : FnScope N ps scope)
    (len : ∀ vs H Q E, sp vs H Q E → vs.length = ps.length)
    (hbody : ∀ (A : Around) (outer : List Env) (s : Shared) (H : Hp) (vs : List V) (Q : VK) (E : XK), A.guards = some [] → Room k (A.deeper (envOfC qual scope s.heap.objs.size f cdv)) → sp vs H Q E →
      ∃ t, PSs (cxOf CX P w K mg base N qual scope f cdv A outer s H E) body t ∧ t { nx := fun _ H' => Q .non H', rt := Q } (start N vs) H) :
    FnG P w K mg base CX (k + 1) f (PySem.W.fnOf name qual params body scope dV kV doc pm an cdv ct) ps sp := by
  refine ⟨len, fun A outer s H args us vs Q E hgd hr e0 hb r hsp => ?_⟩
  have hl := len _ _ _ _ hsp
  have KX : K.In s.heap := e0.mod.kin.keeps fun b o e => (e0.bs b o e).1
  have lim : s.heap.NoLimit := e0.mod.nolimit.keeps fun b o e => (e0.bs b o e).1
  have hkind : ∀ y ∈ ps.zip us, scope.names.lookup y.1 = some .local ∨ (scope.names.lookup y.1 = some .cell ∧ ((cellsFrom (s.heap.objs.size + 1) scope.names []).lookup y.1).isSome = true) := fun ⟨n, v⟩ hy => by
    rcases S.par n (List.of_mem_zip hy).1 with q | q
    · exact .inl q
    · exact .inr ⟨q, PySem.W.cellsFrom_some _ _ _ (.inl q)⟩
  refine codeAny_call_function hr.depth (KX _ _ lk) rfl S.co S.gen rfl (PySem.W.codeRec_of KX hcd) (hb _ _ _ _ ?_)
  refine wpAny_newFunctionEnv_cells S.kind hkind fun env he s1 x => ?_
  subst he
  refine ⟨lim.keeps x.toInCall.keep, codeAny_func ?_⟩
  obtain ⟨t, ht, hq⟩ := hbody A outer s H vs Q E hgd (hr.deeper _) hsp
  have I : Inv (cxOf CX P w K mg base N qual scope f cdv A outer s H E) [] (start N vs) H s1 := inv_start S hr.hd e0 hl r x
  refine wpAny_mono (ht.run [] s1 (start N vs) H _ I hq) (fun fl s' hs => ?_) fun e s' hs => hs
  have fin : ∀ {σ' : L2.St} {H' : Hp} {v : V} {u : Value}, Inv (cxOf CX P w K mg base N qual scope f cdv A outer s H E) [] σ' H' s' → RelV v u → Q v H' → CE outer P w H s Q u s' :=
    fun {σ' H' v u} J rv q => ⟨v, H', J.os, J.bare, J.base, J.hok, rv, q⟩
  cases fl with
  | ret u =>
    obtain ⟨v, σ', H', J, rv, q⟩ := hs
    exact fin J rv q
  | next =>
    obtain ⟨σ', H', J, q⟩ := hs
    exact fin (v := V.non) (u := Value.none) J rfl q
  | brk =>
    obtain ⟨_, _, _, q⟩ := hs
    exact False.elim q
  | cont =>
    obtain ⟨_, _, _, q⟩ := hs
    exact False.elim q

section
variable {X : Cx} {CX : CXT} {k : Nat} {f C : Addr} {fd : FuncData} {ps : List Str} {sp : Sp} {dvs : List V} {ds : List Value} {E : XK} {x m : Str} {p pos apos : Pos} {e o : Expr} {es : List Expr} {ta : TE} {t : TA}
theorem run_fnG {pins : List (Addr × Obj)} {σ : L2.St} {H : Hp} {s : Shared} {Q : VK} {us : List Value} {vs : List V} (F : FnG X.prog X.w X.K X.mg X.base CX k f fd ps sp) (hgd : X.A.guards = some []) (hr : Room k X.A) (hb : Binds X.K fd ps ds) (hd : Vals dvs ds) (hx : Passes CX X E)
    (I : Inv X pins σ H s) (r : Vals vs us) (h : sp (vs ++ dvs) H Q E) : wpAny (model X.prog X.w) X.A (call (.ref f) us) (EP X pins σ Q) X.xe s := by
  have r2 : Vals (vs ++ dvs) (us ++ ds) := r.append hd
  have hl : (us ++ ds).length = ps.length := by rw [← r2.length]; exact F.len _ _ _ _ h
  refine wpAny_call (codeAny_mono (F.run X.A X.stack s H ⟨us, []⟩ (us ++ ds) (vs ++ dvs) Q E hgd hr I.env0 (hb s us I.kIn hl) r2 h) fun r s' hq => ?_)
  cases r with
  | error e => exact hx pins σ H s e s' I hq
  | ok fl =>
    cases fl with
    | ret u => exact I.after hq
    | next => exact False.elim hq
    | brk => exact False.elim hq
    | cont => exact False.elim hq
theorem pe_callG (F : FnG X.prog X.w X.K X.mg X.base CX k f fd ps sp) (hgd : X.A.guards = some []) (hr : Room k X.A) (hg : Gl X x) (hm : X.mg x = some (.ref f)) (hk : PySem.W.keepIn X.K (.ref f) = true) (hb : Binds X.K fd ps ds) (hd : Vals dvs ds) (hx : Passes CX X E)
    (ha : PA X (e :: es) t) (hdb : (x == ("__debug__" : Str)) = false := by decide) (he : starEach (e :: es) X.env = (false, eval e X.env) :: starEach es X.env := by rfl) (hpl : (backTo pos (starEach es X.env)).any (·.1) = false := by rfl) :
    PE X (.Call (.Name x p) (e :: es) [] pos) (tCall sp dvs E t) := by
  refine ⟨fun pins s σ H Q I h => ?_⟩
  refine wpAny_Call_Name_kw (ld_glob I hg hm ?_ hdb)
  refine PySem.W.callWith_K (h₀ := X.base) I.ok.mod.kin hk (thn (ha.run pos pins s σ H _ I h) fun us s1 ⟨vs, H1, I1, r, q⟩ => ⟨I1.kIn, ?_⟩) he hpl
  exact run_fnG F hgd hr hb hd hx I1 r q
end
theorem law_callG {P : Program} {w : World} {K : PySem.W.Frag} {mg mb : Str → Option Value} {CX : CXT} {k : Nat} {fa a : Addr} {fd : FuncData} {x : Str} {sp : Sp} {s₁ : Shared} {vs : List Value} {ns : List Int}
    (KX : K.In s₁.heap) (hns : s₁.heap.Ns mainGlobals mg) (hb : s₁.heap.Ns builtinsNs mb) (hbb : ∀ x : Str, x ≠ "__name__" → mb x = bootBuiltins x) (hlim : s₁.heap.NoLimit) (hg : s₁.gens = #[])
    (ha : s₁.heap.get? a = some { cls := .type "list", data := .seq vs.toArray }) (hi : IntsAre vs ns) (hl : ns.length ≤ sizeLine) (hr : Room k callerA)
    (F : ∀ base : Heap, K.In base → base.Ns mainGlobals mg → FnG P w K mg base CX k fa fd [x] sp) (hbind : ∀ (s : Shared) (u : Value), BindsTo s fd ⟨[u], []⟩ [(x, u)])
    (hsp : ∀ H : Hp, Only H → SqL K H a (ns.map V.int) → sp [.ref a] H (fun v _ => v = .bl true) fun _ _ _ => False)
    (hCX : ∀ H e s', CX [] H s₁ (fun _ _ _ => False) e s' → False) :
    codeAny (model P w) callerA (.call (.ref fa) ⟨[.ref a], []⟩) (fun r s' => r = .ok (.ret (.bool true)) ∧ OldK s₁.heap s'.heap ∧ s'.os = s₁.os ∧ AllBare s'.gens) s₁ := by
  have rv := vals_ints hi
  have lenV := hi.length
  have core : ∀ H : Hp, Only H → SqL K H a (ns.map V.int) → HOk P w H s₁.heap → (∀ b, H b ≠ none → b = a) → (H a ≠ none → K.lookup a = none) →
      codeAny (model P w) callerA (.call (.ref fa) ⟨[.ref a], []⟩) (fun r s' => r = .ok (.ret (.bool true)) ∧ OldK s₁.heap s'.heap ∧ s'.os = s₁.os ∧ AllBare s'.gens) s₁ := by
    intro H hO hS hok hA hK
    have base_of : ∀ {b : Addr} {o : Obj}, s₁.heap.get? b = some o → H b = none → (hidT s₁.heap H).get? b = some o := fun e n => hidT_get e n
    have noA : ∀ {b : Addr} {o : Obj} {es : Array DictEntry} {ep : Nat}, s₁.heap.get? b = some o → o.data = .dict es ep → H b = none := fun {b o es ep} e d => by
      cases q : H b with
      | none => rfl
      | some u =>
        have e' : b = a := hA b (by rw [q]; simp)
        subst e'
        rw [ha] at e; cases e
        have d' : Data.seq vs.toArray _ = Data.dict es ep := d
        cases d'
    have nsK : ∀ {b : Addr} {m : Str → Option Value}, s₁.heap.Ns b m → (hidT s₁.heap H).Ns b m := fun {b m} ⟨o, es, ep, e, d, r⟩ => ⟨o, es, ep, base_of e (noA e d), d, r⟩
    have hKb : K.In (hidT s₁.heap H) := fun b o e => base_of (KX b o e) (by
      cases q : H b with
      | none => rfl
      | some u =>
        have e' : b = a := hA b (by rw [q]; simp)
        subst e'
        rw [hK (by rw [q]; simp)] at e; cases e)
    have hM : Mod K mg (hidT s₁.heap H) := ⟨hKb, nsK hns, ⟨mb, nsK hb, hbb⟩, let ⟨mc, h1, h2⟩ := hlim; ⟨mc, nsK h1, h2⟩⟩
    have e0 : Env0 P w K mg (hidT s₁.heap H) callerA [] s₁ H := ⟨rfl, hM, fun b o e => of_hidT e, Nat.le_of_eq (hidT_size _ _), trivial, fun b hb => absurd (show b ∈ ([] : List Addr) from hb) (by simp), hok, .of_eq hg⟩
    refine codeAny_mono ((F _ hKb (nsK hns)).run callerA [] s₁ H ⟨[.ref a], []⟩ [.ref a] [.ref a] _ _ rfl hr e0 (hbind s₁ (.ref a)) (.cons rfl .nil) (hsp H hO hS)) fun r s' h => ?_
    cases r with
    | error e => exact (hCX H e s' h).elim
    | ok fl =>
      cases fl with
      | next => exact False.elim h
      | brk => exact False.elim h
      | cont => exact False.elim h
      | ret u =>
        obtain ⟨v, H', os, bare, un, hok', r', q⟩ := h
        have q' : v = .bl true := q
        subst q'
        obtain rfl : u = Value.bool true := r'
        refine ⟨rfl, OldK.of_keep fun b o e => ?_, os, bare⟩
        cases q : H b with
        | none => exact un.keep b o e q (by intro z; exact absurd (show b ∈ ([] : List Addr) from z) (by simp)) (by simp)
        | some u =>
          rcases hO b with z | ⟨ob, xs, z⟩
          · rw [q] at z; cases z
          · have z2 := un.frzs b ob _ z
            obtain ⟨e1, _⟩ := hok b _ z
            obtain ⟨e2, _⟩ := hok' b _ z2
            rw [e] at e1; cases e1
            exact e2
  cases hk : K.lookup a with
  | some o =>
    have e := KX a o hk
    rw [ha] at e
    cases e
    refine core (fun _ => none) (fun _ => .inl rfl) (.inr ⟨_, vs.toArray, _, hk, rfl, rfl, rfl, by rw [List.size_toArray, lenV]; exact hl, by simpa using rv⟩) (fun b u z => by have z' : (none : Option HO) = some u := z; cases z') (fun b z => absurd rfl z) fun z => absurd rfl z
  | none =>
    refine core (fun b => if b = a then some (.frz { cls := .type "list", data := .seq vs.toArray } (.lst (ns.map V.int))) else none) (fun b => ?_) (.inl (.inr ⟨{ cls := .type "list", data := .seq vs.toArray }, if_pos rfl⟩)) (fun b u z => ?_) (fun b z => ?_) fun _ => hk
    · by_cases hb : b = a
      · exact .inr ⟨_, _, if_pos hb⟩
      · exact .inl (if_neg hb)
    · by_cases hb : b = a
      · have z' := (if_pos hb).symm.trans z
        cases z'
        subst hb
        exact ⟨ha, by rw [List.length_map]; exact hl, vs, _, rv, ha⟩
      · have z' := (if_neg hb).symm.trans z
        cases z'
    · by_cases hb : b = a
      · exact hb
      · exact absurd (if_neg hb) z

theorem walk_ofG {l : PySem.W.OpenLaw} {n k : Nat} {q : Program} {loose : List Str} {XP : (Str → Option Value) → Heap → Prop} {YP : World → Heap → Prop} {d : DefRec} {K : Params → PySem.W.Frag} {CX : World → CXT} {sp : World → Sp} {x : Str}
    (hn : l.most = some n) (hn2 : n ≤ sizeLine) (hdf : d.params.defaults = []) (hr : Room k callerA)
    (hY : ∀ (w : World) (h : Heap), YP w h → (K w.params).In h)
    (F : ∀ (w : World) (mg : Str → Option Value) (fa : Addr) (h : Heap), (K w.params).In h → h.Ns mainGlobals mg → mg d.name = some (.ref fa) →
      ∃ fd : FuncData, (∀ (s : Shared) (u : Value), BindsTo s fd ⟨[u], []⟩ [(x, u)]) ∧
        ∀ base : Heap, (K w.params).In base → base.Ns mainGlobals mg → FnG l.prog w (K w.params) mg base (CX w) k fa fd [x] (sp w))
    (hsp : ∀ (w : World) (H : Hp) (a : Addr) (ns : List Int), ns.length ≤ n → Only H → SqL (K w.params) H a (ns.map V.int) → sp w [.ref a] H (fun v _ => v = .bl true) fun _ _ _ => False)
    (hCX : ∀ (w : World) (H : Hp) (s : Shared) (e : Value) (s' : Shared), CX w [] H s (fun _ _ _ => False) e s' → False) :
    PySem.W.WalkO q loose XP YP l.row.toRowW d [] (fun f vs => PySem.call f vs) := by
  refine Att.attach_call hn hdf fun w s₀ s₁ mg mb fa o pm cd doc a vs ns G Y ho hd hcd hmg hobj hints hlen hg => ?_
  have KX := hY w _ Y
  obtain ⟨fd, hb, hF⟩ := F w mg fa _ KX G.T.g hmg
  exact law_callG KX G.T.g G.T.b G.T.builtins G.T.nolimit hg hobj hints (Nat.le_trans hlen hn2) hr hF hb (fun H hO hS => hsp w H a ns hlen hO hS) fun H e s' => hCX w H s₁ e s'

end Mv
/-! Either of list and tuple; what is not reached. -/
namespace Mv
open PySem PySem.Spec PyProof.Rows L2
section
variable {X : Cx}
def iEnumS (K : PySem.W.Frag) (ta : TA) : TI := fun σ H R => iEnum K ta σ H R ∨ iEnumU K ta σ H R
theorem pi_enumS {e : Expr} {ta : TA} {p pos tpos : Pos} {elts : List Expr} {kk : Nat} (hg : Gl X "enumerate") (hm : X.mg "enumerate" = none) (ha : PA X [e] ta) (hs : starEach [e] X.env = [(false, eval e X.env)] := by rfl) :
    PI X (.Tuple elts kk tpos) (.Call (.Name "enumerate" p) [e] [] pos) (iEnumS X.K ta) := pi_either (pi_enum hg hm ha hs) (pi_enumU hg hm ha hs)
def rSetS (K : PySem.W.Frag) (P : Program) (w : World) : List V → Hp → VK → Prop := fun xs H Q => rSetOfT K P w xs H Q ∨ rSetOfTU K P w xs H Q
theorem cr_setS (hc : X.calm = true) (hu : X.A.units + 64 < cLine) : CallR X (.type "set") (rSetS X.K X.prog X.w) := (cr_setOfT hc hu).or (cr_setOfTU hc hu)
def rSortS (K : PySem.W.Frag) (d : Nat) (B : Int) : List V → Hp → VK → Prop := fun xs H Q => rSortU K d B xs H Q ∨ rSortUU K d B xs H Q
theorem cr_sortS {d : Nat} {B : Int} (hd : 1 ≤ d) : CallR X (.builtin "sorted") (rSortS X.K d B) := (cr_sortT hd).or (cr_sortTU hd)
theorem pe_bm0K {K : PySem.W.Frag} (hK : X.K = K) {T id : String} {name : Str} {r : V → List V → Hp → VK → Prop} {o : Expr} {to : TE} {apos cpos : Pos} (pa : PlainAttrs T) (slot : Slot T name id) (hty : typeOf (.builtin id) = pure (.type "method_descriptor")) (hm : MtR X id r) (ho : PE X o to)
    (hbase : attributeBase o name X.env (eval o X.env) = eval o X.env := by rfl) (hline : (apos.endLine == cpos.line) = true := by rfl) : PE X (.Call (.Attribute o name apos) [] [] cpos) (tBM0 K T r to) := by
  subst hK
  exact pe_bm0 pa slot hty hm ho hbase hline
theorem pi_seqK {K : PySem.W.Frag} (hK : X.K = K) {tg l : Expr} {tl : TE} (h : PE X l tl) : PI X tg l (iSeq K tl) := by
  subst hK
  exact pi_seq h
def rTupOf (K : PySem.W.Frag) : List V → Hp → VK → Prop := fun xs H Q => ∃ p ys, xs = [.ref p] ∧ ((SqL K H p ys ∧ ∀ l, H l = none → Q (.ref l) (upd H l (.tup ys))) ∨ (SqT K H p ys ∧ Q (.ref p) H))
theorem ps_dead {st : Stmt} : PS X st (fun _ _ _ => False) := ⟨fun _ _ _ _ _ _ h => h.elim⟩
section
variable {CX : CXT} {k : Nat} {f : Addr} {fd : FuncData} {sp : Sp} {E : XK} {x y : Str} {p pos kpos : Pos} {e : Expr} {te : TE}
/-- f(y = e), the one parameter by its name -/
theorem pe_callK1 (F : FnOk X.prog X.w X.K X.mg X.base CX k f fd [y] sp) (hr : Room k X.A) (hg : Gl X x) (hm : X.mg x = some (.ref f)) (hk : PySem.W.keepIn X.K (.ref f) = true) (hb : ∀ (s : Shared) (u : Value), BindsTo s fd ⟨[], [(y, u)]⟩ [(y, u)]) (hx : Passes CX X E)
    (he : PE X e te) (hdb : (x == ("__debug__" : Str)) = false := by decide) :
    PE X (.Call (.Name x p) [] [⟨some y, e, kpos⟩] pos) (fun σ H Q => te σ H fun v H1 => sp [v] H1 Q E) := by
  refine ⟨fun pins s σ H Q I h => ?_⟩
  refine wpAny_Call_Name_kw (ld_glob I hg hm ?_ hdb)
  refine PySem.W.callWith_KW0 (h₀ := X.base) I.ok.mod.kin hk (by rfl) (thn ((pk_cons (nm := some y) (kpos := kpos) he pk_nil).run pos pins s σ H (fun zs H2 => ∃ v, zs = [v] ∧ sp [v] H2 Q E) I ?_) fun ws s2 ⟨zs, H2, I2, rz, v, ez, q2⟩ => ⟨I2.kIn, ?_⟩)
  · show te σ H _
    have : (fun v H1 => sp [v] H1 Q E) = (fun x H1 => tNil σ H1 fun xs H2 => ∃ v, x :: xs = [v] ∧ sp [v] H2 Q E) := by
      funext v H1
      exact propext ⟨fun h => ⟨v, rfl, h⟩, fun ⟨w, e, h⟩ => by cases e; exact h⟩
    rw [this] at h
    exact h
  · subst ez
    cases rz with
    | cons r1 rt =>
      cases rt
      rename_i w _
      show wpAny _ _ (call (.ref f) [] [(y, w)]) _ _ s2
      refine wpAny_call (codeAny_mono (F.run X.A X.stack s2 H2 ⟨[], [(y, w)]⟩ [w] [v] Q E hr I2.env0 (hb s2 w) (.cons r1 .nil) q2) fun r s' hq => ?_)
      cases r with
      | error e => exact hx pins σ H2 s2 e s' I2 hq
      | ok fl =>
        cases fl with
        | ret u => exact I2.after hq
        | next => exact False.elim hq
        | brk => exact False.elim hq
        | cont => exact False.elim hq
end
end
end Mv
/-! The text by places. -/
namespace Mv
open PySem PySem.Spec PyProof.Rows L2
theorem hu65_of {A : Around} {k : Nat} (hr : Room k A) : A.units + 65 < cLine := by have := hr.un; omega
def top (i : Nat) : Stmt := PySem.Challenge.pw_orderwide_k50_rows_common_to_many_lists.main.body.getD i (.Pass ⟨0, 0, 0, 0⟩)
abbrev s_is_integer : Stmt := top 6
abbrev s_is_list : Stmt := top 7
abbrev s_is_row : Stmt := top 8
abbrev s_is_any_row : Stmt := top 13
abbrev s_are_rows : Stmt := top 14
abbrev s_need_rows : Stmt := top 15
abbrev s_need_pair : Stmt := top 16
abbrev s_places_of : Stmt := top 17
abbrev s_piles_of : Stmt := top 18
abbrev s_longest_of : Stmt := top 19
abbrev s_stays : Stmt := top 20
abbrev s_need_lists : Stmt := top 21
abbrev s_levels_of : Stmt := top 22
abbrev s_common_rows : Stmt := top 23
abbrev s_common_levels : Stmt := top 24
abbrev s__law_cell : Stmt := top 26
abbrev s__law_box : Stmt := top 27
abbrev s__law_take : Stmt := top 28
abbrev s__law_mixed : Stmt := top 29
abbrev s__law_rows : Stmt := top 30
abbrev s__law_other : Stmt := top 31
abbrev s__law_places : Stmt := top 32
abbrev s__law_ahead : Stmt := top 33
abbrev s__law_most : Stmt := top 34
abbrev s__law_are_right : Stmt := top 35
abbrev s__law_right : Stmt := top 36
abbrev s_law : Stmt := top 37
abbrev N_is_integer : List Str := ["value", "low", "high"]
theorem sc_is_integer : FnScope N_is_integer ["value", "low", "high"] (defScope s_is_integer) := ⟨rfl, rfl, rfl, by decide +kernel, rfl, by decide +kernel, by decide +kernel⟩
abbrev N_is_list : List Str := ["value"]
theorem sc_is_list : FnScope N_is_list ["value"] (defScope s_is_list) := ⟨rfl, rfl, rfl, by decide +kernel, rfl, by decide +kernel, by decide +kernel⟩
abbrev N_is_row : List Str := ["value", "width", "item"]
theorem sc_is_row : FnScope N_is_row ["value", "width"] (defScope s_is_row) := ⟨rfl, rfl, rfl, by decide +kernel, rfl, by decide +kernel, by decide +kernel⟩
abbrev N_is_any_row : List Str := ["value"]
theorem sc_is_any_row : FnScope N_is_any_row ["value"] (defScope s_is_any_row) := ⟨rfl, rfl, rfl, by decide +kernel, rfl, by decide +kernel, by decide +kernel⟩
abbrev N_are_rows : List Str := ["value", "item"]
theorem sc_are_rows : FnScope N_are_rows ["value"] (defScope s_are_rows) := ⟨rfl, rfl, rfl, by decide +kernel, rfl, by decide +kernel, by decide +kernel⟩
abbrev N_need_rows : List Str := ["value"]
theorem sc_need_rows : FnScope N_need_rows ["value"] (defScope s_need_rows) := ⟨rfl, rfl, rfl, by decide +kernel, rfl, by decide +kernel, by decide +kernel⟩
abbrev N_need_pair : List Str := ["one", "other"]
theorem sc_need_pair : FnScope N_need_pair ["one", "other"] (defScope s_need_pair) := ⟨rfl, rfl, rfl, by decide +kernel, rfl, by decide +kernel, by decide +kernel⟩
abbrev N_places_of : List Str := ["rows", "place", "row"]
theorem sc_places_of : FnScope N_places_of ["rows"] (defScope s_places_of) := ⟨rfl, rfl, rfl, by decide +kernel, rfl, by decide +kernel, by decide +kernel⟩
abbrev N_piles_of : List Str := ["one", "other", "place_of", "piles", "ahead", "row", "low", "high", "middle"]
theorem sc_piles_of : FnScope N_piles_of ["one", "other"] (defScope s_piles_of) := ⟨rfl, rfl, rfl, by decide +kernel, rfl, by decide +kernel, by decide +kernel⟩
abbrev N_longest_of : List Str := ["one", "other", "piles", "ahead", "found", "row"]
theorem sc_longest_of : FnScope N_longest_of ["one", "other"] (defScope s_longest_of) := ⟨rfl, rfl, rfl, by decide +kernel, rfl, by decide +kernel, by decide +kernel⟩
abbrev N_stays : List Str := ["one", "other"]
theorem sc_stays : FnScope N_stays ["one", "other"] (defScope s_stays) := ⟨rfl, rfl, rfl, by decide +kernel, rfl, by decide +kernel, by decide +kernel⟩
abbrev N_need_lists : List Str := ["lists", "item"]
theorem sc_need_lists : FnScope N_need_lists ["lists"] (defScope s_need_lists) := ⟨rfl, rfl, rfl, by decide +kernel, rfl, by decide +kernel, by decide +kernel⟩
abbrev N_levels_of : List Str := ["lists", "places", "level_of", "ahead", "row", "other", "rows", "place"]
theorem sc_levels_of : FnScope N_levels_of ["lists"] (defScope s_levels_of) := ⟨rfl, rfl, rfl, by decide +kernel, rfl, by decide +kernel, by decide +kernel⟩
abbrev N_common_rows : List Str := ["lists", "level_of", "ahead", "last", "found", "row"]
theorem sc_common_rows : FnScope N_common_rows ["lists"] (defScope s_common_rows) := ⟨rfl, rfl, rfl, by decide +kernel, rfl, by decide +kernel, by decide +kernel⟩
abbrev N_common_levels : List Str := ["lists", "level_of", "ahead", "many", "row", "level"]
theorem sc_common_levels : FnScope N_common_levels ["lists"] (defScope s_common_levels) := ⟨rfl, rfl, rfl, by decide +kernel, rfl, by decide +kernel, by decide +kernel⟩
abbrev N__law_cell : List Str := ["script", "k"]
theorem sc__law_cell : FnScope N__law_cell ["script", "k"] (defScope s__law_cell) := ⟨rfl, rfl, rfl, by decide +kernel, rfl, by decide +kernel, by decide +kernel⟩
abbrev N__law_box : List Str := ["cell"]
theorem sc__law_box : FnScope N__law_box ["cell"] (defScope s__law_box) := ⟨rfl, rfl, rfl, by decide +kernel, rfl, by decide +kernel, by decide +kernel⟩
abbrev N__law_take : List Str := ["box", "many", "digit", "mixed"]
theorem sc__law_take : FnScope N__law_take ["box", "many"] (defScope s__law_take) := ⟨rfl, rfl, rfl, by decide +kernel, rfl, by decide +kernel, by decide +kernel⟩
abbrev N__law_mixed : List Str := ["box", "things", "left", "found"]
theorem sc__law_mixed : FnScope N__law_mixed ["box", "things"] (defScope s__law_mixed) := ⟨rfl, rfl, rfl, by decide +kernel, rfl, by decide +kernel, by decide +kernel⟩
abbrev N__law_rows : List Str := ["box", "many", "width", "top", "found", "k", "row", "column"]
theorem sc__law_rows : FnScope N__law_rows ["box", "many"] (defScope s__law_rows) := ⟨rfl, rfl, rfl, by decide +kernel, rfl, by decide +kernel, by decide +kernel⟩
abbrev N__law_other : List Str := ["box", "rows", "way", "many", "at", "found", "lap", "row"]
theorem sc__law_other : FnScope N__law_other ["box", "rows"] (defScope s__law_other) := ⟨rfl, rfl, rfl, by decide +kernel, rfl, by decide +kernel, by decide +kernel⟩
abbrev N__law_places : List Str := ["many", "found", "rows", "at", "row"]
theorem sc__law_places : FnScope N__law_places ["many"] (defScope s__law_places) := ⟨rfl, rfl, rfl, by decide +kernel, rfl, by decide +kernel, by decide +kernel⟩
abbrev N__law_ahead : List Str := ["places", "one", "other", "low", "high"]
theorem sc__law_ahead : FnScope N__law_ahead ["places", "one", "other"] (defScope s__law_ahead) := ⟨rfl, rfl, rfl, by decide +kernel, rfl, by decide +kernel, by decide +kernel⟩
abbrev N__law_most : List Str := ["many", "known", "places", "at", "row", "ahead", "k"]
theorem sc__law_most : FnScope N__law_most ["many"] (defScope s__law_most) := ⟨rfl, rfl, rfl, by decide +kernel, rfl, by decide +kernel, by decide +kernel⟩
abbrev N__law_are_right : List Str := ["many", "found", "levels", "places", "at", "row", "rows", "one", "other"]
theorem sc__law_are_right : FnScope N__law_are_right ["many", "found", "levels"] (defScope s__law_are_right) := ⟨rfl, rfl, rfl, by decide +kernel, rfl, by decide +kernel, by decide +kernel⟩
abbrev N__law_right : List Str := ["many", "most", "kept", "lap", "found", "levels", "rows", "rigid"]
theorem sc__law_right : FnScope N__law_right ["many"] (defScope s__law_right) := ⟨rfl, rfl, rfl, by decide +kernel, rfl, by decide +kernel, by decide +kernel⟩
abbrev N_law : List Str := ["script", "k", "box", "rows", "many", "lap"]
theorem sc_law : FnScope N_law ["script"] (defScope s_law) := ⟨rfl, rfl, rfl, by decide +kernel, rfl, by decide +kernel, by decide +kernel⟩
/-- a def of the text as it lies -/
structure FD (K : PySem.W.Frag) (mg : Str → Option Value) (x : Str) (st : Stmt) (f : Addr) (fd : FuncData) (ps : List Str) : Prop where
  fn : Fun K x x st f fd
  m : mg x = some (.ref f)
  kp : PySem.W.keepIn K (.ref f) = true
  b : Binds K fd ps []
structure All (K : PySem.W.Frag) (mg : Str → Option Value) (a : Nat → Addr) (d : Nat → FuncData) (tk : Nat → Tok) : Prop where
  n_bool : mg "bool" = none
  n_int : mg "int" = none
  n_list : mg "list" = none
  n_tuple : mg "tuple" = none
  n_dict : mg "dict" = none
  n_set : mg "set" = none
  n_len : mg "len" = none
  n_isinstance : mg "isinstance" = none
  n_all : mg "all" = none
  n_sorted : mg "sorted" = none
  n_enumerate : mg "enumerate" = none
  n_zip : mg "zip" = none
  n_max : mg "max" = none
  n_min : mg "min" = none
  n_range : mg "range" = none
  n_sum : mg "sum" = none
  n_repr : mg "repr" = none
  c_MOST_VALUE : mg "MOST_VALUE" = some (.int 999 (tk 0))
  c_MOST_ROWS : mg "MOST_ROWS" = some (.int 60 (tk 1))
  c_MOST_LISTS : mg "MOST_LISTS" = some (.int 6 (tk 2))
  c_WIDEST : mg "WIDEST" = some (.int 5 (tk 3))
  F_is_integer : FD K mg "is_integer" s_is_integer (a 0) (d 0) ["value", "low", "high"]
  F_is_list : FD K mg "is_list" s_is_list (a 1) (d 1) ["value"]
  F_is_row : FD K mg "is_row" s_is_row (a 2) (d 2) ["value", "width"]
  F_is_any_row : FD K mg "is_any_row" s_is_any_row (a 3) (d 3) ["value"]
  F_are_rows : FD K mg "are_rows" s_are_rows (a 4) (d 4) ["value"]
  F_need_rows : FD K mg "need_rows" s_need_rows (a 5) (d 5) ["value"]
  F_need_pair : FD K mg "need_pair" s_need_pair (a 6) (d 6) ["one", "other"]
  F_places_of : FD K mg "places_of" s_places_of (a 7) (d 7) ["rows"]
  F_piles_of : FD K mg "piles_of" s_piles_of (a 8) (d 8) ["one", "other"]
  F_longest_of : FD K mg "longest_of" s_longest_of (a 9) (d 9) ["one", "other"]
  F_stays : FD K mg "stays" s_stays (a 10) (d 10) ["one", "other"]
  F_need_lists : FD K mg "need_lists" s_need_lists (a 11) (d 11) ["lists"]
  F_levels_of : FD K mg "levels_of" s_levels_of (a 12) (d 12) ["lists"]
  F_common_rows : FD K mg "common_rows" s_common_rows (a 13) (d 13) ["lists"]
  F_common_levels : FD K mg "common_levels" s_common_levels (a 14) (d 14) ["lists"]
  F__law_cell : FD K mg "_law_cell" s__law_cell (a 15) (d 15) ["script", "k"]
  F__law_box : FD K mg "_law_box" s__law_box (a 16) (d 16) ["cell"]
  F__law_take : FD K mg "_law_take" s__law_take (a 17) (d 17) ["box", "many"]
  F__law_mixed : FD K mg "_law_mixed" s__law_mixed (a 18) (d 18) ["box", "things"]
  F__law_rows : FD K mg "_law_rows" s__law_rows (a 19) (d 19) ["box", "many"]
  F__law_other : FD K mg "_law_other" s__law_other (a 20) (d 20) ["box", "rows"]
  F__law_places : FD K mg "_law_places" s__law_places (a 21) (d 21) ["many"]
  F__law_ahead : FD K mg "_law_ahead" s__law_ahead (a 22) (d 22) ["places", "one", "other"]
  F__law_most : FD K mg "_law_most" s__law_most (a 23) (d 23) ["many"]
  F__law_are_right : FD K mg "_law_are_right" s__law_are_right (a 24) (d 24) ["many", "found", "levels"]
  F__law_right : FD K mg "_law_right" s__law_right (a 25) (d 25) ["many"]
  F_law : FD K mg "law" s_law (a 26) (d 26) ["script"]
  K_common_rows : ∀ (s : Shared) (u : Value), BindsTo s (d 13) ⟨[], [("lists", u)]⟩ [("lists", u)]
  K_common_levels : ∀ (s : Shared) (u : Value), BindsTo s (d 14) ⟨[], [("lists", u)]⟩ [("lists", u)]
end Mv
/-! What the readings give, the heap growing. -/
namespace Mv
open PySem PySem.Spec PyProof.Rows L2 Evl
/-- a list or a tuple -/
def Seq (H : Hp) (a : Addr) (xs : List V) : Prop := H a = some (.lst xs) ∨ H a = some (.tup xs)
theorem Seq.ex {H H' : Hp} {a : Addr} {xs : List V} (h : Seq H a xs) (e : Ex H H') : Seq H' a xs := h.elim (fun z => .inl (e _ _ z)) fun z => .inr (e _ _ z)
theorem Seq.sq {K : PySem.W.Frag} {H : Hp} {a : Addr} {xs : List V} (h : Seq H a xs) : SqL K H a xs ∨ SqT K H a xs := h.elim (fun z => .inl (sq_of z)) fun z => .inr (st_of z)
def EvF (te : TE) (σ : L2.St) (H : Hp) (P : Addr → Hp → Prop) : Prop := ∀ H1, Ex H H1 → ∀ Q : VK, (∀ p H2, H1 p = none → Ex H1 H2 → P p H2 → Q (.ref p) H2) → te σ H1 Q
def EvP (te : TE) (σ : L2.St) (H : Hp) (P : V → Hp → Prop) : Prop := ∀ H1, Ex H H1 → ∀ Q : VK, (∀ v H2, Ex H1 H2 → P v H2 → Q v H2) → te σ H1 Q
section
variable {K : PySem.W.Frag} {σ : L2.St} {H H' : Hp} {ta tb tc te tl tx : TE} {t u : TT} {x y z v : V} {r : R2}
theorem EvF.mono {P : Addr → Hp → Prop} (e : Ex H H') (h : EvF te σ H P) : EvF te σ H' P := fun H1 a Q q => h H1 (e.trans a) Q q
theorem EvP.mono {P : V → Hp → Prop} (e : Ex H H') (h : EvP te σ H P) : EvP te σ H' P := fun H1 a Q q => h H1 (e.trans a) Q q
theorem Ev.p (h : Ev te σ H v) : EvP te σ H (fun w _ => w = v) := fun H1 e Q q => h H1 e Q fun H2 e2 => q v H2 e2 rfl
theorem EvL.f {xs : List V} (h : EvL te σ H xs) : EvF te σ H (fun p H2 => H2 p = some (.lst xs)) := fun H1 e Q q => h H1 e Q q
theorem EvF.p {P : Addr → Hp → Prop} (h : EvF te σ H P) : EvP te σ H (fun w H2 => ∃ p, w = .ref p ∧ P p H2) := fun H1 e Q q => h H1 e Q fun p H2 _ e2 hp => q _ H2 e2 ⟨p, rfl, hp⟩
theorem et_yes : EvT tYes σ H true := fun H1 _ _ q => q H1 (Ex.refl H1)
/-! isinstance -/
theorem rc_isi {n : String} {ty : Value} {b : Bool} (hx : ∀ H1, Ex H H1 → TyX K H1 x ty) (hk : PySem.W.kitOne K ty (.type n) = some b) : RC (rIsi K) [x, .ty n] H (.bl b) :=
  fun H1 e _ q => ⟨x, .ty n, ty, .type n, b, rfl, .ty n, hx H1 e, hk, q H1 (Ex.refl H1)⟩
theorem ev_isi {n : String} {ty : Value} {b : Bool} (h : Ev ta σ H x) (hx : ∀ H1, Ex H H1 → TyX K H1 x ty) (hk : PySem.W.kitOne K ty (.type n) = some b) : Ev (tCB (rIsi K) (tCons ta (tCons (tC (.ty n)) tNil))) σ H (.bl b) :=
  ev_cb (ea_cons h (ea_cons ev_c ea_nil)) (rc_isi hx hk)
theorem ev_isiT {n m : String} {ty : Value} {b : Bool} (h : Ev ta σ H x) (hx : ∀ H1, Ex H H1 → TyX K H1 x ty) (hk : PySem.W.kitAny K ty [.type n, .type m] = some b) : Ev (tCB (rIsiT K) (tCons ta (tCons (tTup (tCons (tC (.ty n)) (tCons (tC (.ty m)) tNil))) tNil))) σ H (.bl b) :=
  fun H1 e Q q => h H1 e _ fun H2 e2 => ⟨sz_of (show 2 ≤ 100000 by decide), fun p hp => ⟨x, p, [.ty n, .ty m], ty, [.type n, .type m], b, rfl, upd_same, .cons (.ty n) (.cons (.ty m) .nil), hx _ ((e.trans e2).trans (Ex.new hp)), hk, q _ (e2.trans (Ex.new hp))⟩⟩
theorem ty_int {i : Int} : ∀ H1, Ex H H1 → TyX K H1 (.int i) (.type "int") := fun _ _ => .base (.int i)
theorem ty_lst {a : Addr} {xs : List V} (h : H a = some (.lst xs)) : ∀ H1, Ex H H1 → TyX K H1 (.ref a) (.type "list") := fun _ e => .base (.lst (e _ _ h))
theorem ty_tup {a : Addr} {xs : List V} (h : H a = some (.tup xs)) : ∀ H1, Ex H H1 → TyX K H1 (.ref a) (.type "tuple") := fun _ e => .base (.tup (e _ _ h))
/-! chains -/
theorem ev_chain {g g' : Int → Int → Bool} {i j k : Int} (ha : Ev ta σ H (.int i)) (hb : Ev tb σ H (.int j)) (hc : Ev tc σ H (.int k)) : Ev (tChain (rI0 fun i j => .bl (g i j)) (rI0 fun i j => .bl (g' i j)) ta tb tc) σ H (.bl (g i j && g' j k)) :=
  fun H1 e Q q => ha H1 e _ fun H2 e2 => hb H2 (e.trans e2) _ fun H3 e3 => ⟨i, j, rfl, rfl, g i j, rfl, by
    cases hg : g i j with
    | false =>
      rw [hg] at q
      exact q H3 (e2.trans e3)
    | true =>
      rw [hg] at q
      show tc σ H3 _
      exact hc H3 ((e.trans e2).trans e3) _ fun H4 e4 => ⟨j, k, rfl, rfl, q H4 ((e2.trans e3).trans e4)⟩⟩
theorem et_chain {g g' : Int → Int → Bool} {i j k : Int} (ha : Ev ta σ H (.int i)) (hb : Ev tb σ H (.int j)) (hc : Ev tc σ H (.int k)) : EvT (tTest (tChain (rI0 fun i j => .bl (g i j)) (rI0 fun i j => .bl (g' i j)) ta tb tc)) σ H (g i j && g' j k) := et_test (ev_chain ha hb hc)
theorem et_I0 {g : Int → Int → Bool} {i j : Int} (ha : Ev ta σ H (.int i)) (hb : Ev tb σ H (.int j)) : EvT (tTest (tOp (rI0 fun i j => .bl (g i j)) ta tb)) σ H (g i j) := et_test (ev_op ha hb rv_I0)
theorem ev_I0 {g : Int → Int → V} {i j : Int} (ha : Ev ta σ H (.int i)) (hb : Ev tb σ H (.int j)) : Ev (tOp (rI0 g) ta tb) σ H (g i j) := ev_op ha hb rv_I0
theorem ev_I {C : Int → Int → Prop} {g : Int → Int → V} {i j : Int} (ha : Ev ta σ H (.int i)) (hb : Ev tb σ H (.int j)) (hc : C i j) : Ev (tOp (rI C g) ta tb) σ H (g i j) := ev_op ha hb (rv_I hc)
/-! lengths -/
theorem ev_lenS {p : Addr} {xs : List V} (ha : Ev ta σ H (.ref p)) (h : Seq H p xs) : Ev (tCB (rLenS K) (tCons ta tNil)) σ H (.int (xs.length : Int)) := fun H1 e Q q =>
  ha H1 e _ fun H2 e2 => ⟨p, xs, rfl, (h.ex (e.trans e2)).sq, q H2 e2⟩
/-! all -/
theorem ev_allN {bs : List Bool} (h : EvL te σ H (bs.map V.bl)) : Ev (tCB (rAll K) (tCons te tNil)) σ H (.bl (bs.all id)) := fun H1 e Q q =>
  h H1 e _ fun p H2 _ e2 hp => ⟨p, bs, rfl, sq_of hp, q H2 e2⟩
/-! comprehensions over a list or a tuple -/
theorem given_take (xs : List V) (f : V → Bool) (g : V → V) : ∀ n, n ≤ xs.length → given n (fun i => f (xs.getD i .non)) (fun i => g (xs.getD i .non)) = ((xs.take n).filter f).map g
  | 0, _ => rfl
  | n + 1, h => by
    have hn : n < xs.length := h
    have ex : xs.getD n .non = xs[n] := by rw [List.getD_eq_getElem?_getD, List.getElem?_eq_getElem hn] <;> rfl
    have et : xs.take (n + 1) = xs.take n ++ [xs[n]] := by rw [List.take_succ, List.getElem?_eq_getElem hn] <;> rfl
    have ih := given_take xs f g n (Nat.le_of_lt hn)
    cases hf : f xs[n] with
    | true =>
      rw [given_yes (f := fun i => f (xs.getD i .non)) (by show f (xs.getD n .non) = true; rw [ex]; exact hf), ih, et, List.filter_append, List.map_append]
      show _ ++ [g (xs.getD n .non)] = _
      rw [ex]
      simp [hf]
    | false =>
      rw [given_no (f := fun i => f (xs.getD i .non)) (by show f (xs.getD n .non) = false; rw [ex]; exact hf), ih, et, List.filter_append, List.map_append]
      simp [hf]
theorem given_eq (xs : List V) (f : V → Bool) (g : V → V) : given xs.length (fun i => f (xs.getD i .non)) (fun i => g (xs.getD i .non)) = (xs.filter f).map g := by
  rw [given_take xs f g xs.length (Nat.le_refl _), List.take_length]
theorem el_lcS {a : Addr} {xs : List V} {j : Nat} {vs : List Nat} (f : V → Bool) (g : V → V) (h : Ev tl σ H (.ref a)) (hx : Seq H a xs) (hz : xs.length ≤ 40000) (hw : ∀ x, wipe ((wipe σ vs).set j (some x)) vs = wipe σ vs)
    (ht : ∀ (x : V) H1, Ex H H1 → x ∈ xs → EvT t ((wipe σ vs).set j (some x)) H1 (f x)) (he : ∀ (x : V) H1, Ex H H1 → x ∈ xs → f x = true → Ev te ((wipe σ vs).set j (some x)) H1 (g x)) :
    EvL (tLc (iSeq K tl) (gName j) t te vs) σ H ((xs.filter f).map g) := by
  rw [← given_eq]
  have hm : ∀ i x, xs[i]? = some x → xs.getD i .non = x := fun i x e => by rw [List.getD_eq_getElem?_getD, e] <;> rfl
  intro H0 e Q q
  rcases hx with hx | hx
  · refine .inl ?_
    exact el_lcL (K := K) (xs := xs) (fun i => f (xs.getD i .non)) (fun i => g (xs.getD i .non)) h (sq_of hx) hz hw (fun i x H1 e1 hi => by rw [hm i x hi]; exact ht x H1 e1 (List.mem_of_getElem? hi))
      (fun i x H1 e1 hi hf => by rw [hm i x hi] at hf ⊢; exact he x H1 e1 (List.mem_of_getElem? hi) hf) H0 e Q q
  · refine .inr ?_
    refine h H0 e _ fun H1 e1 => ⟨a, rfl, ⟨xs, ex_t (e.trans e1) (st_of hx)⟩, fun Dl hD =>
      lc_tup (xs := xs) (Cw H1 (fun i => f (xs.getD i .non)) (fun i => g (xs.getD i .non)) Dl) ⟨hD, Ex.new hD, upd_same⟩ (fun i H' _ p => ex_t ((e.trans e1).trans p.2.1) (st_of hx)) (fun i x H' hi p => ⟨hw x, cw_turn p (by have := (List.getElem?_eq_some_iff.mp hi).1; omega)
        (by rw [hm i x hi]; exact ht x H1 (e.trans e1) (List.mem_of_getElem? hi)) (fun hf => by rw [hm i x hi] at hf ⊢; exact he x H1 (e.trans e1) (List.mem_of_getElem? hi) hf)⟩)
        (fun H' p => q Dl H' (fresh_back e1 p.1) (e1.trans p.2.1) p.2.2)⟩
theorem filter_true {α : Type} (xs : List α) : xs.filter (fun _ => true) = xs := by
  rw [List.filter_eq_self]
  exact fun _ _ => rfl
theorem el_lcSm {a : Addr} {xs : List V} {j : Nat} {vs : List Nat} (g : V → V) (h : Ev tl σ H (.ref a)) (hx : Seq H a xs) (hz : xs.length ≤ 40000) (hw : ∀ x, wipe ((wipe σ vs).set j (some x)) vs = wipe σ vs)
    (he : ∀ (x : V) H1, Ex H H1 → x ∈ xs → Ev te ((wipe σ vs).set j (some x)) H1 (g x)) : EvL (tLc (iSeq K tl) (gName j) tYes te vs) σ H (xs.map g) := by
  have z := el_lcS (K := K) (t := tYes) (fun _ => true) g h hx hz hw (fun _ _ _ _ => et_yes) (fun x H1 e m _ => he x H1 e m)
  rwa [filter_true] at z
/-- over a tuple -/
theorem el_lcTm {a : Addr} {xs : List V} {j : Nat} {vs : List Nat} (g : V → V) (h : Ev tl σ H (.ref a)) (hx : H a = some (.tup xs)) (hz : xs.length ≤ 40000) (hw : ∀ x, wipe ((wipe σ vs).set j (some x)) vs = wipe σ vs)
    (he : ∀ (x : V) H1, Ex H H1 → x ∈ xs → Ev te ((wipe σ vs).set j (some x)) H1 (g x)) : EvL (tLc (iTup K tl) (gName j) tYes te vs) σ H (xs.map g) := by
  have hm : ∀ i x, xs[i]? = some x → xs.getD i .non = x := fun i x e => by rw [List.getD_eq_getElem?_getD, e] <;> rfl
  have e0 := given_eq xs (fun _ => true) g
  rw [filter_true] at e0
  rw [← e0]
  intro H0 e Q q
  refine h H0 e _ fun H1 e1 => ⟨a, rfl, ⟨xs, ex_t (e.trans e1) (st_of hx)⟩, fun Dl hD =>
      lc_tup (xs := xs) (Cw H1 (fun i => true) (fun i => g (xs.getD i .non)) Dl) ⟨hD, Ex.new hD, upd_same⟩ (fun i H' _ p => ex_t ((e.trans e1).trans p.2.1) (st_of hx)) (fun i x H' hi p => ⟨hw x, cw_turn p (by have := (List.getElem?_eq_some_iff.mp hi).1; omega)
        et_yes (fun hf => by rw [hm i x hi]; exact he x H1 (e.trans e1) (List.mem_of_getElem? hi))⟩)
        (fun H' p => q Dl H' (fresh_back e1 p.1) (e1.trans p.2.1) p.2.2)⟩
theorem map_true (xs : List V) : (xs.map fun _ => V.bl true) = (List.replicate xs.length true).map V.bl := by
  induction xs with
  | nil => rfl
  | cons x xs ih =>
    rw [List.map_cons, ih, List.length_cons, List.replicate_succ, List.map_cons]
theorem all_rep (n : Nat) : (List.replicate n true).all id = true := by
  rw [List.all_eq_true]
  intro x hx
  rw [(List.mem_replicate.mp hx).2] <;> rfl
theorem ev_allT {xs : List V} (h : EvL te σ H (xs.map fun _ => V.bl true)) : Ev (tCB (rAll K) (tCons te tNil)) σ H (.bl true) := by
  rw [map_true] at h
  have z := ev_allN (K := K) h
  rwa [all_rep] at z
end
/-! ### rows, lists of rows, lists of these -/
def IsRow (H : Hp) (x : V) (r : List Int) : Prop := ∃ b, x = .ref b ∧ H b = some (.tup (r.map V.int))
def Rws (H : Hp) (x : V) (rs : List (List Int)) : Prop := ∃ a xs, x = .ref a ∧ Seq H a xs ∧ Paired (IsRow H) xs rs
def Lss (H : Hp) (x : V) (Ls : List (List (List Int))) : Prop := ∃ a xs, x = .ref a ∧ Seq H a xs ∧ Paired (Rws H) xs Ls
theorem Paired.imp {α β : Type} {F G : α → β → Prop} (f : ∀ a b, F a b → G a b) : ∀ {xs : List α} {ys : List β}, Paired F xs ys → Paired G xs ys
  | _, _, .nil => .nil
  | _, _, .cons h t => .cons (f _ _ h) (Paired.imp f t)
theorem Paired.mem_l {α β : Type} {F : α → β → Prop} : ∀ {xs : List α} {ys : List β}, Paired F xs ys → ∀ x ∈ xs, ∃ y ∈ ys, F x y
  | _, _, .nil, _, h => absurd h (by simp)
  | _, _, .cons (b := b) h t, x, hx => by
    rcases List.mem_cons.mp hx with e | hx
    · subst e
      exact ⟨b, List.mem_cons_self, h⟩
    · obtain ⟨y, hy, hf⟩ := Paired.mem_l t x hx
      exact ⟨y, List.mem_cons_of_mem _ hy, hf⟩
theorem Paired.at_l {α β : Type} {F : α → β → Prop} : ∀ {xs : List α} {ys : List β}, Paired F xs ys → ∀ (i : Nat) (x : α), xs[i]? = some x → ∃ y, ys[i]? = some y ∧ F x y
  | _, _, .nil, i, x, h => by simp at h
  | _, _, .cons (b := b) h t, 0, x, e => by
    cases (Option.some.inj (show some _ = some x from e))
    exact ⟨b, rfl, h⟩
  | _, _, .cons h t, i + 1, x, e => Paired.at_l t i x e
theorem Paired.at_r {α β : Type} {F : α → β → Prop} {xs : List α} {ys : List β} (p : Paired F xs ys) (i : Nat) (y : β) (h : ys[i]? = some y) : ∃ x, xs[i]? = some x ∧ F x y := paired_at p i y h
section
variable {H H' : Hp} {x : V}
theorem IsRow.ex {r : List Int} (h : IsRow H x r) (e : Ex H H') : IsRow H' x r := let ⟨b, h1, h2⟩ := h; ⟨b, h1, e _ _ h2⟩
theorem Rws.ex {rs : List (List Int)} (h : Rws H x rs) (e : Ex H H') : Rws H' x rs := let ⟨a, xs, h1, h2, h3⟩ := h; ⟨a, xs, h1, h2.ex e, Paired.imp (fun _ _ z => z.ex e) h3⟩
theorem Lss.ex {Ls : List (List (List Int))} (h : Lss H x Ls) (e : Ex H H') : Lss H' x Ls := let ⟨a, xs, h1, h2, h3⟩ := h; ⟨a, xs, h1, h2.ex e, Paired.imp (fun _ _ z => z.ex e) h3⟩
end
def OkRow (w : Nat) (r : List Int) : Prop := r.length = w ∧ ∀ i ∈ r, 0 ≤ i ∧ i ≤ 999
/-- a list of rows as the program takes it -/
structure OkRows (w : Nat) (rs : List (List Int)) : Prop where
  w1 : 1 ≤ w
  w5 : w ≤ 5
  nd : rs.Nodup
  row : ∀ r ∈ rs, OkRow w r
  few : rs.length ≤ 60
end Mv
/-! The checks: they pass where the rows are right. -/
namespace Mv
open PySem PySem.Spec PyProof.Rows L2 Evl
section
variable {P : Program} {w : World} {K : PySem.W.Frag} {mg : Str → Option Value} {base : Heap} {a : Nat → Addr} {d : Nat → FuncData} {tk : Nat → Tok}
theorem kT {n m : String} {b : Bool} (h : kitB n m = some b) : PySem.W.kitOne K (.type n) (.type m) = some b := kit_ty h
/-! is_integer -/
def sp_is_integer : Sp := fun vs H Q _ => ∃ v lo hi : Int, vs = [.int v, .int lo, .int hi] ∧ RetV (.bl (decide (lo ≤ v) && decide (v ≤ hi))) H Q
theorem ok_is_integer (T : All K mg a d tk) : FnOk P w K mg base CX0 1 (a 0) (d 0) ["value", "low", "high"] sp_is_integer := by
  refine T.F_is_integer.fn.ok sc_is_integer (fun vs H Q E h => ?_) (fun cdv A outer s H vs Q E hr h => ?_)
  · obtain ⟨v, lo, hi, rfl, _⟩ := h
    rfl
  · obtain ⟨v, lo, hi, rfl, k⟩ := h
    have nd := sc_is_integer.nd
    refine ⟨_, (pss_cons (ps_if (PW.pt (pw_or (pt_val (pe_callB call_isi (by rfl) T.n_isinstance PyProof.Rows.boot_isinstance (pa_cons (pv 0) (pa_cons (pe_bltn (v := .ty "bool") rfl T.n_bool PyProof.Rows.boot_bool rfl) pa_nil)))) (pw_or1 (pt_not (pt_val (pe_callB call_isi (by rfl) T.n_isinstance PyProof.Rows.boot_isinstance (pa_cons (pv 0) (pa_cons (pe_bltn (v := .ty "int") rfl T.n_int PyProof.Rows.boot_int rfl) pa_nil))))))))
 (pss_one (ps_ret pe_bl))
 pss_nil)
 (pss_one (ps_ret (pe_chain op_le op_le (pv 1) (pv 0) (pv 2))))), ?_⟩
    refine q_when (et_or (et_B (ev_isi (ev_var rfl) ty_int (kT (b := false) (by decide +kernel)))) fun _ => et_not (et_B (ev_isi (ev_var rfl) ty_int (kT (b := true) (by decide +kernel))))) (fun h => absurd h (by decide)) fun _ H1 e1 => ?_
    exact s_ret (ev_chain (ev_var rfl) (ev_var rfl) (ev_var rfl)) fun H2 e2 => k H2 (e1.trans e2)
theorem spv_is_integer {v lo hi : Int} {H : Hp} : SpV sp_is_integer [.int v, .int lo, .int hi] H (.bl (decide (lo ≤ v) && decide (v ≤ hi))) := fun H1 _ Q q _ => ⟨v, lo, hi, rfl, q⟩
/-! is_list -/
def sp_is_list : Sp := fun vs H Q _ => ∃ (p : Addr) (xs : List V), vs = [.ref p] ∧ Seq H p xs ∧ RetV (.bl true) H Q
theorem ok_is_list (T : All K mg a d tk) : FnOk P w K mg base CX0 1 (a 1) (d 1) ["value"] sp_is_list := by
  refine T.F_is_list.fn.ok sc_is_list (fun vs H Q E h => ?_) (fun cdv A outer s H vs Q E hr h => ?_)
  · obtain ⟨p, xs, rfl, _⟩ := h
    rfl
  · obtain ⟨p, xs, rfl, hs, k⟩ := h
    have nd := sc_is_list.nd
    refine ⟨_, (pss_one (ps_ret (pe_callB call_isiT (by rfl) T.n_isinstance PyProof.Rows.boot_isinstance (pa_cons (pv 0) (pa_cons (pe_tup (pa_cons (pe_bltn (v := .ty "list") rfl T.n_list PyProof.Rows.boot_list rfl) (pa_cons (pe_bltn (v := .ty "tuple") rfl T.n_tuple PyProof.Rows.boot_tuple rfl) pa_nil))) pa_nil))))), ?_⟩
    rcases hs with hs | hs
    · exact s_ret (ev_isiT (ev_var rfl) (ty_lst hs) (kitAny_cons (kT (b := true) (by decide +kernel)) (fun h => nomatch h) fun _ => rfl)) k
    · exact s_ret (ev_isiT (ev_var rfl) (ty_tup hs) (kitAny_cons (kT (b := false) (by decide +kernel)) (fun _ => kitAny_cons (kT (b := true) (by decide +kernel)) (fun h => nomatch h) fun _ => rfl) fun h => nomatch h)) k
theorem spv_is_list {p : Addr} {xs : List V} {H : Hp} (h : Seq H p xs) : SpV sp_is_list [.ref p] H (.bl true) := fun H1 e Q q _ => ⟨p, xs, rfl, h.ex e, q⟩
/-! is_row -/
def sp_is_row : Sp := fun vs H Q _ => ∃ (x : V) (r : List Int) (n : Nat), vs = [x, .int n] ∧ IsRow H x r ∧ OkRow n r ∧ n ≤ 5 ∧ RetV (.bl true) H Q
theorem ok_is_row (T : All K mg a d tk) : FnOk P w K mg base CX0 2 (a 2) (d 2) ["value", "width"] sp_is_row := by
  refine T.F_is_row.fn.ok sc_is_row (fun vs H Q E h => ?_) (fun cdv A outer s H vs Q E hr h => ?_)
  · obtain ⟨x, r, n, rfl, _⟩ := h
    rfl
  · obtain ⟨x, r, n, rfl, ⟨b, rfl, hb⟩, ⟨hl, hv⟩, h5, k⟩ := h
    have nd := sc_is_row.nd
    refine ⟨_, (pss_cons (ps_if (PW.pt (pw_or (pt_not (pt_val (pe_callB call_isi (by rfl) T.n_isinstance PyProof.Rows.boot_isinstance (pa_cons (pv 0) (pa_cons (pe_bltn (v := .ty "tuple") rfl T.n_tuple PyProof.Rows.boot_tuple rfl) pa_nil))))) (pw_or1 (pt_cmpR op_ne (pe_callB call_len_seq (by rfl) T.n_len PySem.boot_len (pa_cons (pv 0) pa_nil)) (pv 1) (nomark _)))))
 (pss_one (ps_ret pe_bl))
 pss_nil)
 (pss_one (ps_ret (pe_callB (cr_all rfl) (by rfl) T.n_all PyProof.Rows.boot_all (pa_cons (pe_lc (own := [("item", 2)]) (g := (gName 2)) rfl nd (pi_tup (pv 0)) (blkOk_by (N := N_is_row) (sc := defScope s_is_row) (by decide +kernel)) (fun _ _ _ _ _ => (pg_name (i := 2) nd rfl (Or.inl rfl))) (fun _ _ _ _ _ => pts_nil) (fun _ _ _ _ _ => (pe_call (ok_is_integer T) (hr.mono (by decide)) rfl T.F_is_integer.m T.F_is_integer.kp T.F_is_integer.b .nil pass0 (pa_cons (pv 2) (pa_cons pe_int (pa_cons (pe_glob (v := .int 999) rfl T.c_MOST_VALUE ⟨_, rfl⟩) pa_nil)))))) pa_nil))))), ?_⟩
    have hlen : ((r.map V.int).length : Int) = n := by rw [List.length_map, hl]
    refine q_when (et_or (et_not (et_B (ev_isi (ev_var rfl) (ty_tup hb) (kT (b := true) (by decide +kernel))))) fun _ => et_test (ev_op (ev_lenS (ev_var rfl) (.inr hb)) (ev_var rfl) (rv_ne rfl))) (fun h => ?_) fun _ H1 e1 => ?_
    · rw [hlen] at h
      simp at h
    · refine s_ret (ev_allT (el_lcTm (fun _ => .bl true) (ev_var rfl) (e1 _ _ hb) (by rw [List.length_map, hl]; omega) (fun _ => rfl) fun x H2 e2 hx => ?_)) fun H2 e2 => k H2 (e1.trans e2)
      obtain ⟨i, hi, rfl⟩ := List.mem_map.mp hx
      obtain ⟨h0, h9⟩ := hv i hi
      refine ev_is (ev_call (ea_cons (ev_var rfl) (ea_cons ev_c (ea_cons ev_c ea_nil))) spv_is_integer) ?_
      rw [decide_eq_true h0, decide_eq_true h9] <;> rfl
theorem spv_is_row {x : V} {r : List Int} {n : Nat} {H : Hp} (h : IsRow H x r) (ho : OkRow n r) (h5 : n ≤ 5) : SpV sp_is_row [x, .int n] H (.bl true) := fun H1 e Q q _ => ⟨x, r, n, rfl, h.ex e, ho, h5, q⟩
/-! is_any_row -/
def sp_is_any_row : Sp := fun vs H Q _ => ∃ (x : V) (r : List Int) (n : Nat), vs = [x] ∧ IsRow H x r ∧ OkRow n r ∧ 1 ≤ n ∧ n ≤ 5 ∧ RetV (.bl true) H Q
theorem ok_is_any_row (T : All K mg a d tk) : FnOk P w K mg base CX0 3 (a 3) (d 3) ["value"] sp_is_any_row := by
  refine T.F_is_any_row.fn.ok sc_is_any_row (fun vs H Q E h => ?_) (fun cdv A outer s H vs Q E hr h => ?_)
  · obtain ⟨x, r, n, rfl, _⟩ := h
    rfl
  · obtain ⟨x, r, n, rfl, hx, ho, h1, h5, k⟩ := h
    have nd := sc_is_any_row.nd
    refine ⟨_, (pss_one (ps_ret (pe_and (pe_callB call_isi (by rfl) T.n_isinstance PyProof.Rows.boot_isinstance (pa_cons (pv 0) (pa_cons (pe_bltn (v := .ty "tuple") rfl T.n_tuple PyProof.Rows.boot_tuple rfl) pa_nil))) (pe_and (pe_chain op_lt op_le pe_int (pe_callB call_len_seq (by rfl) T.n_len PySem.boot_len (pa_cons (pv 0) pa_nil)) (pe_glob (v := .int 5) rfl T.c_WIDEST ⟨_, rfl⟩)) (pe_one (pe_call (ok_is_row T) (hr.mono (by decide)) rfl T.F_is_row.m T.F_is_row.kp T.F_is_row.b .nil pass0 (pa_cons (pv 0) (pa_cons (pe_callB call_len_seq (by rfl) T.n_len PySem.boot_len (pa_cons (pv 0) pa_nil)) pa_nil)))))))), ?_⟩
    obtain ⟨b, rfl, hb⟩ := id hx
    have hlen : ((r.map V.int).length : Int) = n := by rw [List.length_map, ho.1]
    have eL : Ev (tCB (rLenS K) (tCons (tVar 0) tNil)) (start N_is_any_row [V.ref b]) H (.int n) := by
      rw [← hlen]
      exact ev_lenS (ev_var rfl) (.inr hb)
    refine s_ret (ev_is (ev_andV (ev_isi (ev_var rfl) (ty_tup hb) (kT (b := true) (by decide +kernel))) fun _ => ev_andV (ev_chain ev_c eL ev_c) fun _ => ev_call (ea_cons (ev_var rfl) (ea_cons eL ea_nil)) (spv_is_row hx ho h5)) ?_) k
    have z1 : decide ((0 : Int) < (n : Int)) = true := decide_eq_true (by omega)
    have z2 : decide ((n : Int) ≤ 5) = true := decide_eq_true (by omega)
    rw [z1, z2] <;> rfl
theorem spv_is_any_row {x : V} {r : List Int} {n : Nat} {H : Hp} (h : IsRow H x r) (ho : OkRow n r) (h1 : 1 ≤ n) (h5 : n ≤ 5) : SpV sp_is_any_row [x] H (.bl true) := fun H1 e Q q _ => ⟨x, r, n, rfl, h.ex e, ho, h1, h5, q⟩
end
end Mv
/-! are_rows, need_rows, need_pair, need_lists. -/
namespace Mv
open PySem PySem.Spec PyProof.Rows L2 Evl
theorem nodup_len {α : Type} [DecidableEq α] : ∀ (l D : List α), l.Nodup → (∀ x ∈ l, x ∈ D) → l.length ≤ D.length
  | [], _, _, _ => Nat.zero_le _
  | x :: l, D, h, hs => by
    have hx := hs x List.mem_cons_self
    have h1 : l.length ≤ (D.erase x).length := nodup_len l (D.erase x) (List.nodup_cons.mp h).2 fun y hy => by
      have ne : y ≠ x := fun e => (List.nodup_cons.mp h).1 (e ▸ hy)
      exact (List.mem_erase_of_ne ne).mpr (hs y (List.mem_cons_of_mem _ hy))
    have h2 := List.length_erase_of_mem hx
    have h3 : 0 < D.length := List.length_pos_of_mem hx
    rw [List.length_cons]
    omega
theorem rows_ks {H : Hp} : ∀ {xs : List V} {rs : List (List Int)}, Paired (IsRow H) xs rs → ∃ ks : List (Addr × List Int), xs = ks.map (fun p => V.ref p.1) ∧ rs = ks.map (·.2) ∧ ∀ p ∈ ks, H p.1 = some (.tup (p.2.map V.int))
  | _, _, .nil => ⟨[], rfl, rfl, fun _ h => absurd h (by simp)⟩
  | _, _, .cons (b := r) ⟨b, e, h⟩ t => by
    obtain ⟨ks, e1, e2, e3⟩ := rows_ks t
    subst e e1 e2
    refine ⟨(b, r) :: ks, rfl, rfl, fun p hp => ?_⟩
    rcases List.mem_cons.mp hp with z | z
    · subst z; exact h
    · exact e3 p z
section
variable {K : PySem.W.Frag} {σ : L2.St} {H H' : Hp} {ta tb tc te tl tx : TE} {t u : TT} {x y z v : V} {r : R2} {P : Program} {w : World}
/-- len(set(xs)) of different rows -/
theorem ev_lenSet {rs : List (List Int)} (ha : Ev ta σ H x) (hr : Rws H x rs) (nd : rs.Nodup) (h60 : rs.length ≤ 60) : Ev (tCB (rLenSetT P w) (tCons (tCB (rSetS K P w) (tCons ta tNil)) tNil)) σ H (.int (rs.length : Int)) := fun H1 e Q q =>
  ha H1 e _ fun H2 e2 => by
    obtain ⟨l, xs, rfl, hs, hp⟩ := hr.ex (e.trans e2)
    obtain ⟨ks, rfl, rfl, hk⟩ := rows_ks hp
    have fin : ∀ s L, H2 s = none → (∀ p ∈ L, p ∈ ks) → (∀ p ∈ ks, p.2 ∈ L.map (·.2)) → rLenSetT P w [.ref s] (upd H2 s (SetTO P w s L)) Q := fun s L hn h1 h2 => by
      have ex : Ex H2 (upd H2 s (SetTO P w s L)) := Ex.new hn
      refine ⟨s, L, rfl, upd_same, fun p hp => ex _ _ (hk p (h1 p hp)), fun hnd => ?_⟩
      have l1 := nodup_len (L.map (·.2)) (ks.map (·.2)) hnd fun x hx => by
        obtain ⟨p, hp, rfl⟩ := List.mem_map.mp hx
        exact List.mem_map_of_mem (h1 p hp)
      have l2 := nodup_len (ks.map (·.2)) (L.map (·.2)) nd fun x hx => by
        obtain ⟨p, hp, rfl⟩ := List.mem_map.mp hx
        exact h2 p hp
      rw [List.length_map] at l1 l2
      rw [List.length_map] at l1 l2
      have el : (L.length : Int) = ((ks.map (·.2)).length : Int) := by rw [List.length_map]; omega
      rw [el]
      exact q _ (e2.trans ex)
    have lk : ks.length < 64 := by rw [List.length_map] at h60; omega
    rcases hs with hs | hs
    · exact .inl ⟨l, ks, rfl, sq_of hs, fun p hp => st_of (hk p hp), lk, fin⟩
    · exact .inr ⟨l, ks, rfl, st_of hs, fun p hp => st_of (hk p hp), lk, fin⟩
end
/-- what cm_core's reading asks, by a walk -/
theorem cm_it {J : It} {n : Nat} {G : Hp → Prop} {Y : Nat → Hp → V → Hp → Prop} (w : Walk J n G Y) {g : TG} {tt : TT} {tk : TK} {vs : List Nat} {σ : L2.St} {H1 : Hp} {D : Addr} {ob : HO} {Qd : Hp → Prop} (Pv : Nat → Hp → Prop) (h0 : Pv 0 (upd H1 D ob)) (hG : ∀ i H, i ≤ n → Pv i H → G H)
    (hs : ∀ i x H H', i < n → Pv i H → Y i H x H' → g x (wipe σ vs) H' fun σ2 H2 => wipe σ2 vs = wipe σ vs ∧ tt σ2 H2 fun b H3 => if b = true then tk D σ2 H3 (Pv (i + 1)) else Pv (i + 1) H3) (hd : ∀ H, Pv n H → Qd H) :
    ∃ W : Nat → Nat → Hp → Prop, (∃ m, W 0 m (upd H1 D ob)) ∧ ∀ i m H, W i m H →
      (J.stop i H ∧ Qd H) ∨ (J.go i H ∧ ∃ Nx : Hp → Prop, (∀ H', Nx H' → ∃ m', m' < m ∧ W (i + 1) m' H') ∧ ∀ x H', J.yld i H x H' → g x (wipe σ vs) H' fun σ2 H2 => wipe σ2 vs = wipe σ vs ∧ tt σ2 H2 fun b H3 => if b = true then tk D σ2 H3 Nx else Nx H3) := by
  refine ⟨fun i m H => m = n - i ∧ i ≤ n ∧ Pv i H, ⟨n, by simp, Nat.zero_le _, h0⟩, ?_⟩
  rintro i m H ⟨rfl, hi, p⟩
  have q := hG i H hi p
  by_cases hlt : i < n
  · refine .inr ⟨w.goes i H hlt q, Pv (i + 1), fun H' p' => ⟨n - (i + 1), by omega, rfl, hlt, p'⟩, fun x H' y => hs i x H H' hlt p (w.yields i H x H' hlt q y)⟩
  · have e : i = n := by omega
    subst e
    exact .inl ⟨w.stops H q, hd H p⟩
section
variable {K : PySem.W.Frag} {σ : L2.St} {H H' : Hp} {ta tb tc te tl tx : TE} {t u : TT} {x y z v : V} {r : R2} {P : Program} {w : World}
theorem two_scan : 1 + 1 < scanBound := by decide
/-- len({.. for ..}), each the same int: none or one -/
theorem ev_lenSet1 {p : Addr} {xs : List V} {j : Nat} {vs : List Nat} {c : Int} (h : Ev tl σ H (.ref p)) (hx : Seq H p xs) (hw : ∀ x, wipe ((wipe σ vs).set j (some x)) vs = wipe σ vs)
    (he : ∀ (x : V) H1, Ex H H1 → x ∈ xs → Ev te ((wipe σ vs).set j (some x)) H1 (.int c)) : EvP (tCB (rLenSetI w) (tCons (tCm (fun D => SetO w D (fun _ => false) 0) (iSeq K tl) (gName j) tYes (kSetI w te) vs) tNil)) σ H (fun v _ => v = .int 0 ∨ v = .int 1) := by
  intro H0 e0 Q q
  let Pv : Hp → Addr → Nat → Hp → Prop := fun H1 D i H' => H1 D = none ∧ Ex H1 H' ∧ ∃ (S : Int → Bool) (n : Nat), H' D = some (SetO w D S n) ∧ (i = 0 → S = (fun _ => false) ∧ n = 0) ∧ (0 < i → S c = true ∧ n = 1)
  have step : ∀ H1, Ex H H1 → ∀ D i x H', x ∈ xs → Pv H1 D i H' → kSetI w te D ((wipe σ vs).set j (some x)) H' (Pv H1 D (i + 1)) := by
    rintro H1 e1 D i x H' hm ⟨hD, ex, S, n, hS, h0, h1⟩
    refine he x H1 e1 hm H' ex _ fun H4 e4 => ⟨c, S, n, rfl, e4 _ _ hS, ?_, hD, Ex.mut (ex.trans e4) hD, _, _, upd_same, (fun z => absurd z (by omega)), fun _ => ?_⟩
    · rcases Nat.eq_zero_or_pos i with z | z
      · rw [(h0 z).2]; exact Nat.lt_of_le_of_lt (by decide) two_scan
      · rw [(h1 z).2]; exact two_scan
    · rcases Nat.eq_zero_or_pos i with z | z
      · obtain ⟨rfl, rfl⟩ := h0 z
        exact ⟨by simp, by simp⟩
      · obtain ⟨s1, s2⟩ := h1 z
        exact ⟨by simp, by rw [if_pos s1]; exact s2⟩
  have fin : ∀ H1, Ex H0 H1 → ∀ D n H', Pv H1 D n H' → rLenSetI w [.ref D] H' Q := by
    rintro H1 e1 D i H' ⟨hD, ex, S, n, hS, h0, h1⟩
    refine ⟨D, S, n, rfl, hS, q _ H' (e1.trans ex) ?_⟩
    rcases Nat.eq_zero_or_pos i with z | z
    · rw [(h0 z).2]; exact .inl rfl
    · rw [(h1 z).2]; exact .inr rfl
  rcases hx with hx | hx
  · refine .inl (h H0 e0 _ fun H1 e1 => ⟨p, rfl, ⟨xs, ex_l (e0.trans e1) (sq_of hx)⟩, fun D hD => ?_⟩)
    refine cm_it (walk_list (K := K) (a := p) (xs := xs)) (Pv H1 D) ⟨hD, Ex.new hD, _, 0, upd_same, fun _ => ⟨rfl, rfl⟩, fun z => nomatch z⟩ (fun i H' _ q => ex_l ((e0.trans e1).trans q.2.1) (sq_of hx)) (fun i x H' H'' hi pv y => ?_) fun H' pv => fin H1 e1 D _ H' pv
    obtain ⟨rfl, hm⟩ := y
    exact ⟨hw x, step H1 (e0.trans e1) D i x _ (List.mem_of_getElem? hm) pv⟩
  · refine .inr (h H0 e0 _ fun H1 e1 => ⟨p, rfl, ⟨xs, ex_t (e0.trans e1) (st_of hx)⟩, fun D hD => ?_⟩)
    refine cm_it (walk_tup (K := K) (a := p) (xs := xs)) (Pv H1 D) ⟨hD, Ex.new hD, _, 0, upd_same, fun _ => ⟨rfl, rfl⟩, fun z => nomatch z⟩ (fun i H' _ q => ex_t ((e0.trans e1).trans q.2.1) (st_of hx)) (fun i x H' H'' hi pv y => ?_) fun H' pv => fin H1 e1 D _ H' pv
    obtain ⟨rfl, hm⟩ := y
    exact ⟨hw x, step H1 (e0.trans e1) D i x _ (List.mem_of_getElem? hm) pv⟩
end
section
variable {P : Program} {w : World} {K : PySem.W.Frag} {mg : Str → Option Value} {base : Heap} {a : Nat → Addr} {d : Nat → FuncData} {tk : Nat → Tok}
/-! are_rows -/
def sp_are_rows : Sp := fun vs H Q _ => ∃ (x : V) (rs : List (List Int)) (n : Nat), vs = [x] ∧ Rws H x rs ∧ OkRows n rs ∧ RetV (.bl true) H Q
theorem ok_are_rows (T : All K mg a d tk) : FnOk P w K mg base CX0 4 (a 4) (d 4) ["value"] sp_are_rows := by
  refine T.F_are_rows.fn.ok sc_are_rows (fun vs H Q E h => ?_) (fun cdv A outer s H vs Q E hr h => ?_)
  · obtain ⟨x, rs, n, rfl, _⟩ := h
    rfl
  · obtain ⟨x, rs, n, rfl, hx, ho, k⟩ := h
    have nd := sc_are_rows.nd
    have hu64 := hr.units
    refine ⟨_, (pss_cons (ps_if (PW.pt (pw_or (pt_not (pt_val (pe_call (ok_is_list T) (hr.mono (by decide)) rfl T.F_is_list.m T.F_is_list.kp T.F_is_list.b .nil pass0 (pa_cons (pv 0) pa_nil)))) (pw_or (pt_cmpR op_gt (pe_callB call_len_seq (by rfl) T.n_len PySem.boot_len (pa_cons (pv 0) pa_nil)) (pe_glob (v := .int 60) rfl T.c_MOST_ROWS ⟨_, rfl⟩) (nomark _)) (pw_or1 (pt_not (pt_val (pe_callB (cr_all rfl) (by rfl) T.n_all PyProof.Rows.boot_all (pa_cons (pe_lc (own := [("item", 1)]) (g := (gName 1)) rfl nd (pi_seq (pv 0)) (blkOk_by (N := N_are_rows) (sc := defScope s_are_rows) (by decide +kernel)) (fun _ _ _ _ _ => (pg_name (i := 1) nd rfl (Or.inl rfl))) (fun _ _ _ _ _ => pts_nil) (fun _ _ _ _ _ => (pe_call (ok_is_any_row T) (hr.mono (by decide)) rfl T.F_is_any_row.m T.F_is_any_row.kp T.F_is_any_row.b .nil pass0 (pa_cons (pv 1) pa_nil)))) pa_nil))))))))
 (pss_one (ps_ret pe_bl))
 pss_nil)
 (pss_one (ps_ret (pe_and (pe_cmpR op_eq (pe_callB call_lenSetT (by rfl) T.n_len PySem.boot_len (pa_cons (pe_callTy (cr_setS rfl hu64) rfl T.n_set PyProof.Rows.boot_set (pa_cons (pv 0) pa_nil)) pa_nil)) (pe_callB call_len_seq (by rfl) T.n_len PySem.boot_len (pa_cons (pv 0) pa_nil)) (nomark _)) (pe_one (pe_cmpR op_le (pe_callB call_lenSetI (by rfl) T.n_len PySem.boot_len (pa_cons (pe_scI (own := [("item", 1)]) (g := (gName 1)) rfl nd (pi_seq (pv 0)) (blkOk_by (N := N_are_rows) (sc := defScope s_are_rows) (by decide +kernel)) (fun _ _ _ _ _ => (pg_name (i := 1) nd rfl (Or.inl rfl))) (fun _ _ _ _ _ => pts_nil) (fun _ _ _ _ _ => (pe_callB (show CallR _ (.builtin "len") (Evl.rLenS K) from call_len_seq) (by rfl) T.n_len PySem.boot_len (pa_cons (pv 1) pa_nil)))) pa_nil)) pe_int (nomark _))))))), ?_⟩
    obtain ⟨p, xs, rfl, hs, hp⟩ := id hx
    have hlen : xs.length = rs.length := Paired.length hp
    have row : ∀ y ∈ xs, ∃ r, IsRow H y r ∧ OkRow n r := fun y hy => let ⟨r, hr, h⟩ := Paired.mem_l hp y hy; ⟨r, h, ho.row r hr⟩
    refine q_when (et_or (et_not (et_B (ev_call (ea_cons (ev_var rfl) ea_nil) (spv_is_list hs)))) fun _ => et_or (et_I0 (ev_lenS (ev_var rfl) hs) ev_c) fun _ => et_not (et_B (ev_allT (el_lcSm (fun _ => .bl true) (ev_var rfl) hs (by rw [hlen]; have := ho.few; omega) (fun _ => rfl) fun y H2 e2 hy => ?_)))) (fun h => ?_) fun _ H1 e1 => ?_
    · obtain ⟨r, h1, h2⟩ := row y hy
      exact ev_call (ea_cons (ev_var rfl) ea_nil) (spv_is_any_row (h1.ex e2) h2 ho.w1 ho.w5)
    · have := ho.few
      have z : decide ((60 : Int) < (xs.length : Int)) = false := decide_eq_false (by omega)
      rw [z] at h
      exact absurd h (by decide)
    · have l1 := ev_lenSet (K := K) (P := P) (w := w) (σ := start N_are_rows [V.ref p]) (ta := tVar 0) (ev_var rfl) hx ho.nd ho.few
      have l2 : Ev (tCB (rLenS K) (tCons (tVar 0) tNil)) (start N_are_rows [V.ref p]) H (.int (rs.length : Int)) := by
        rw [← hlen]
        exact ev_lenS (ev_var rfl) hs
      have l3 := ev_lenSet1 (K := K) (w := w) (te := tCB (rLenS K) (tCons (tVar 1) tNil)) (j := 1) (vs := [1]) (c := (n : Int)) (ev_var (σ := start N_are_rows [V.ref p]) (i := 0) rfl) hs (fun _ => rfl) fun y H2 e2 hy => by
        obtain ⟨r, ⟨b, rfl, hb⟩, h2⟩ := row y hy
        refine ev_is (ev_lenS (ev_var rfl) (.inr (e2 _ _ hb))) ?_
        rw [List.length_map, h2.1]
      refine (ev_op l1 l2 (rv_eq rfl)) H1 e1 _ fun H2 e2 => ⟨_, rfl, ?_⟩
      have z : decide (V.int (rs.length : Int) = V.int (rs.length : Int)) = true := decide_eq_true rfl
      rw [z]
      rw [if_pos rfl]
      unfold tOp
      refine l3 H2 (e1.trans e2) _ fun v H3 e3 hv => ?_
      have last : ∀ i : Int, i = 0 ∨ i = 1 → Q (V.bl (decide (i ≤ 1))) H3 := fun i hi => by
        rw [decide_eq_true (by omega)]
        exact k _ ((e1.trans e2).trans e3)
      rcases hv with rfl | rfl
      · exact ⟨0, 1, rfl, rfl, last 0 (.inl rfl)⟩
      · exact ⟨1, 1, rfl, rfl, last 1 (.inr rfl)⟩
theorem spv_are_rows {x : V} {rs : List (List Int)} {n : Nat} {H : Hp} (h : Rws H x rs) (ho : OkRows n rs) : SpV sp_are_rows [x] H (.bl true) := fun H1 e Q q _ => ⟨x, rs, n, rfl, h.ex e, ho, q⟩
/-! need_rows -/
def sp_need_rows : Sp := fun vs H Q _ => ∃ (x : V) (rs : List (List Int)) (n : Nat), vs = [x] ∧ Rws H x rs ∧ OkRows n rs ∧ RetV .non H Q
theorem ok_need_rows (T : All K mg a d tk) : FnOk P w K mg base CX0 5 (a 5) (d 5) ["value"] sp_need_rows := by
  refine T.F_need_rows.fn.ok sc_need_rows (fun vs H Q E h => ?_) (fun cdv A outer s H vs Q E hr h => ?_)
  · obtain ⟨x, rs, n, rfl, _⟩ := h
    rfl
  · obtain ⟨x, rs, n, rfl, hx, ho, k⟩ := h
    have nd := sc_need_rows.nd
    refine ⟨_, (pss_one (ps_if (pt_not (pt_val (pe_call (ok_are_rows T) (hr.mono (by decide)) rfl T.F_are_rows.m T.F_are_rows.kp T.F_are_rows.b .nil pass0 (pa_cons (pv 0) pa_nil))))
 (pss_one ps_dead)
 pss_nil)), ?_⟩
    exact s_when (et_not (et_B (ev_call (ea_cons (ev_var rfl) ea_nil) (spv_are_rows hx ho)))) (fun h => absurd h (by decide)) fun _ H1 e1 => k H1 e1
theorem spv_need_rows {x : V} {rs : List (List Int)} {n : Nat} {H : Hp} (h : Rws H x rs) (ho : OkRows n rs) : SpV sp_need_rows [x] H .non := fun H1 e Q q _ => ⟨x, rs, n, rfl, h.ex e, ho, q⟩
end
end Mv
/-! Rows as data; sorted lists of them; need_pair, need_lists. -/
namespace Mv
open PySem PySem.Spec PyProof.Rows L2 Evl
def rd (r : List Int) : PyData := .tuple (r.map PyData.int)
theorem lay_ints : ∀ r : List Int, PyData.canLayAll0 (r.map PyData.int) = true
  | [] => rfl
  | i :: r => by
    rw [List.map_cons, PyData.canLayAll0, lay_ints r] <;> rfl
theorem lay_rows : ∀ rs : List (List Int), PyData.canLayAll0 (rs.map rd) = true
  | [] => rfl
  | r :: rs => by
    rw [List.map_cons, PyData.canLayAll0, lay_rows rs]
    unfold rd
    rw [PyData.canLay0, lay_ints] <;> rfl
theorem deep_ints : ∀ r : List Int, PyData.depthAll (r.map PyData.int) ≤ 2
  | [] => by simp [PyData.depthAll]
  | i :: r => by
    have := deep_ints r
    simp only [List.map_cons, PyData.depthAll, PyData.depth]
    omega
theorem deep_row (r : List Int) : (rd r).depth ≤ 3 := by
  have := deep_ints r
  unfold rd
  simp only [PyData.depth]
  omega
theorem deep_rows : ∀ rs : List (List Int), PyData.depthAll (rs.map rd) ≤ 3
  | [] => by simp [PyData.depthAll]
  | r :: rs => by
    have := deep_rows rs
    have := deep_row r
    simp only [List.map_cons, PyData.depthAll]
    omega
theorem shaped_row (r : List Int) : SeqAt.shaped (rd r) = true := by
  have := deep_row r
  unfold SeqAt.shaped
  have e : (rd r).canLay0 = true := by
    unfold rd
    rw [PyData.canLay0, lay_ints]
  rw [e, decide_eq_true (by omega)] <;> rfl
theorem shaped_rows (rs : List (List Int)) : SeqAt.shaped (.list (rs.map rd)) = true := by
  have := deep_rows rs
  unfold SeqAt.shaped
  have e : (PyData.list (rs.map rd)).canLay0 = true := by rw [PyData.canLay0, lay_rows]
  have e2 : (PyData.list (rs.map rd)).depth ≤ 64 := by
    simp only [PyData.depth]
    omega
  rw [e, decide_eq_true e2] <;> rfl
theorem eqv_ints : ∀ r q : List Int, PyData.eqvAll (r.map PyData.int) (q.map PyData.int) = decide (r = q)
  | [], [] => by simp [PyData.eqvAll]
  | [], _ :: _ => by simp [PyData.eqvAll]
  | _ :: _, [] => by simp [PyData.eqvAll]
  | i :: r, j :: q => by
    rw [List.map_cons, List.map_cons, PyData.eqvAll, eqv_ints r q, PyData.eqv]
    by_cases h : i = j
    · by_cases h2 : r = q <;> simp [h, h2]
    · simp [h]
theorem eqv_row (r q : List Int) : PyData.eqv (rd r) (rd q) = decide (r = q) := by
  unfold rd
  rw [PyData.eqv, eqv_ints]
section
variable {K : PySem.W.Frag} {H : Hp}
theorem dp_ints : ∀ r : List Int, DpAll K H (r.map V.int) (r.map PyData.int)
  | [] => .nil
  | i :: r => .cons (.int i) (dp_ints r)
theorem IsRow.dp {x : V} {r : List Int} (h : IsRow H x r) : Dp K H x (rd r) := by
  obtain ⟨b, rfl, hb⟩ := h
  exact .tup (st_of hb) (dp_ints r)
theorem dp_rows : ∀ {xs : List V} {rs : List (List Int)}, Paired (IsRow H) xs rs → DpAll K H xs (rs.map rd)
  | _, _, .nil => .nil
  | _, _, .cons h t => .cons h.dp (dp_rows t)
end
/-! order -/
theorem code_inj {B : Int} : ∀ r q : List Int, r.length = q.length → TS.Bd B r → TS.Bd B q → TS.code B r = TS.code B q → r = q
  | [], [], _, _, _, _ => rfl
  | [], _ :: _, h, _, _, _ => by simp at h
  | _ :: _, [], h, _, _, _ => by simp at h
  | i :: r, j :: q, h, h1, h2, e => by
    have hl : r.length = q.length := by simpa using h
    rcases Int.lt_trichotomy i j with z | z | z
    · exact absurd e (Int.ne_of_lt (TS.code_lt hl h1.tail h2.tail z))
    · subst z
      have e2 : TS.code B r = TS.code B q := by
        have a := not_congr (TS.code_same (B := B) (d := i) hl)
        have b := not_congr (TS.code_same (B := B) (d := i) hl.symm)
        rw [e] at a b
        have a := a.mp (Int.lt_irrefl _)
        have b := b.mp (Int.lt_irrefl _)
        omega
      rw [code_inj r q hl h1.tail h2.tail e2]
    · exact absurd e.symm (Int.ne_of_lt (TS.code_lt hl.symm h2.tail h1.tail z))
theorem perm_map_inv {α β : Type} {f : α → β} {l₁ l₂ : List β} (h : l₁.Perm l₂) : ∀ ks : List α, l₂ = ks.map f → ∃ ks' : List α, ks'.Perm ks ∧ l₁ = ks'.map f := by
  induction h with
  | nil =>
    intro ks e
    have : ks = [] := List.map_eq_nil_iff.mp e.symm
    subst this
    exact ⟨[], .refl _, rfl⟩
  | cons x h ih =>
    intro ks e
    cases ks with
    | nil => cases e
    | cons k ks =>
      rw [List.map_cons, List.cons.injEq] at e
      obtain ⟨ks', p, e'⟩ := ih ks e.2
      exact ⟨k :: ks', p.cons k, by rw [List.map_cons, e', e.1]⟩
  | swap x y l =>
    intro ks e
    match ks, e with
    | [], e => cases e
    | [_], e => cases e
    | k1 :: k2 :: ks, e =>
      rw [List.map_cons, List.map_cons, List.cons.injEq, List.cons.injEq] at e
      exact ⟨k2 :: k1 :: ks, .swap _ _ _, by rw [List.map_cons, List.map_cons, e.1, e.2.1, e.2.2]⟩
  | trans _ _ ih1 ih2 =>
    intro ks e
    obtain ⟨k2, p2, e2⟩ := ih2 ks e
    obtain ⟨k1, p1, e1⟩ := ih1 k2 e2
    exact ⟨k1, p1.trans p2, e1⟩
theorem OkRow.bd {n : Nat} {r : List Int} (h : OkRow n r) : TS.Bd 1000 r := fun i hi => ⟨(h.2 i hi).1, by have := (h.2 i hi).2; omega⟩
def SortedRows (cs rs : List (List Int)) : Prop := cs.Perm rs ∧ cs.Pairwise (fun p q => TS.code 1000 p ≤ TS.code 1000 q)
theorem sorted_same {n : Nat} {cs ds rs qs : List (List Int)} (h1 : SortedRows cs rs) (h2 : SortedRows ds qs) (ho : ∀ r ∈ rs, OkRow n r) (pm : qs.Perm rs) : cs = ds := by
  have pd : cs.Perm ds := h1.1.trans (pm.symm.trans h2.1.symm)
  refine List.Perm.eq_of_pairwise (le := fun p q => TS.code 1000 p ≤ TS.code 1000 q) (fun p q hp hq a b => ?_) h1.2 h2.2 pd
  have o1 := ho p (h1.1.mem_iff.mp hp)
  have o2 := ho q (pm.mem_iff.mp (h2.1.mem_iff.mp hq))
  exact code_inj p q (o1.1.trans o2.1.symm) o1.bd o2.bd (Int.le_antisymm a b)
section
variable {K : PySem.W.Frag} {σ : L2.St} {H H' : Hp} {ta tb tc te tl tx : TE} {t u : TT} {x y z v : V} {r : R2} {P : Program} {w : World}
def NewRows (P : List (List Int) → Prop) (p : Addr) (H2 : Hp) : Prop := ∃ cs xs, P cs ∧ H2 p = some (.lst xs) ∧ Paired (IsRow H2) xs cs
theorem ef_sorted {n : Nat} {rs : List (List Int)} (ha : Ev ta σ H x) (hx : Rws H x rs) (ho : ∀ r ∈ rs, OkRow n r) (h60 : rs.length < 64) : EvF (tCB (rSortS K n 1000) (tCons ta tNil)) σ H (NewRows fun cs => SortedRows cs rs) := fun H1 e Q q =>
  ha H1 e _ fun H2 e2 => by
    obtain ⟨l, xs, rfl, hs, hp⟩ := hx.ex (e.trans e2)
    obtain ⟨ks, rfl, rfl, hk⟩ := rows_ks hp
    have hrow : ∀ x ∈ ks.map (fun p => V.ref p.1), ∃ ns, TupI K H2 x ns ∧ ns.length = n ∧ TS.Bd 1000 ns := fun x hx => by
      obtain ⟨p, hp, rfl⟩ := List.mem_map.mp hx
      have o := ho p.2 (List.mem_map_of_mem hp)
      exact ⟨p.2, ⟨p.1, rfl, st_of (hk p hp)⟩, o.1, o.bd⟩
    have hlen : (ks.map (fun p => V.ref p.1)).length < 64 := by
      rw [List.length_map] at h60 ⊢
      exact h60
    have fin : ∀ (ys : List V) (p : Addr), ys.Perm (ks.map (fun p => V.ref p.1)) → ys.Pairwise (fun x y => ∀ n m, TupI K H2 x n → TupI K H2 y m → TS.code 1000 n ≤ TS.code 1000 m) → H2 p = none → Q (.ref p) (upd H2 p (.lst ys)) := fun ys p pm pw hn => by
      obtain ⟨ks', pk, rfl⟩ := perm_map_inv pm ks rfl
      have ex : Ex H2 (upd H2 p (.lst (ks'.map fun p => V.ref p.1))) := Ex.new hn
      have hk' : ∀ q ∈ ks', H2 q.1 = some (.tup (q.2.map V.int)) := fun q hq => hk q (pk.mem_iff.mp hq)
      refine q p _ (fresh_back e2 hn) (e2.trans ex) ⟨ks'.map (·.2), ks'.map (fun p => V.ref p.1), ⟨pk.map _, ?_⟩, upd_same, ?_⟩
      · rw [List.pairwise_map] at pw ⊢
        refine List.Pairwise.imp_of_mem (fun {a b} ha hb h => h a.2 b.2 ⟨a.1, rfl, st_of (hk' a ha)⟩ ⟨b.1, rfl, st_of (hk' b hb)⟩) pw
      · have : ∀ l : List (Addr × List Int), (∀ q ∈ l, H2 q.1 = some (.tup (q.2.map V.int))) → Paired (IsRow (upd H2 p (.lst (ks'.map fun p => V.ref p.1)))) (l.map fun p => V.ref p.1) (l.map (·.2)) := by
          intro l
          induction l with
          | nil => exact fun _ => .nil
          | cons a l ih => exact fun h => .cons ⟨a.1, rfl, ex _ _ (h a List.mem_cons_self)⟩ (ih fun q hq => h q (List.mem_cons_of_mem _ hq))
        exact this ks' hk'
    rcases hs with hs | hs
    · exact .inl ⟨l, _, rfl, sq_of hs, hlen, hrow, fin⟩
    · exact .inr ⟨l, _, rfl, st_of hs, hlen, hrow, fin⟩
/-- sorted(xs) != sorted(ys) of the same rows is false -/
theorem et_sortedNe {n : Nat} {rs qs : List (List Int)} (ha : Ev ta σ H x) (hx : Rws H x rs) (hb : Ev tb σ H y) (hy : Rws H y qs) (ho : ∀ r ∈ rs, OkRow n r) (h60 : rs.length < 64) (pm : qs.Perm rs) :
    EvT (tTest (tOp (rNeD K) (tCB (rSortS K n 1000) (tCons ta tNil)) (tCB (rSortS K n 1000) (tCons tb tNil)))) σ H false := fun H1 e Q q =>
  ef_sorted ha hx ho h60 H1 e _ fun p H2 _ e2 ⟨cs, xs, h1, h2, h3⟩ =>
    ef_sorted hb hy (fun r hr => ho r (pm.mem_iff.mp hr)) (by rw [pm.length_eq]; exact h60) H2 (e.trans e2) _ fun p' H3 _ e3 ⟨ds, ys, g1, g2, g3⟩ => by
      have e0 : cs = ds := sorted_same h1 g1 ho pm
      subst e0
      refine ⟨.list (cs.map rd), .list (cs.map rd), .lst (sq_of (e3 _ _ h2)) (dp_rows (Paired.imp (fun _ _ z => z.ex e3) h3)), .lst (sq_of g2) (dp_rows g3), shaped_rows _, shaped_rows _, false, ?_, q H3 (e2.trans e3)⟩
      rw [SeqAt.eqv_refl _ (SeqAt.canLay_of_shaped (shaped_rows cs))] <;> rfl
end
section
variable {P : Program} {w : World} {K : PySem.W.Frag} {mg : Str → Option Value} {base : Heap} {a : Nat → Addr} {d : Nat → FuncData} {tk : Nat → Tok}
/-! need_pair -/
def sp_need_pair : Sp := fun vs H Q _ => ∃ (x y : V) (rs qs : List (List Int)) (n : Nat), vs = [x, y] ∧ Rws H x rs ∧ Rws H y qs ∧ OkRows n rs ∧ qs.Perm rs ∧ RetV .non H Q
theorem OkRows.perm {n : Nat} {rs qs : List (List Int)} (h : OkRows n rs) (p : qs.Perm rs) : OkRows n qs := ⟨h.w1, h.w5, p.nodup_iff.mpr h.nd, fun r hr => h.row r (p.mem_iff.mp hr), by rw [p.length_eq]; exact h.few⟩
theorem ok_need_pair (T : All K mg a d tk) : FnOk P w K mg base CX0 6 (a 6) (d 6) ["one", "other"] sp_need_pair := by
  refine T.F_need_pair.fn.ok sc_need_pair (fun vs H Q E h => ?_) (fun cdv A outer s H vs Q E hr h => ?_)
  · obtain ⟨x, y, rs, qs, n, rfl, _⟩ := h
    rfl
  · obtain ⟨x, y, rs, qs, dd, rfl, hx, hy, ho, pm, k⟩ := h
    have nd := sc_need_pair.nd
    have hu64 := hr.units
    have hdd := ho.w1
    refine ⟨_, (pss_cons (ps_expr (pe_call (ok_need_rows T) (hr.mono (by decide)) rfl T.F_need_rows.m T.F_need_rows.kp T.F_need_rows.b .nil pass0 (pa_cons (pv 0) pa_nil)))
 (pss_cons (ps_expr (pe_call (ok_need_rows T) (hr.mono (by decide)) rfl T.F_need_rows.m T.F_need_rows.kp T.F_need_rows.b .nil pass0 (pa_cons (pv 1) pa_nil)))
 (pss_one (ps_if (pt_cmpR (op_neD hu64) (pe_callB (cr_sortS (d := dd) (B := 1000) hdd) (by rfl) T.n_sorted PyProof.Rows.boot_sorted (pa_cons (pv 0) pa_nil)) (pe_callB (cr_sortS (d := dd) (B := 1000) hdd) (by rfl) T.n_sorted PyProof.Rows.boot_sorted (pa_cons (pv 1) pa_nil)) (nomark _))
 (pss_one ps_dead)
 pss_nil)))), ?_⟩
    refine q_drop (ev_call (ea_cons (ev_var rfl) ea_nil) (spv_need_rows hx ho)) fun H1 e1 => ?_
    refine q_drop (ev_call (ea_cons (ev_var rfl) ea_nil) (spv_need_rows (hy.ex e1) (ho.perm pm))) fun H2 e2 => ?_
    have e12 := e1.trans e2
    exact s_when (et_sortedNe (ev_var rfl) (hx.ex e12) (ev_var rfl) (hy.ex e12) ho.row (by have := ho.few; omega) pm) (fun h => nomatch h) fun _ H3 e3 => k H3 (e12.trans e3)
theorem spv_need_pair {x y : V} {rs qs : List (List Int)} {n : Nat} {H : Hp} (h1 : Rws H x rs) (h2 : Rws H y qs) (ho : OkRows n rs) (pm : qs.Perm rs) : SpV sp_need_pair [x, y] H .non := fun H1 e Q q _ => ⟨x, y, rs, qs, n, rfl, h1.ex e, h2.ex e, ho, pm, q⟩
end
end Mv
/-! need_lists, places_of; dicts of rows. -/
namespace Mv
open PySem PySem.Spec PyProof.Rows L2 Evl
section
variable {K : PySem.W.Frag} {σ : L2.St} {H H' : Hp} {ta tb tc te tl tx : TE} {t u : TT} {x y z v : V} {r : R2} {P : Program} {w : World} {D : Ends} {tu tz : TS}
theorem Seq.sqL {a : Addr} {xs : List V} (h : H a = some (.lst xs)) : SqL K H a xs := sq_of h
/-- for x in xs, a list or a tuple that stays -/
theorem s_forS {a : Addr} {xs : List V} {j : Nat} (h : Ev tl σ H (.ref a)) (hx : Seq H a xs) (Pv : Nat → L2.St → Hp → Prop) (h0 : ∀ H1, Ex H H1 → Pv 0 σ H1) (hl : ∀ i σ' H', i ≤ xs.length → Pv i σ' H' → H' a = H a)
    (hs : ∀ i x σ' H', xs[i]? = some x → Pv i σ' H' → tu { D with nx := Pv (i + 1), ct := Pv (i + 1), bk := D.nx } (σ'.set j (some x)) H') (hd : ∀ σ' H', Pv xs.length σ' H' → D.nx σ' H') : tFor (iSeq K tl) (gName j) tu D σ H := by
  rcases hx with hx | hx
  · exact .inl (h H (Ex.refl H) _ fun H1 e => ⟨a, rfl, ⟨xs, ex_l e (sq_of hx)⟩, for_list Pv (h0 H1 e) (fun i σ' H' hi p => sq_of ((hl i σ' H' hi p).trans hx)) hs hd⟩)
  · exact .inr (h H (Ex.refl H) _ fun H1 e => ⟨a, rfl, ⟨xs, ex_t e (st_of hx)⟩, for_tup Pv (h0 H1 e) (fun i σ' H' hi p => st_of ((hl i σ' H' hi p).trans hx)) hs hd⟩)
theorem q_forS {a : Addr} {xs : List V} {j : Nat} (h : Ev tl σ H (.ref a)) (hx : Seq H a xs) (Pv : Nat → L2.St → Hp → Prop) (h0 : ∀ H1, Ex H H1 → Pv 0 σ H1) (hl : ∀ i σ' H', i ≤ xs.length → Pv i σ' H' → H' a = H a)
    (hs : ∀ i x σ' H', xs[i]? = some x → Pv i σ' H' → tu { D with nx := Pv (i + 1), ct := Pv (i + 1), bk := tz D } (σ'.set j (some x)) H') (hd : ∀ σ' H', Pv xs.length σ' H' → tz D σ' H') : tSeq (tFor (iSeq K tl) (gName j) tu) tz D σ H :=
  s_forS (D := { D with nx := tz D }) h hx Pv h0 hl hs hd
theorem rv_ixS {p : Addr} {xs : List V} {i : Int} (h : Seq H p xs) (ha : atI xs i = some v) : RV (rIx K) (.ref p) (.int i) H v := fun H1 e _ q => by
  rcases h.ex e with h | h
  · exact .inl ⟨p, xs, i, v, rfl, rfl, sq_of h, ha, q H1 (Ex.refl H1)⟩
  · exact .inr (.inl ⟨p, xs, i, v, rfl, rfl, st_of h, ha, q H1 (Ex.refl H1)⟩)
theorem ev_ixS {p : Addr} {xs : List V} {i : Int} (ha : Ev ta σ H (.ref p)) (hb : Ev tb σ H (.int i)) (h : Seq H p xs) (hi : atI xs i = some v) : Ev (tOp (rIx K) ta tb) σ H v := ev_op ha hb (rv_ixS h hi)
theorem Seq.keep {a : Addr} {xs : List V} (h : Seq H a xs) (e : H' a = H a) : Seq H' a xs := h.elim (fun z => .inl (e.trans z)) fun z => .inr (e.trans z)
end
/-- the lists that the program takes: one to six, the same rows in each -/
structure OkLists (n : Nat) (Ls : List (List (List Int))) : Prop where
  ne : Ls ≠ []
  six : Ls.length ≤ 6
  ok : ∀ rs ∈ Ls, OkRows n rs
  pm : ∀ rs ∈ Ls, ∀ qs ∈ Ls, qs.Perm rs
section
variable {P : Program} {w : World} {K : PySem.W.Frag} {mg : Str → Option Value} {base : Heap} {a : Nat → Addr} {d : Nat → FuncData} {tk : Nat → Tok}
/-! need_lists -/
def sp_need_lists : Sp := fun vs H Q _ => ∃ (x : V) (Ls : List (List (List Int))) (n : Nat), vs = [x] ∧ Lss H x Ls ∧ OkLists n Ls ∧ RetV .non H Q
theorem ok_need_lists (T : All K mg a d tk) : FnOk P w K mg base CX0 6 (a 11) (d 11) ["lists"] sp_need_lists := by
  refine T.F_need_lists.fn.ok sc_need_lists (fun vs H Q E h => ?_) (fun cdv A outer s H vs Q E hr h => ?_)
  · obtain ⟨x, Ls, n, rfl, _⟩ := h
    rfl
  · obtain ⟨x, Ls, dd, rfl, hx, ho, k⟩ := h
    have nd := sc_need_lists.nd
    have hu64 := hr.units
    obtain ⟨p, xs, rfl, hs, hp⟩ := id hx
    have hlen : xs.length = Ls.length := Paired.length hp
    have hpos : 0 < Ls.length := List.length_pos_iff.mpr ho.ne
    have hsix := ho.six
    obtain ⟨L0, hL0⟩ : ∃ L0, Ls[0]? = some L0 := ⟨Ls[0], List.getElem?_eq_getElem hpos⟩
    obtain ⟨x0, hx0, hr0⟩ := Paired.at_r hp 0 L0 hL0
    have hdd : 1 ≤ dd := (ho.ok L0 (List.mem_of_getElem? hL0)).w1
    refine ⟨_, (pss_cons (ps_if (PW.pt (pw_or (pt_not (pt_val (pe_call (ok_is_list T) (hr.mono (by decide)) rfl T.F_is_list.m T.F_is_list.kp T.F_is_list.b .nil pass0 (pa_cons (pv 0) pa_nil)))) (pw_or1 (pt_not (pt_chain op_lt op_le pe_int (pe_callB call_len_seq (by rfl) T.n_len PySem.boot_len (pa_cons (pv 0) pa_nil)) (pe_glob (v := .int 6) rfl T.c_MOST_LISTS ⟨_, rfl⟩))))))
 (pss_one ps_dead)
 pss_nil)
 (pss_cons (ps_for PassesOwn.never rfl (pi_seq (pv 0)) (pg_name (i := 1) nd rfl (Or.inl rfl))
 (pss_one (ps_expr (pe_call (ok_need_rows T) (hr.mono (by decide)) rfl T.F_need_rows.m T.F_need_rows.kp T.F_need_rows.b .nil pass0 (pa_cons (pv 1) pa_nil)))))
 (pss_one (ps_for PassesOwn.never rfl (pi_seq (pv 0)) (pg_name (i := 1) nd rfl (Or.inl rfl))
 (pss_one (ps_if (pt_cmpR (op_neD hu64) (pe_callB (cr_sortS (d := dd) (B := 1000) hdd) (by rfl) T.n_sorted PyProof.Rows.boot_sorted (pa_cons (pv 1) pa_nil)) (pe_callB (cr_sortS (d := dd) (B := 1000) hdd) (by rfl) T.n_sorted PyProof.Rows.boot_sorted (pa_cons (pe_ix ix_seq (pv 0) pe_int (fun _ _ => rfl)) pa_nil)) (nomark _))
 (pss_one ps_dead)
 pss_nil)))))), ?_⟩
    refine q_when (et_or (et_not (et_B (ev_call (ea_cons (ev_var rfl) ea_nil) (spv_is_list hs)))) fun _ => et_not (et_chain ev_c (ev_lenS (ev_var rfl) hs) ev_c)) (fun h => ?_) fun _ H1 e1 => ?_
    · have z1 : decide ((0 : Int) < (xs.length : Int)) = true := decide_eq_true (by omega)
      have z2 : decide ((xs.length : Int) ≤ 6) = true := decide_eq_true (by omega)
      rw [z1, z2] at h
      exact absurd h (by decide)
    have row : ∀ (i : Nat) (y : V), xs[i]? = some y → ∃ rs, Rws H y rs ∧ OkRows dd rs ∧ rs ∈ Ls := fun i y hy => by
      obtain ⟨rs, h1, h2⟩ := Paired.at_l hp i y hy
      exact ⟨rs, h2, ho.ok rs (List.mem_of_getElem? h1), List.mem_of_getElem? h1⟩
    refine q_forS (ev_var rfl) (hs.ex e1) (fun i σ' H' => Ex H H' ∧ ∃ v, σ' = [some (.ref p), v]) (fun H2 e2 => ⟨e1.trans e2, none, rfl⟩) (fun i σ' H' _ ⟨e, _⟩ => ?_) (fun i y σ' H' hy ⟨e, v, hσ⟩ => ?_) fun σ' H' ⟨e, v, hσ⟩ => ?_
    · exact hs.elim (fun z => (e _ _ z).trans (e1 _ _ z).symm) fun z => (e _ _ z).trans (e1 _ _ z).symm
    · subst hσ
      obtain ⟨rs, h1, h2, _⟩ := row i y hy
      exact s_drop (ev_call (ea_cons (ev_var rfl) ea_nil) (spv_need_rows (h1.ex e) h2)) fun H2 e2 => ⟨e.trans e2, _, rfl⟩
    · subst hσ
      refine s_forS (ev_var rfl) (hs.ex e) (fun i σ' H' => Ex H H' ∧ ∃ v, σ' = [some (.ref p), v]) (fun H2 e2 => ⟨e.trans e2, v, rfl⟩) (fun i σ' H' _ ⟨e', _⟩ => ?_) (fun i y σ' H' hy ⟨e, v, hσ⟩ => ?_) fun σ' H' ⟨e, v, hσ⟩ => k H' e
      · exact hs.elim (fun z => (e' _ _ z).trans (e _ _ z).symm) fun z => (e' _ _ z).trans (e _ _ z).symm
      · subst hσ
        obtain ⟨rs, h1, h2, h3⟩ := row i y hy
        exact s_when (et_sortedNe (ev_var rfl) (h1.ex e) (ev_ixS (i := 0) (ev_var rfl) ev_c (hs.ex e) (atI_nat hx0)) (hr0.ex e) h2.row (by have := h2.few; omega) (ho.pm rs h3 L0 (List.mem_of_getElem? hL0))) (fun h => nomatch h) fun _ H3 e3 => ⟨e.trans e3, _, rfl⟩
theorem spv_need_lists {x : V} {Ls : List (List (List Int))} {n : Nat} {H : Hp} (h1 : Lss H x Ls) (ho : OkLists n Ls) : SpV sp_need_lists [x] H .non := fun H1 e Q q _ => ⟨x, Ls, n, rfl, h1.ex e, ho, q⟩
end
/-! dicts by rows -/
def ky (r : List Int) : List Key := r.map Sum.inl
theorem ky_kV (r : List Int) : (ky r).map kV = r.map V.int := by
  unfold ky
  rw [List.map_map]
  rfl
theorem ky_inj {r q : List Int} (h : ky r = ky q) : r = q := by
  unfold ky at h
  induction r generalizing q with
  | nil =>
    cases q with
    | nil => rfl
    | cons _ _ => cases h
  | cons i r ih =>
    cases q with
    | nil => cases h
    | cons j q =>
      rw [List.map_cons, List.map_cons, List.cons.injEq] at h
      have e := h.1
      cases e
      rw [ih h.2]
def dtab (rs : List (List Int)) (f : List Int → V) : List (List Key × V) := rs.map fun r => (ky r, f r)
theorem dtab_len (rs : List (List Int)) (f : List Int → V) : (dtab rs f).length = rs.length := List.length_map _
theorem dtab_val (f : List Int → V) (r : List Int) : ∀ rs : List (List Int), valV (dtab rs f) (ky r) = if r ∈ rs then some (f r) else none
  | [] => rfl
  | q :: rs => by
    show valV ((ky q, f q) :: dtab rs f) (ky r) = _
    by_cases e : q = r
    · subst e
      rw [valV_pos rfl, if_pos List.mem_cons_self]
    · rw [valV_neg (fun z => e (ky_inj z)), dtab_val f r rs]
      by_cases h : r ∈ rs
      · rw [if_pos h, if_pos (List.mem_cons_of_mem _ h)]
      · rw [if_neg h, if_neg (fun z => h ((List.mem_cons.mp z).resolve_left fun z => e z.symm))]
theorem dtab_congr {f g : List Int → V} {rs : List (List Int)} (h : ∀ r ∈ rs, f r = g r) : dtab rs f = dtab rs g := List.map_congr_left fun r hr => by rw [h r hr]
def fset (f : List Int → V) (r : List Int) (v : V) : List Int → V := fun q => if q = r then v else f q
theorem dtab_put_old {rs : List (List Int)} {f : List Int → V} {r : List Int} {v : V} (h : r ∈ rs) : putK (dtab rs f) (ky r) v = dtab rs (fset f r v) := by
  unfold putK
  rw [valV_any, dtab_val, if_pos h]
  show (if true = true then _ else _) = _
  rw [if_pos rfl]
  unfold dtab
  rw [List.map_map]
  refine List.map_congr_left fun q _ => ?_
  show (if ky q = ky r then (ky q, v) else (ky q, f q)) = (ky q, fset f r v q)
  unfold fset
  by_cases e : q = r
  · rw [if_pos (by rw [e]), if_pos e]
  · rw [if_neg (fun z => e (ky_inj z)), if_neg e]
theorem dtab_put_new {rs : List (List Int)} {f : List Int → V} {r : List Int} {v : V} (h : r ∉ rs) : putK (dtab rs f) (ky r) v = dtab (rs ++ [r]) (fset f r v) := by
  rw [putK_new v (by rw [dtab_val, if_neg h])]
  unfold dtab
  rw [List.map_append]
  congr 1
  · refine List.map_congr_left fun q hq => ?_
    unfold fset
    rw [if_neg (fun (z : q = r) => h (z ▸ hq))]
  · show [(ky r, v)] = [(ky r, fset f r v r)]
    unfold fset
    rw [if_pos rfl]
theorem IsRow.key {H : Hp} {x : V} {r : List Int} (h : IsRow H x r) : ∃ b, x = .ref b ∧ H b = some (.tup ((ky r).map kV)) := by
  obtain ⟨b, e, hb⟩ := h
  exact ⟨b, e, by rw [ky_kV]; exact hb⟩
theorem dget_row {H : Hp} {p : Addr} {rs : List (List Int)} {f : List Int → V} {x : V} {r : List Int} (hp : H p = some (.dT (dtab rs f))) (hx : IsRow H x r) (hr : r ∈ rs) : DGet H p x (some (f r)) := by
  obtain ⟨b, rfl, hb⟩ := hx.key
  have z := DGet.t hp hb
  rwa [dtab_val, if_pos hr] at z
theorem dput_old {H : Hp} {p : Addr} {rs : List (List Int)} {f : List Int → V} {x v : V} {r : List Int} (hp : H p = some (.dT (dtab rs f))) (hx : IsRow H x r) (hr : r ∈ rs) (hl : rs.length ≤ 100) : DPut H p x v (upd H p (.dT (dtab rs (fset f r v)))) := by
  obtain ⟨b, rfl, hb⟩ := hx.key
  have z := DPut.t (v := v) hp hb (by rw [dtab_len]; exact sz_lt (by omega))
  rwa [dtab_put_old hr] at z
theorem dput_new {H : Hp} {p : Addr} {rs : List (List Int)} {f : List Int → V} {x v : V} {r : List Int} (hp : H p = some (.dT (dtab rs f))) (hx : IsRow H x r) (hr : r ∉ rs) (hl : rs.length ≤ 100) : DPut H p x v (upd H p (.dT (dtab (rs ++ [r]) (fset f r v)))) := by
  obtain ⟨b, rfl, hb⟩ := hx.key
  have z := DPut.t (v := v) hp hb (by rw [dtab_len]; exact sz_lt (by omega))
  rwa [dtab_put_new hr] at z
section
variable {K : PySem.W.Frag} {σ : L2.St} {H H' : Hp} {ta tb tc te tl tx : TE} {t u : TT} {x y z v : V}
theorem ev_dget {p : Addr} {rs : List (List Int)} {f : List Int → V} {r : List Int} (ha : Ev ta σ H (.ref p)) (hb : Ev tb σ H x) (hp : H p = some (.dT (dtab rs f))) (hx : IsRow H x r) (hr : r ∈ rs) : Ev (tDGet ta tb) σ H (f r) :=
  fun H1 e Q q => ha H1 e _ fun H2 e2 => hb H2 (e.trans e2) _ fun H3 e3 => ⟨p, f r, rfl, dget_row (((e.trans e2).trans e3) _ _ hp) (hx.ex ((e.trans e2).trans e3)) hr, q H3 (e2.trans e3)⟩
end
section
variable {P : Program} {w : World} {K : PySem.W.Frag} {mg : Str → Option Value} {base : Heap} {a : Nat → Addr} {d : Nat → FuncData} {tk : Nat → Tok}
/-! places_of -/
def plc (rs : List (List Int)) : List Int → V := fun r => .int (rs.idxOf r : Nat)
theorem idxOf_at {rs : List (List Int)} (hn : rs.Nodup) {i : Nat} {r : List Int} (h : rs[i]? = some r) : rs.idxOf r = i := by
  obtain ⟨hi, rfl⟩ := List.getElem?_eq_some_iff.mp h
  exact hn.idxOf_getElem i hi
def sp_places_of : Sp := fun vs H Q _ => ∃ (x : V) (rs : List (List Int)), vs = [x] ∧ Rws H x rs ∧ rs.Nodup ∧ rs.length ≤ 60 ∧ ∀ p H2, H p = none → Ex H H2 → H2 p = some (.dT (dtab rs (plc rs))) → Q (.ref p) H2
theorem ok_places_of (T : All K mg a d tk) : FnOk P w K mg base CX0 1 (a 7) (d 7) ["rows"] sp_places_of := by
  refine T.F_places_of.fn.ok sc_places_of (fun vs H Q E h => ?_) (fun cdv A outer s H vs Q E hr h => ?_)
  · obtain ⟨x, rs, rfl, _⟩ := h
    rfl
  · obtain ⟨x, rs, rfl, hx, hn, h60, k⟩ := h
    have nd := sc_places_of.nd
    have hu0 := hr.units0
    refine ⟨_, (pss_one (ps_ret (pe_dcT (own := [("place", 1), ("row", 2)]) (g := (gTup K 2 (gCons (gName 1) (gCons (gName 2) gNil)))) hu0 rfl nd (pi_enumS rfl T.n_enumerate (pa_cons (pv 0) pa_nil)) (blkOk_by (N := N_places_of) (sc := defScope s_places_of) (by decide +kernel)) (fun _ _ _ _ _ => (pg_tup rfl (pgs_cons (pg_name (i := 1) nd rfl (Or.inl rfl)) (pgs_cons (pg_name (i := 2) nd rfl (Or.inl rfl)) pgs_nil)))) (fun _ _ _ _ _ => pts_nil) (fun _ _ _ _ _ => (pv 2)) (fun _ _ _ _ _ => (pv 1))))), ?_⟩
    obtain ⟨p, xs, rfl, hs, hp⟩ := id hx
    have hlen : xs.length = rs.length := Paired.length hp
    let Pv : Addr → Nat → Hp → Prop := fun D i H' => H D = none ∧ Ex H H' ∧ H' D = some (.dT (dtab (rs.take i) (plc rs)))
    have turn : ∀ (D : Addr) (i : Nat) (y : V) (H' H'' : Hp), i < xs.length → Pv D i H' → YPair (fun i => some (.int (i : Nat))) (fun i => xs[i]?) i H' y H'' →
        gTup K 2 (gCons (gName 1) (gCons (gName 2) gNil)) y (wipe (start N_places_of [.ref p]) [1, 2]) H'' fun σ2 H2 => wipe σ2 [1, 2] = wipe (start N_places_of [.ref p]) [1, 2] ∧ kDict (tVar 2) (tVar 1) D σ2 H2 (Pv D (i + 1)) := by
      rintro D i y H' H'' hi ⟨hD, ex, hd⟩ ⟨T2, x1, x2, rfl, hT, rfl, e1, e2⟩
      cases e1
      have exT : Ex H' (upd H' T2 (.tup [.int (i : Nat), x2])) := Ex.new hT
      obtain ⟨r, hr, hrow⟩ := Paired.at_l hp i x2 e2
      have hnr : r ∉ rs.take i := fun hm => by
        obtain ⟨j, hj, ej⟩ := List.mem_iff_getElem.mp hm
        have hj2 : j < i := by rw [List.length_take] at hj; omega
        have g : rs[j]? = some r := by
          rw [List.getElem_take] at ej
          rw [← ej]
          exact List.getElem?_eq_getElem _
        have a1 := idxOf_at hn g
        have a2 := idxOf_at hn hr
        omega
      refine ⟨T2, _, rfl, st_of upd_same, rfl, _, _, rfl, _, _, rfl, rfl, rfl, x2, rfl, .int (i : Nat), rfl, _, dput_new (exT _ _ hd) (hrow.ex (ex.trans exT)) hnr (by rw [List.length_take]; omega), hD, Ex.mut (ex.trans exT) hD, ?_⟩
      rw [upd_same]
      have et : rs.take (i + 1) = rs.take i ++ [r] := take_next hr
      rw [et]
      refine congrArg (fun z => some (HO.dT z)) (dtab_congr fun q hq => ?_)
      unfold fset
      by_cases e : q = r
      · rw [if_pos e, e]
        unfold plc
        rw [idxOf_at hn hr]
      · rw [if_neg e]
    have fin : ∀ D H', Pv D xs.length H' → Q (.ref D) H' := fun D H' ⟨hD, ex, hd⟩ => by
      rw [hlen, List.take_length] at hd
      exact k D H' hD ex hd
    rcases hs with hs | hs
    · refine .inl ⟨_, rfl, p, xs, rfl, sq_of hs, fun D hD => ?_⟩
      exact cm_it (walk_enum (K := K) (a := p) (xs := xs)) (Pv D) ⟨hD, Ex.new hD, upd_same⟩ (fun i H' _ ⟨_, e, _⟩ => sq_of (e _ _ hs)) (fun i y H' H'' hi pv yy => turn D i y H' H'' hi pv yy) fun H' pv => fin D H' pv
    · refine .inr ⟨_, rfl, p, xs, rfl, st_of hs, fun D hD => ?_⟩
      exact cm_it (walk_enumU (K := K) (a := p) (xs := xs)) (Pv D) ⟨hD, Ex.new hD, upd_same⟩ (fun i H' _ ⟨_, e, _⟩ => st_of (e _ _ hs)) (fun i y H' H'' hi pv yy => turn D i y H' H'' hi pv yy) fun H' pv => fin D H' pv
end
end Mv
/-! levels_of. -/
namespace Mv
open PySem PySem.Spec PyProof.Rows L2 Evl
/-- q stands ahead of r in every list -/
def Ah (Ls : List (List (List Int))) (q r : List Int) : Bool := Ls.all fun L => decide (L.idxOf q < L.idxOf r)
theorem Ah.lt {Ls : List (List (List Int))} {q r : List Int} {L : List (List Int)} (h : Ah Ls q r = true) (hL : L ∈ Ls) : L.idxOf q < L.idxOf r := of_decide_eq_true (List.all_eq_true.mp h L hL)
structure LevOn (Ls : List (List (List Int))) (S : List (List Int)) (lev : List Int → Nat) (ahd : List Int → Option (List Int)) : Prop where
  lt : ∀ r ∈ S, ∀ q ∈ S, Ah Ls q r = true → lev q < lev r
  how : ∀ r ∈ S, (lev r = 0 ∧ ahd r = none) ∨ ∃ q ∈ S, Ah Ls q r = true ∧ lev r = lev q + 1 ∧ ahd r = some q
def nset {α : Type} (f : List Int → α) (r : List Int) (c : α) : List Int → α := fun q => if q = r then c else f q
theorem nset_same {α : Type} {f : List Int → α} {r : List Int} {c : α} : nset f r c r = c := if_pos rfl
theorem nset_ne {α : Type} {f : List Int → α} {r q : List Int} {c : α} (h : q ≠ r) : nset f r c q = f q := if_neg h
/-- what the inner loop knows: c the level, o the one ahead, of r among T -/
structure Inner (Ls : List (List (List Int))) (S T : List (List Int)) (lev : List Int → Nat) (r : List Int) (c : Nat) (o : Option (List Int)) : Prop where
  lt : ∀ q ∈ T, q ≠ r → Ah Ls q r = true → lev q < c
  how : (c = 0 ∧ o = none) ∨ ∃ q ∈ S, Ah Ls q r = true ∧ c = lev q + 1 ∧ o = some q
theorem LevOn.snoc {Ls : List (List (List Int))} {S : List (List Int)} {lev : List Int → Nat} {ahd : List Int → Option (List Int)} {r : List Int} {c : Nat} {o : Option (List Int)} (h : LevOn Ls S lev ahd) (hr : r ∉ S) (irr : Ah Ls r r = false) (back : ∀ q ∈ S, Ah Ls r q = false)
    (i : Inner Ls S S lev r c o) : LevOn Ls (S ++ [r]) (nset lev r c) (nset ahd r o) where
  lt := fun r2 h2 q2 h1 ha => by
    have m : ∀ {q : List Int}, q ∈ S → q ≠ r := fun hq e => hr (e ▸ hq)
    rcases List.mem_append.mp h2 with h2 | h2
    · rcases List.mem_append.mp h1 with h1 | h1
      · rw [nset_ne (m h1), nset_ne (m h2)]
        exact h.lt r2 h2 q2 h1 ha
      · rw [List.mem_singleton.mp h1, back r2 h2] at ha
        cases ha
    · have e2 := List.mem_singleton.mp h2
      subst e2
      rcases List.mem_append.mp h1 with h1 | h1
      · rw [nset_ne (m h1), nset_same]
        exact i.lt q2 h1 (m h1) ha
      · rw [List.mem_singleton.mp h1, irr] at ha
        cases ha
  how := fun r2 h2 => by
    have m : ∀ {q : List Int}, q ∈ S → q ≠ r := fun hq e => hr (e ▸ hq)
    rcases List.mem_append.mp h2 with h2 | h2
    · rw [nset_ne (m h2), nset_ne (m h2)]
      rcases h.how r2 h2 with z | ⟨q, hq, h3, h4, h5⟩
      · exact .inl z
      · exact .inr ⟨q, List.mem_append_left _ hq, h3, by rw [nset_ne (m hq)]; exact h4, h5⟩
    · have e2 := List.mem_singleton.mp h2
      subst e2
      rw [nset_same, nset_same]
      rcases i.how with z | ⟨q, hq, h3, h4, h5⟩
      · exact .inl z
      · exact .inr ⟨q, List.mem_append_left _ hq, h3, by rw [nset_ne (m hq)]; exact h4, h5⟩
def AhV (H : Hp) (v : V) : Option (List Int) → Prop
  | none => v = .non
  | some q => IsRow H v q
theorem AhV.ex {H H' : Hp} {v : V} {o : Option (List Int)} (h : AhV H v o) (e : Ex H H') : AhV H' v o := by
  cases o with
  | none => exact h
  | some q => exact IsRow.ex h e
theorem IsRow.upd {H : Hp} {v : V} {q : List Int} {p : Addr} {o o' : HO} (h : IsRow H v q) (hp : H p = some o) (ne : ∀ xs, o ≠ .tup xs) : IsRow (upd H p o') v q := by
  obtain ⟨b, e, hb⟩ := h
  refine ⟨b, e, (upd_ne fun z => ?_).trans hb⟩
  rw [z, hp] at hb
  exact ne _ (Option.some.inj hb)
theorem AhV.upd {H : Hp} {v : V} {o : Option (List Int)} {p : Addr} {u u' : HO} (h : AhV H v o) (hp : H p = some u) (ne : ∀ xs, u ≠ .tup xs) : AhV (L2.upd H p u') v o := by
  cases o with
  | none => exact h
  | some q => exact IsRow.upd h hp ne
theorem given_all (out : List V) : given out.length (fun _ => true) (fun i => out.getD i .non) = out := by
  have z := given_eq out (fun _ => true) (fun x => x)
  rw [filter_true, List.map_id'] at z
  exact z
section
variable {K : PySem.W.Frag} {σ : L2.St} {H H' : Hp} {ta tb tc te tl tx : TE} {t u : TT} {x y z v : V} {D : Ends}
/-- over a list, by what is given for each -/
theorem el_lcR {a : Addr} {xs out : List V} {j : Nat} {vs : List Nat} (h : Ev tl σ H (.ref a)) (hx : SqL K H a xs) (hz : xs.length ≤ 40000) (hl : xs.length = out.length) (hw : ∀ x, wipe ((wipe σ vs).set j (some x)) vs = wipe σ vs)
    (he : ∀ (i : Nat) (x y : V) H1, Ex H H1 → xs[i]? = some x → out[i]? = some y → Ev te ((wipe σ vs).set j (some x)) H1 y) : EvL (tLc (iList K tl) (gName j) tYes te vs) σ H out := by
  have z := el_lcL (K := K) (t := tYes) (te := te) (fun _ => true) (fun i => out.getD i .non) h hx hz hw (fun _ _ _ _ _ => et_yes) fun i x H1 e hi _ => by
    have hi2 : i < out.length := by rw [← hl]; exact (List.getElem?_eq_some_iff.mp hi).1
    refine he i x _ H1 e hi ?_
    rw [List.getD_eq_getElem?_getD, List.getElem?_eq_getElem hi2] <;> rfl
  rw [hl, given_all] at z
  exact z
/-- elements that are new objects -/
theorem lc_fresh {J : It} {n : Nat} {G : Hp → Prop} (f : Nat → V) (w : Walk J n G (fun i H x H' => H' = H ∧ f i = x)) {vs : List Nat} {H1 : Hp} {Dl : Addr} {j : Nat} {Qd : Hp → Prop} (hD : H1 Dl = none) (hn : n ≤ 1000) (hG : ∀ H', Ex H1 H' → G H') (hw : ∀ x, wipe ((wipe σ vs).set j (some x)) vs = wipe σ vs) (O : Nat → HO → Prop)
    (he : ∀ i, i < n → ∀ H', Ex H1 H' → ∀ Q : VK, (∀ p H2, H' p = none → Ex H' H2 → (∃ o, H2 p = some o ∧ O i o) → Q (.ref p) H2) → te ((wipe σ vs).set j (some (f i))) H' Q)
    (hd : ∀ H' ys, Ex H1 H' → H' Dl = some (.lst ys) → ys.length = n → (∀ (i : Nat) (y : V), ys[i]? = some y → ∃ q o, y = .ref q ∧ H1 q = none ∧ q ≠ Dl ∧ H' q = some o ∧ O i o) → Qd H') :
    ∃ W : Nat → Nat → Hp → Prop, (∃ m, W 0 m (upd H1 Dl (.lst []))) ∧ ∀ i m H, W i m H →
      (J.stop i H ∧ Qd H) ∨ (J.go i H ∧ ∃ Nx : Hp → Prop, (∀ H', Nx H' → ∃ m', m' < m ∧ W (i + 1) m' H') ∧ ∀ x H', J.yld i H x H' → gName j x (wipe σ vs) H' fun σ2 H2 => wipe σ2 vs = wipe σ vs ∧ tYes σ2 H2 fun b H3 =>
        if b = true then te σ2 H3 fun y H4 => ∃ acc, H4 Dl = some (.lst acc) ∧ acc.length < sizeLine ∧ Nx (upd H4 Dl (.lst (acc ++ [y]))) else Nx H3) := by
  refine lc_it w (fun i H' => Ex H1 H' ∧ ∃ ys : List V, H' Dl = some (.lst ys) ∧ ys.length = i ∧ ∀ (k : Nat) (y : V), ys[k]? = some y → ∃ q o, y = .ref q ∧ H1 q = none ∧ q ≠ Dl ∧ H' q = some o ∧ O k o)
    ⟨Ex.new hD, [], upd_same, rfl, fun k y h => by simp at h⟩ (fun i H' _ p => hG H' p.1) ?_ fun H' ⟨e, ys, h1, h2, h3⟩ => hd H' ys e h1 h2 h3
  rintro i x H' H'' hi ⟨e, ys, h1, h2, h3⟩ ⟨rfl, rfl⟩
  refine ⟨hw _, ?_⟩
  show te _ _ _
  refine he i hi H'' e _ fun p H2 hp e2 ⟨o, ho, hO⟩ => ⟨ys, e2 _ _ h1, Nat.lt_of_le_of_lt (by rw [h2]; omega) (show 1000 < sizeLine by decide), Ex.mut (e.trans e2) hD, ys ++ [.ref p], upd_same, by rw [List.length_append, h2] <;> rfl, fun k y hk => ?_⟩
  have npD : p ≠ Dl := fun z => by rw [z, h1] at hp; cases hp
  rcases Nat.lt_or_ge k ys.length with hlt | hge
  · rw [List.getElem?_append_left hlt] at hk
    obtain ⟨q, o2, z1, z2, z3, z4, z5⟩ := h3 k y hk
    exact ⟨q, o2, z1, z2, z3, by rw [upd_ne z3]; exact e2 _ _ z4, z5⟩
  · rw [List.getElem?_append_right hge] at hk
    have hk0 : k = ys.length := by
      have := (List.getElem?_eq_some_iff.mp hk).1
      simp at this
      omega
    subst hk0
    rw [Nat.sub_self] at hk
    cases (Option.some.inj (show some _ = some y from hk))
    rw [h2]
    exact ⟨p, o, rfl, fresh_back e hp, npD, by rw [upd_ne npD]; exact ho, hO⟩
/-- two stores by one tuple -/
theorem s_put2 {i1 i2 ir : Nat} {p1 p2 : Addr} {v1 v2 : V} {ta : TA} (h : EvA ta σ H [v1, v2]) (h1 : σ[i1]? = some (some (.ref p1))) (h2 : σ[i2]? = some (some (.ref p2))) (hr : σ[ir]? = some (some x))
    (k : ∀ H1, Ex H H1 → ∃ H2 H3, DPut H1 p1 x v1 H2 ∧ DPut H2 p2 x v2 H3 ∧ D.nx σ H3) :
    tAsg (tTup ta) (gTup K 2 (gCons (gSub (tVar i1) (tVar ir) fun o i v H Q => ∃ (a : Addr) (H' : Hp), o = .ref a ∧ DPut H a i v H' ∧ Q H') (gCons (gSub (tVar i2) (tVar ir) fun o i v H Q => ∃ (a : Addr) (H' : Hp), o = .ref a ∧ DPut H a i v H' ∧ Q H') gNil))) D σ H := by
  refine h H (Ex.refl H) _ fun H1 e1 => ⟨sz_of (show 2 ≤ 100000 by decide), fun t ht => ?_⟩
  obtain ⟨H2, H3, q1, q2, q3⟩ := k _ (e1.trans (Ex.new (o := .tup [v1, v2]) ht))
  exact ⟨t, _, rfl, st_of upd_same, rfl, v1, _, rfl, _, h1, _, hr, p1, H2, rfl, q1, v2, _, rfl, _, h2, _, hr, p2, H3, rfl, q2, rfl, q3⟩
theorem q_put2 {i1 i2 ir : Nat} {p1 p2 : Addr} {v1 v2 : V} {ta : TA} {tz : TS} (h : EvA ta σ H [v1, v2]) (h1 : σ[i1]? = some (some (.ref p1))) (h2 : σ[i2]? = some (some (.ref p2))) (hr : σ[ir]? = some (some x))
    (k : ∀ H1, Ex H H1 → ∃ H2 H3, DPut H1 p1 x v1 H2 ∧ DPut H2 p2 x v2 H3 ∧ tz D σ H3) :
    tSeq (tAsg (tTup ta) (gTup K 2 (gCons (gSub (tVar i1) (tVar ir) fun o i v H Q => ∃ (a : Addr) (H' : Hp), o = .ref a ∧ DPut H a i v H' ∧ Q H') (gCons (gSub (tVar i2) (tVar ir) fun o i v H Q => ∃ (a : Addr) (H' : Hp), o = .ref a ∧ DPut H a i v H' ∧ Q H') gNil)))) tz D σ H := s_put2 (D := { D with nx := tz D }) h h1 h2 hr k
end
/-- the places' dicts of the lists -/
def PlcAt (H : Hp) (ys : List V) (Ls : List (List (List Int))) : Prop := Paired (fun y L => ∃ q, y = .ref q ∧ H q = some (.dT (dtab L (plc L)))) ys Ls
theorem PlcAt.ex {H H' : Hp} {ys : List V} {Ls : List (List (List Int))} (h : PlcAt H ys Ls) (e : Ex H H') : PlcAt H' ys Ls := Paired.imp (fun _ _ ⟨q, h1, h2⟩ => ⟨q, h1, e _ _ h2⟩) h
theorem paired_of {α β : Type} {F : α → β → Prop} : ∀ {xs : List α} {ys : List β}, xs.length = ys.length → (∀ (i : Nat) (x : α) (y : β), xs[i]? = some x → ys[i]? = some y → F x y) → Paired F xs ys
  | [], [], _, _ => .nil
  | [], _ :: _, h, _ => by simp at h
  | _ :: _, [], h, _ => by simp at h
  | x :: xs, y :: ys, h, f => .cons (f 0 x y rfl rfl) (paired_of (by simpa using h) fun i a b h1 h2 => f (i + 1) a b h1 h2)
section
variable {P : Program} {w : World} {K : PySem.W.Frag} {mg : Str → Option Value} {base : Heap} {a : Nat → Addr} {d : Nat → FuncData} {tk : Nat → Tok}
def LevRes (Ls : List (List (List Int))) (R : List (List Int)) (t : Addr) (H2 : Hp) : Prop := ∃ (p1 p2 : Addr) (lev : List Int → Nat) (ahd : List Int → Option (List Int)) (g : List Int → V), H2 t = some (.tup [.ref p1, .ref p2]) ∧ H2 p1 = some (.dT (dtab R fun r => .int (lev r : Nat))) ∧ H2 p2 = some (.dT (dtab R g)) ∧
  (∀ r ∈ R, AhV H2 (g r) (ahd r)) ∧ LevOn Ls R lev ahd
def sp_levels_of : Sp := fun vs H Q _ => ∃ (x : V) (Ls : List (List (List Int))) (R : List (List Int)) (n : Nat), vs = [x] ∧ Lss H x Ls ∧ OkLists n Ls ∧ Ls[0]? = some R ∧ ∀ t H2, Ex H H2 → LevRes Ls R t H2 → Q (.ref t) H2
theorem ok_levels_of (T : All K mg a d tk) : FnOk P w K mg base CX0 2 (a 12) (d 12) ["lists"] sp_levels_of := by
  refine T.F_levels_of.fn.ok sc_levels_of (fun vs H Q E h => ?_) (fun cdv A outer s H vs Q E hr h => ?_)
  · obtain ⟨x, Ls, R, n, rfl, _⟩ := h
    rfl
  · obtain ⟨x, Ls, R, n, rfl, hx, ho, hR, k⟩ := h
    have nd := sc_levels_of.nd
    have hu := hu_of hr
    obtain ⟨p, xs, rfl, hs, hp⟩ := id hx
    have hlen : xs.length = Ls.length := Paired.length hp
    have hsix := ho.six
    have hRm : R ∈ Ls := List.mem_of_getElem? hR
    have oR : OkRows n R := ho.ok R hRm
    have hR60 := oR.few
    obtain ⟨x0, hx0, a0, xs0, rfl, hs0, hp0⟩ := Paired.at_r hp 0 R hR
    have hlen0 : xs0.length = R.length := Paired.length hp0
    refine ⟨_, (pss_cons (ps_setLc (i := 1) (own := [("rows", 6)]) (g := (gName 6)) rfl nd rfl rfl (sw_true rfl rfl rfl (by decide +kernel)) (pi_seq (pv 0)) (blkOk_by (N := N_levels_of) (sc := defScope s_levels_of) (by decide +kernel)) (fun _ _ _ _ _ => (pg_name (i := 6) nd rfl (Or.inl rfl))) (fun _ _ _ _ _ => pts_nil) (fun _ _ _ _ _ => (pe_call (ok_places_of T) (hr.mono (by decide)) rfl T.F_places_of.m T.F_places_of.kp T.F_places_of.b .nil pass0 (pa_cons (pv 6) pa_nil))))
 (pss_cons (ps_par (i := 2) (j := 3) rfl nd rfl rfl (by decide) rfl rfl (pa_cons pe_dnewT (pa_cons pe_dnewT pa_nil)) (by rfl))
 (pss_cons (ps_for PassesOwn.never rfl (pi_seq (pe_ix ix_seq (pv 0) pe_int (fun _ _ => rfl))) (pg_name (i := 4) nd rfl (Or.inr rfl))
 (pss_cons (ps_asg (pe_tup (pa_cons pe_int (pa_cons pe_non pa_nil))) (pg_tup rfl (pgs_cons (pg_sub (pv 2) (pv 4) (set_dict hu)) (pgs_cons (pg_sub (pv 3) (pv 4) (set_dict hu)) pgs_nil))) (hw := by rfl))
 (pss_one (ps_for PassesOwn.never rfl (pi_list (pe_callTy (call_list_dT rfl) rfl T.n_list PyProof.Rows.boot_list (pa_cons (pv 2) pa_nil))) (pg_name (i := 5) nd rfl (Or.inr rfl))
 (pss_one (ps_if (PW.pt (pw_and (pt_val (pe_callB (cr_all rfl) (by rfl) T.n_all PyProof.Rows.boot_all (pa_cons (pe_lc (own := [("place", 7)]) (g := (gName 7)) rfl nd (pi_list (pv 1)) (blkOk_by (N := N_levels_of) (sc := defScope s_levels_of) (by decide +kernel)) (fun _ _ _ _ _ => (pg_name (i := 7) nd rfl (Or.inl rfl))) (fun _ _ _ _ _ => pts_nil) (fun _ _ _ _ _ => (pe_cmpR op_lt (pe_dget hu (pv 7) (pv 5) (fun _ _ => rfl)) (pe_dget hu (pv 7) (pv 4) (fun _ _ => rfl)) (nomark _)))) pa_nil))) (pw_and1 (pt_cmpR op_ge (pe_dget hu (pv 2) (pv 5) (fun _ _ => rfl)) (pe_dget hu (pv 2) (pv 4) (fun _ _ => rfl)) (nomark _)))))
 (pss_one (ps_asg (pe_tup (pa_cons (pe_op op_add (pe_dget hu (pv 2) (pv 5) (fun _ _ => rfl)) pe_int) (pa_cons (pv 5) pa_nil))) (pg_tup rfl (pgs_cons (pg_sub (pv 2) (pv 4) (set_dict hu)) (pgs_cons (pg_sub (pv 3) (pv 4) (set_dict hu)) pgs_nil))) (hw := by rfl)))
 pss_nil))))))
 (pss_one (ps_ret (pe_tup (pa_cons (pv 2) (pa_cons (pv 3) pa_nil)))))))), ?_⟩
    have places : ∀ (D : Ends) (q : ∀ pl B ys, H pl = none → Ex H B → B pl = some (.lst ys) → PlcAt B ys Ls → D.nx [some (.ref p), some (.ref pl), none, none, none, none, none, none] B),
        tAsg (tLc (iSeq K (tVar 0)) (gName 6) tYes (tCall sp_places_of [] (fun _ _ _ => False) (tCons (tVar 6) tNil)) [6]) (gName 1) D (start N_levels_of [.ref p]) H := by
      intro D q
      have step : ∀ H1, Ex H H1 → ∀ i, i < xs.length → ∀ H', Ex H1 H' → ∀ Q' : VK, (∀ p H2, H' p = none → Ex H' H2 → (∃ o, H2 p = some o ∧ ∃ L, Ls[i]? = some L ∧ o = .dT (dtab L (plc L))) → Q' (.ref p) H2) →
          tCall sp_places_of [] (fun _ _ _ => False) (tCons (tVar 6) tNil) ((wipe (start N_levels_of [.ref p]) [6]).set 6 (some (xs.getD i .non))) H' Q' := fun H1 e1 i hi H' e' Q' q' => by
        obtain ⟨L, hL, hrow⟩ := Paired.at_l hp i xs[i] (List.getElem?_eq_getElem hi)
        have eg : xs.getD i .non = xs[i] := by rw [List.getD_eq_getElem?_getD, List.getElem?_eq_getElem hi] <;> rfl
        rw [eg]
        have oL := ho.ok L (List.mem_of_getElem? hL)
        exact ⟨_, rfl, xs[i], L, rfl, hrow.ex (e1.trans e'), oL.nd, oL.few, fun p H2 h1 h2 h3 => q' p H2 h1 h2 ⟨_, h3, L, hL, rfl⟩⟩
      have fin : ∀ H1, Ex H H1 → ∀ Dl, H1 Dl = none → ∀ H' ys, Ex H1 H' → H' Dl = some (.lst ys) → ys.length = xs.length → (∀ (i : Nat) (y : V), ys[i]? = some y → ∃ q o, y = .ref q ∧ H1 q = none ∧ q ≠ Dl ∧ H' q = some o ∧ ∃ L, Ls[i]? = some L ∧ o = .dT (dtab L (plc L))) →
          gName 1 (.ref Dl) (start N_levels_of [.ref p]) H' D.nx := fun H1 e1 Dl hDl H' ys e' h1 h2 h3 => by
        refine q Dl H' ys (fresh_back e1 hDl) (e1.trans e') h1 (paired_of (by rw [h2, hlen]) fun i y L hy hL => ?_)
        obtain ⟨q0, o, z1, _, _, z4, L', z5, z6⟩ := h3 i y hy
        rw [hL] at z5
        cases z5
        exact ⟨q0, z1, by rw [z4, z6]⟩
      rcases hs with hs | hs
      · refine .inl ⟨_, rfl, p, rfl, ⟨xs, sq_of hs⟩, fun Dl hD => ?_⟩
        refine lc_fresh (fun i => xs.getD i .non) ((walk_list (K := K) (a := p) (xs := xs)).mono (fun _ h => h) fun i H0 x H0' hi _ ⟨z1, z2⟩ => ⟨z1, by rw [List.getD_eq_getElem?_getD, z2] <;> rfl⟩) hD (by omega) (fun H' e' => sq_of (e' _ _ hs)) (fun _ => rfl) (fun i o => ∃ L, Ls[i]? = some L ∧ o = .dT (dtab L (plc L))) (step H (Ex.refl H)) (fin H (Ex.refl H) Dl hD)
      · refine .inr ⟨_, rfl, p, rfl, ⟨xs, st_of hs⟩, fun Dl hD => ?_⟩
        refine lc_fresh (fun i => xs.getD i .non) ((walk_tup (K := K) (a := p) (xs := xs)).mono (fun _ h => h) fun i H0 x H0' hi _ ⟨z1, z2⟩ => ⟨z1, by rw [List.getD_eq_getElem?_getD, z2] <;> rfl⟩) hD (by omega) (fun H' e' => st_of (e' _ _ hs)) (fun _ => rfl) (fun i o => ∃ L, Ls[i]? = some L ∧ o = .dT (dtab L (plc L))) (step H (Ex.refl H)) (fin H (Ex.refl H) Dl hD)
    refine places _ fun pl B ys hpl eB hpy hys => ?_
    intro p1 np1 p2 np2
    refine ⟨_, _, rfl, ?_⟩
    have np2B : B p2 = none := by
      cases q : B p2 with
      | none => rfl
      | some o =>
        have z := (Ex.new (o := .dT []) np1) p2 o q
        rw [z] at np2
        cases np2
    have n12 : p1 ≠ p2 := fun z => by
      rw [← z, upd_same] at np2
      cases np2
    generalize hH1 : upd (upd B p1 (HO.dT [])) p2 (HO.dT []) = H1
    have eBH : Ex B H1 := by
      rw [← hH1]
      exact (Ex.new np1).trans (Ex.new np2)
    have hp1 : H1 p1 = some (.dT []) := by rw [← hH1, upd_ne n12, upd_same]
    have hp2 : H1 p2 = some (.dT []) := by rw [← hH1, upd_same]
    have sB : Seq B p xs := hs.ex eB
    have s0B : Seq B a0 xs0 := hs0.ex eB
    have rowB : ∀ (j : Nat) (y : V), xs0[j]? = some y → ∃ r, R[j]? = some r ∧ IsRow B y r := fun j y hy => by
      obtain ⟨r, h1, h2⟩ := Paired.at_l hp0 j y hy
      exact ⟨r, h1, h2.ex eB⟩
    have ix : ∀ {j : Nat} {r : List Int}, R[j]? = some r → R.idxOf r = j := fun h => idxOf_at oR.nd h
    have irr : ∀ r, Ah Ls r r = false := fun r => by
      cases q : Ah Ls r r with
      | false => rfl
      | true => exact absurd (Ah.lt q hRm) (Nat.lt_irrefl _)
    let Ov : Nat → L2.St → Hp → Prop := fun j σ' H' => Ex B H' ∧ ∃ (lev : List Int → Nat) (ahd : List Int → Option (List Int)) (g : List Int → V) (vr vo : Option V), σ' = [some (.ref p), some (.ref pl), some (.ref p1), some (.ref p2), vr, vo, none, none] ∧
      H' p1 = some (.dT (dtab (R.take j) fun r => .int (lev r : Nat))) ∧ H' p2 = some (.dT (dtab (R.take j) g)) ∧ (∀ r ∈ R.take j, AhV H' (g r) (ahd r)) ∧ LevOn Ls (R.take j) lev ahd
    refine q_forS (a := a0) (xs := xs0) (ev_ixS (i := 0) (ev_var rfl) ev_c (sB.ex eBH) (atI_nat hx0)) (s0B.ex eBH) Ov (fun H2 e2 => ⟨eBH.trans e2, fun _ => 0, fun _ => none, fun _ => .non, none, none, rfl, e2 _ _ hp1, e2 _ _ hp2, fun r hr => by simp at hr, ⟨fun r hr => by simp at hr, fun r hr => by simp at hr⟩⟩)
      (fun j σ' H' _ ⟨e', _⟩ => s0B.elim (fun z => (e' _ _ z).trans (eBH _ _ z).symm) fun z => (e' _ _ z).trans (eBH _ _ z).symm) ?_ ?_
    · rintro j y σ' H' hy ⟨e', lev, ahd, g, vr, vo, rfl, h1, h2, h3, h4⟩
      obtain ⟨r, hr, hrow⟩ := rowB j y hy
      have hj : j < R.length := (List.getElem?_eq_some_iff.mp hr).1
      have ej := ix hr
      have memT : ∀ q ∈ R.take j, R.idxOf q < j ∧ q ∈ R := fun q hq => by
        obtain ⟨i, hi, ei⟩ := List.mem_iff_getElem.mp hq
        have hi2 : i < j := by rw [List.length_take] at hi; omega
        rw [List.getElem_take] at ei
        have g1 : R[i]? = some q := by rw [← ei]; exact List.getElem?_eq_getElem _
        exact ⟨by rw [ix g1]; exact hi2, List.mem_of_getElem? g1⟩
      have nr : r ∉ R.take j := fun h => by have := (memT r h).1; omega
      have eT : R.take (j + 1) = R.take j ++ [r] := take_next hr
      have back : ∀ q ∈ R.take j, Ah Ls r q = false := fun q hq => by
        cases z : Ah Ls r q with
        | false => rfl
        | true =>
          have h1 := Ah.lt z hRm
          have h2 := (memT q hq).1
          omega
      have l60 : (R.take j).length ≤ 100 := by rw [List.length_take]; omega
      have l61 : (R.take j ++ [r]).length ≤ 100 := by rw [List.length_append, List.length_take, List.length_singleton]; omega
      have mr : r ∈ R.take j ++ [r] := List.mem_append_right _ List.mem_cons_self
      refine q_put2 (ea_cons ev_c (ea_cons ev_c ea_nil)) rfl rfl rfl fun H2 e2 => ?_
      have q1 := dput_new (v := .int 0) (e2 _ _ h1) ((hrow.ex e').ex e2) nr l60
      have nt1 : ∀ (S : List (List Int)) (f : List Int → V) (xs : List V), HO.dT (dtab S f) ≠ .tup xs := fun _ _ _ z => by cases z
      have hrow2 := ((hrow.ex e').ex e2).upd (o' := .dT (dtab (R.take j ++ [r]) (fset (fun r => .int (lev r : Nat)) r (.int 0)))) (e2 _ _ h1) (nt1 _ _)
      have q2 := dput_new (v := .non) (H := upd H2 p1 (.dT (dtab (R.take j ++ [r]) (fset (fun r => .int (lev r : Nat)) r (.int 0))))) (p := p2) (by rw [upd_ne n12.symm]; exact e2 _ _ h2) hrow2 nr l60
      refine ⟨_, _, q1, q2, ?_⟩
      generalize hH3 : upd (upd H2 p1 (HO.dT (dtab (R.take j ++ [r]) (fset (fun r => V.int (lev r : Nat)) r (V.int 0))))) p2 (HO.dT (dtab (R.take j ++ [r]) (fset g r V.non))) = H3
      have eB3 : Ex B H3 := by
        rw [← hH3]
        exact Ex.mut (Ex.mut (e'.trans e2) np1) np2B
      have f1 : H3 p1 = some (.dT (dtab (R.take j ++ [r]) (fset (fun r => .int (lev r : Nat)) r (.int 0)))) := by rw [← hH3, upd_ne n12, upd_same]
      have f2 : H3 p2 = some (.dT (dtab (R.take j ++ [r]) (fset g r .non))) := by rw [← hH3, upd_same]
      have f3 : ∀ q ∈ R.take j, AhV H3 (g q) (ahd q) := fun q hq => by
        rw [← hH3]
        refine AhV.upd (AhV.upd ((h3 q hq).ex e2) (e2 _ _ h1) (nt1 _ _)) ?_ (nt1 (R.take j) g)
        rw [upd_ne n12.symm]
        exact e2 _ _ h2
      refine ⟨_, rfl, p1, _, rfl, .inl f1, fun kl bs hkl hks => ?_⟩
      refine ⟨kl, rfl, ⟨_, sq_of upd_same⟩, ?_⟩
      have eK : Ex H3 (upd H3 kl (.lst (bs.map V.ref))) := Ex.new hkl
      have nk1 : kl ≠ p1 := fun z => by rw [z, f1] at hkl; cases hkl
      have nk2 : kl ≠ p2 := fun z => by rw [z, f2] at hkl; cases hkl
      have nkB : B kl = none := fresh_back eB3 hkl
      have keyr : ∀ (i : Nat) (y : V), (bs.map V.ref)[i]? = some y → ∃ q, (R.take j ++ [r])[i]? = some q ∧ IsRow H3 y q := fun i y hy => by
        rw [List.getElem?_map] at hy
        obtain ⟨b, hb, rfl⟩ := Option.map_eq_some_iff.mp hy
        obtain ⟨kv, hkv, hkb⟩ := Paired.at_r hks i b hb
        unfold dtab at hkv
        rw [List.getElem?_map] at hkv
        obtain ⟨q, hq, rfl⟩ := Option.map_eq_some_iff.mp hkv
        refine ⟨q, hq, b, rfl, ?_⟩
        rw [← ky_kV]
        exact hkb
      have lenk : (bs.map V.ref).length = (R.take j ++ [r]).length := by
        rw [List.length_map, ← dtab_len (R.take j ++ [r]) (fset (fun r => .int (lev r : Nat)) r (.int 0))]
        exact (Paired.length hks).symm
      let Iv : Nat → L2.St → Hp → Prop := fun i σ' H' => Ex B H' ∧ H' kl = some (.lst (bs.map V.ref)) ∧ (∀ (i : Nat) (y : V), (bs.map V.ref)[i]? = some y → ∃ q, (R.take j ++ [r])[i]? = some q ∧ IsRow H' y q) ∧ (∀ q ∈ R.take j, AhV H' (g q) (ahd q)) ∧
        ∃ (c : Nat) (o : Option (List Int)) (v : V) (vo : Option V), σ' = [some (.ref p), some (.ref pl), some (.ref p1), some (.ref p2), some y, vo, none, none] ∧ H' p1 = some (.dT (dtab (R.take j ++ [r]) (fset (fun r => .int (lev r : Nat)) r (.int (c : Nat))))) ∧
          H' p2 = some (.dT (dtab (R.take j ++ [r]) (fset g r v))) ∧ AhV H' v o ∧ Inner Ls (R.take j) ((R.take j ++ [r]).take i) lev r c o
      refine for_list (K := K) (a := kl) (xs := bs.map V.ref) Iv ⟨eB3.trans eK, upd_same, fun i y hy => ?_, fun q hq => (f3 q hq).ex eK, 0, none, .non, vo, rfl, eK _ _ f1, eK _ _ f2, rfl, fun q hq => by simp at hq, .inl ⟨rfl, rfl⟩⟩ (fun i σ' H' _ ⟨_, z, _⟩ => sq_of z) ?_ ?_
      · obtain ⟨q, z1, z2⟩ := keyr i y hy
        exact ⟨q, z1, z2.ex eK⟩
      · rintro i z σ' H' hz ⟨e4, k1, k2, k3, c, o, v, vo', rfl, d1, d2, d3, d4⟩
        obtain ⟨q, hq, hqr⟩ := k2 i z hz
        have hi : i < (R.take j ++ [r]).length := (List.getElem?_eq_some_iff.mp hq).1
        have mq : q ∈ R.take j ++ [r] := List.mem_of_getElem? hq
        have qR : ∀ L ∈ Ls, q ∈ L := fun L hL => by
          have : q ∈ R := by
            rcases List.mem_append.mp mq with z | z
            · exact (memT q z).2
            · rw [List.mem_singleton.mp z]
              exact List.mem_of_getElem? hr
          exact (ho.pm L hL R hRm).mem_iff.mp this
        have rR : ∀ L ∈ Ls, r ∈ L := fun L hL => (ho.pm L hL R hRm).mem_iff.mp (List.mem_of_getElem? hr)
        have hrow4 : IsRow H' y r := hrow.ex e4
        have test : EvT (tAnd (tB (tCB (rAll K) (tCons (tLc (iList K (tVar 1)) (gName 7) tYes (tOp (rI0 fun i j => .bl (decide (i < j))) (tDGet (tVar 7) (tVar 5)) (tDGet (tVar 7) (tVar 4))) [7]) tNil))) (tTest (tOp (rI0 fun i j => .bl (decide (j ≤ i))) (tDGet (tVar 2) (tVar 5)) (tDGet (tVar 2) (tVar 4)))))
            [some (.ref p), some (.ref pl), some (.ref p1), some (.ref p2), some y, some z, none, none] H' (Ah Ls q r && decide (c ≤ nset lev r c q)) := by
          refine et_and ?_ fun _ => ?_
          · have eA : Ah Ls q r = ((Ls.map fun L => decide (L.idxOf q < L.idxOf r)).all id) := by
              unfold Ah
              rw [List.all_map]
              rfl
            rw [eA]
            refine et_B (ev_allN (el_lcR (xs := ys) (ev_var rfl) (sq_of (e4 _ _ hpy)) ?_ ?_ (fun _ => rfl) fun i2 x2 y2 H5 e5 g1 g2 => ?_))
            · have := Paired.length hys; omega
            · rw [List.length_map, List.length_map]; exact Paired.length hys
            · rw [List.map_map, List.getElem?_map] at g2
              obtain ⟨L, hL, rfl⟩ := Option.map_eq_some_iff.mp g2
              obtain ⟨L', hL', q0, rfl, hq0⟩ := Paired.at_l hys i2 x2 g1
              rw [hL] at hL'
              cases hL'
              have mL := List.mem_of_getElem? hL
              have a1 := ev_dget (σ := (wipe [some (.ref p), some (.ref pl), some (.ref p1), some (.ref p2), some y, some z, none, none] [7]).set 7 (some (.ref q0))) (ta := tVar 7) (tb := tVar 5) (ev_var rfl) (ev_var rfl) ((e4.trans e5) _ _ hq0) (hqr.ex e5) (qR L mL)
              have a2 := ev_dget (σ := (wipe [some (.ref p), some (.ref pl), some (.ref p1), some (.ref p2), some y, some z, none, none] [7]).set 7 (some (.ref q0))) (ta := tVar 7) (tb := tVar 4) (ev_var rfl) (ev_var rfl) ((e4.trans e5) _ _ hq0) (hrow4.ex e5) (rR L mL)
              refine ev_is (ev_I0 a1 a2) ?_
              show V.bl (decide (((L.idxOf q : Nat) : Int) < ((L.idxOf r : Nat) : Int))) = V.bl (decide (L.idxOf q < L.idxOf r))
              congr 1
              exact decide_eq_decide.mpr (by omega)
          · have a1 := ev_dget (σ := [some (.ref p), some (.ref pl), some (.ref p1), some (.ref p2), some y, some z, none, none]) (ta := tVar 2) (tb := tVar 5) (ev_var rfl) (ev_var rfl) d1 hqr mq
            have a2 := ev_dget (σ := [some (.ref p), some (.ref pl), some (.ref p1), some (.ref p2), some y, some z, none, none]) (ta := tVar 2) (tb := tVar 4) (ev_var rfl) (ev_var rfl) d1 hrow4 mr
            have v1 : fset (fun r => V.int (lev r : Nat)) r (V.int (c : Nat)) q = V.int ((nset lev r c q : Nat) : Int) := by
              unfold fset nset
              by_cases e : q = r
              · rw [if_pos e, if_pos e]
              · rw [if_neg e, if_neg e]
            have v2 : fset (fun r => V.int (lev r : Nat)) r (V.int (c : Nat)) r = V.int (c : Int) := if_pos rfl
            rw [v1] at a1
            rw [v2] at a2
            refine et_is (et_I0 a1 a2) (decide_eq_decide.mpr (by omega))
        refine s_when test (fun hb H5 e5 => ?_) fun hb H5 e5 => ?_
        · -- level_of[row], ahead[row] = (level_of[other] + 1, other)
          obtain ⟨hA, hc⟩ := Bool.and_eq_true_iff.mp hb
          have hc := of_decide_eq_true hc
          have nqr : q ≠ r := fun e => by
            rw [e, irr] at hA
            cases hA
          rw [nset_ne nqr] at hc
          have mqS : q ∈ R.take j := (List.mem_append.mp mq).resolve_right fun z => nqr (List.mem_singleton.mp z)
          have a1 := ev_dget (σ := [some (.ref p), some (.ref pl), some (.ref p1), some (.ref p2), some y, some z, none, none]) (ta := tVar 2) (tb := tVar 5) (ev_var rfl) (ev_var rfl) (e5 _ _ d1) (hqr.ex e5) mq
          have v1 : fset (fun r => V.int (lev r : Nat)) r (V.int (c : Nat)) q = V.int ((lev q : Nat) : Int) := if_neg nqr
          rw [v1] at a1
          refine s_put2 (v1 := .int ((lev q + 1 : Nat) : Int)) (v2 := z) (ea_cons (ev_is (ev_I0 a1 ev_c) ?_) (ea_cons (ev_var rfl) ea_nil)) rfl rfl rfl fun H6 e6 => ?_
          · show V.int (((lev q : Nat) : Int) + 1) = V.int ((lev q + 1 : Nat) : Int)
            rw [Int.natCast_succ]
          have e46 := e5.trans e6
          have w1 := dput_old (v := .int ((lev q + 1 : Nat) : Int)) (e46 _ _ d1) (hrow4.ex e46) mr l61
          have ff : ∀ (f : List Int → V) (u v : V), fset (fset f r u) r v = fset f r v := fun f u v => by
            funext x
            unfold fset
            by_cases e : x = r
            · rw [if_pos e, if_pos e]
            · rw [if_neg e, if_neg e, if_neg e]
          rw [ff] at w1
          have hrow6 := (hrow4.ex e46).upd (o' := .dT (dtab (R.take j ++ [r]) (fset (fun r => .int (lev r : Nat)) r (.int ((lev q + 1 : Nat) : Int))))) (e46 _ _ d1) (nt1 _ _)
          have w2 := dput_old (v := z) (H := upd H6 p1 (.dT (dtab (R.take j ++ [r]) (fset (fun r => .int (lev r : Nat)) r (.int ((lev q + 1 : Nat) : Int)))))) (p := p2) (by rw [upd_ne n12.symm]; exact e46 _ _ d2) hrow6 mr l61
          rw [ff] at w2
          refine ⟨_, _, w1, w2, ?_⟩
          have g2' : upd H6 p1 (HO.dT (dtab (R.take j ++ [r]) (fset (fun r => V.int (lev r : Nat)) r (V.int ((lev q + 1 : Nat) : Int))))) p2 = some (.dT (dtab (R.take j ++ [r]) (fset g r v))) := by rw [upd_ne n12.symm]; exact e46 _ _ d2
          have mv : ∀ {v : V} {q : List Int}, IsRow H' v q → IsRow (upd (upd H6 p1 (HO.dT (dtab (R.take j ++ [r]) (fset (fun r => V.int (lev r : Nat)) r (V.int ((lev q + 1 : Nat) : Int)))))) p2 (HO.dT (dtab (R.take j ++ [r]) (fset g r z)))) v q := fun h => ((h.ex e46).upd (e46 _ _ d1) (nt1 _ _)).upd (by rw [upd_ne n12.symm]; exact e46 _ _ d2) (nt1 (R.take j ++ [r]) (fset g r v))
          refine ⟨Ex.mut (Ex.mut (e4.trans e46) np1) np2B, ?_, fun i2 y2 h => ?_, fun q2 h => ?_, lev q + 1, some q, z, some z, rfl, ?_, upd_same, ?_, fun q2 h nq2 hA2 => ?_, .inr ⟨q, mqS, hA, rfl, rfl⟩⟩
          · rw [upd_ne nk2, upd_ne nk1]
            exact e46 _ _ k1
          · obtain ⟨q3, z1, z2⟩ := k2 i2 y2 h
            refine ⟨q3, z1, ((z2.ex e46).upd (e46 _ _ d1) (nt1 _ _)).upd g2' (nt1 _ _)⟩
          · exact AhV.upd (AhV.upd ((k3 q2 h).ex e46) (e46 _ _ d1) (nt1 _ _)) g2' (nt1 _ _)
          · rw [upd_ne n12, upd_same]
          · exact ((hqr.ex e46).upd (e46 _ _ d1) (nt1 _ _)).upd g2' (nt1 _ _)
          · rw [take_next hq] at h
            rcases List.mem_append.mp h with h | h
            · have := d4.lt q2 h nq2 hA2
              omega
            · rw [List.mem_singleton.mp h]
              exact Nat.lt_succ_self _
        · refine ⟨e4.trans e5, e5 _ _ k1, fun i2 y2 h => ?_, fun q2 h => (k3 q2 h).ex e5, c, o, v, some z, rfl, e5 _ _ d1, e5 _ _ d2, d3.ex e5, fun q2 h nq2 hA2 => ?_, d4.how⟩
          · obtain ⟨q3, z1, z2⟩ := k2 i2 y2 h
            exact ⟨q3, z1, z2.ex e5⟩
          · rw [take_next hq] at h
            rcases List.mem_append.mp h with h | h
            · exact d4.lt q2 h nq2 hA2
            · have e := List.mem_singleton.mp h
              subst e
              rw [hA2, Bool.true_and, nset_ne nq2] at hb
              have := of_decide_eq_false hb
              omega
      · rintro σ' H' ⟨e4, k1, k2, k3, c, o, v, vo', rfl, d1, d2, d3, d4⟩
        rw [lenk, List.take_length] at d4
        have inn : Inner Ls (R.take j) (R.take j) lev r c o := ⟨fun q hq nq ha => d4.lt q (List.mem_append_left _ hq) nq ha, d4.how⟩
        have L := h4.snoc nr (irr r) back inn
        refine ⟨e4, nset lev r c, nset ahd r o, fset g r v, some y, vo', rfl, ?_, ?_, ?_, by rw [eT]; exact L⟩
        · rw [d1, eT]
          refine congrArg (fun z => some (HO.dT z)) (dtab_congr fun q _ => ?_)
          unfold fset nset
          by_cases e : q = r
          · rw [if_pos e, if_pos e]
          · rw [if_neg e, if_neg e]
        · rw [d2, eT]
        · intro q hq
          rw [eT] at hq
          rcases List.mem_append.mp hq with hq | hq
          · have ne : q ≠ r := fun e => nr (e ▸ hq)
            show AhV H' (if q = r then v else g q) (if q = r then o else ahd q)
            rw [if_neg ne, if_neg ne]
            exact k3 q hq
          · have e := List.mem_singleton.mp hq
            show AhV H' (if q = r then v else g q) (if q = r then o else ahd q)
            rw [if_pos e, if_pos e]
            exact d3
    · rintro σ' H' ⟨e', lev, ahd, g, vr, vo, rfl, h1, h2, h3, h4⟩
      rw [hlen0, List.take_length] at h1 h2 h3 h4
      refine s_retU (eu_tup (ea_cons (ev_var rfl) (ea_cons (ev_var rfl) ea_nil)) (show 2 ≤ 100000 by decide)) fun t H2 ht e2 h => ?_
      exact k t H2 (eB.trans (e'.trans e2)) ⟨p1, p2, lev, ahd, g, h, e2 _ _ h1, e2 _ _ h2, fun r hr => (h3 r hr).ex e2, h4⟩
end
end Mv
/-! common_rows, common_levels. -/
namespace Mv
open PySem PySem.Spec PyProof.Rows L2 Evl
/-- each stands ahead of the next -/
def Chn (Ls : List (List (List Int))) : List (List Int) → Prop
  | [] => True
  | [_] => True
  | q :: r :: l => Ah Ls q r = true ∧ Chn Ls (r :: l)
def oLev (lev : List Int → Nat) : Option (List Int) → Nat
  | none => 0
  | some r => lev r + 1
structure IsCount (R : List (List Int)) (lev : List Int → Nat) (M : Nat) : Prop where
  lt : ∀ r ∈ R, lev r < M
  nil : R = [] → M = 0
  hit : R ≠ [] → ∃ r ∈ R, lev r + 1 = M
theorem Paired.append {α β : Type} {F : α → β → Prop} : ∀ {xs : List α} {ys : List β} {xs2 : List α} {ys2 : List β}, Paired F xs ys → Paired F xs2 ys2 → Paired F (xs ++ xs2) (ys ++ ys2)
  | _, _, _, _, .nil, q => q
  | _, _, _, _, .cons h t, q => .cons h (Paired.append t q)
theorem Paired.rev {α β : Type} {F : α → β → Prop} : ∀ {xs : List α} {ys : List β}, Paired F xs ys → Paired F xs.reverse ys.reverse
  | _, _, .nil => .nil
  | _, _, .cons h t => by
    rw [List.reverse_cons, List.reverse_cons]
    exact Paired.append (Paired.rev t) (.cons h .nil)
theorem Paired.filter {α β : Type} {F : α → β → Prop} {f : α → Bool} {g : β → Bool} : ∀ {xs : List α} {ys : List β}, Paired F xs ys → (∀ x ∈ xs, ∀ y, F x y → f x = g y) → Paired F (xs.filter f) (ys.filter g)
  | _, _, .nil, _ => .nil
  | x :: _, y :: _, .cons h t, e => by
    have ih := Paired.filter t fun a ha => e a (List.mem_cons_of_mem _ ha)
    have e1 := e x List.mem_cons_self y h
    cases hf : f x with
    | true =>
      rw [List.filter_cons, if_pos hf, List.filter_cons, if_pos (by rw [← e1]; exact hf)]
      exact .cons h ih
    | false =>
      rw [List.filter_cons, if_neg (by rw [hf]; decide), List.filter_cons, if_neg (by rw [← e1, hf]; decide)]
      exact ih
theorem map_int_inj : ∀ {r q : List Int}, r.map V.int = q.map V.int → r = q
  | [], [], _ => rfl
  | [], _ :: _, h => by cases h
  | _ :: _, [], h => by cases h
  | i :: r, j :: q, h => by
    rw [List.map_cons, List.map_cons, List.cons.injEq] at h
    have e := h.1
    cases e
    rw [map_int_inj h.2]
theorem IsRow.fn {H : Hp} {x : V} {r q : List Int} (h1 : IsRow H x r) (h2 : IsRow H x q) : r = q := by
  obtain ⟨b, rfl, hb⟩ := h1
  obtain ⟨c, e, hc⟩ := h2
  cases e
  rw [hb] at hc
  have z := Option.some.inj hc
  have z2 : r.map V.int = q.map V.int := by
    injection z
  exact map_int_inj z2
theorem IsRow.nn {H : Hp} {x : V} {r : List Int} (h : IsRow H x r) : x ≠ .non := by
  obtain ⟨b, rfl, _⟩ := h
  exact fun z => nomatch z
theorem AhV.non_iff {H : Hp} {v : V} {o : Option (List Int)} (h : AhV H v o) : decide (v = .non) = o.isNone := by
  cases o with
  | none => exact decide_eq_true h
  | some q => exact decide_eq_false (IsRow.nn h)
section
variable {K : PySem.W.Frag} {σ : L2.St} {H H' : Hp} {ta tb tc te tl tx : TE} {t u : TT} {x y z v : V} {D : Ends}
/-- while row is not None: found.append(row); row = ahead[row]; return found[::-1] -/
theorem chase {Ls : List (List (List Int))} {R : List (List Int)} {lev : List Int → Nat} {ahd : List Int → Option (List Int)} {g : List Int → V} {ia jf ir : Nat} {p2 fl : Addr} {B : Hp} {v0 : V} {o0 : Option (List Int)} {M : Nat}
    (L : LevOn Ls R lev ahd) (h60 : R.length ≤ 60) (h1 : σ[ia]? = some (some (.ref p2))) (h2 : σ[jf]? = some (some (.ref fl))) (h3 : σ[ir]? = some (some v0)) (n1 : ia ≠ ir) (n2 : jf ≠ ir) (eB : Ex B H) (nf : B fl = none) (hf : H fl = some (.lst [])) (hp2 : H p2 = some (.dT (dtab R g)))
    (hg : ∀ r ∈ R, AhV H (g r) (ahd r)) (hv : AhV H v0 o0) (ho : ∀ r, o0 = some r → r ∈ R) (hM : oLev lev o0 = M) (hM60 : M ≤ 1000)
    (k : ∀ p H2 ys ds, B p = none → Ex B H2 → H2 p = some (.lst ys) → Paired (IsRow H2) ys ds → Chn Ls ds → (∀ q ∈ ds, q ∈ R) → ds.length = M → D.rt (.ref p) H2) :
    tSeq (tWhile (tB (tNotN (tVar ir))) (tSeq (tDrop (tBM K "list" rAppend (tVar jf) (tCons (tVar ir) tNil))) (tAsg (tDGet (tVar ia) (tVar ir)) (gName ir)))) (tRet (tRevL K (tVar jf))) D σ H := by
  have hir : ir < σ.length := (List.getElem?_eq_some_iff.mp h3).1
  let W : Nat → L2.St → Hp → Prop := fun m σ' H' => Ex B H' ∧ H' p2 = some (.dT (dtab R g)) ∧ (∀ r ∈ R, AhV H' (g r) (ahd r)) ∧ ∃ (v : V) (o : Option (List Int)) (fs : List V) (ds : List (List Int)), σ' = σ.set ir (some v) ∧ AhV H' v o ∧ (∀ r, o = some r → r ∈ R) ∧ m = oLev lev o ∧
    H' fl = some (.lst fs) ∧ Paired (IsRow H') fs ds.reverse ∧ Chn Ls ds ∧ (∀ q ∈ ds, q ∈ R) ∧ ds.length + m = M ∧ (∀ r q l, o = some r → ds = q :: l → Ah Ls r q = true)
  have e0 : σ.set ir (some v0) = σ := by
    apply List.ext_getElem?
    intro i
    by_cases e : ir = i
    · subst e
      rw [List.getElem?_set_self hir, h3]
    · rw [List.getElem?_set_ne e]
  refine q_while W M ⟨eB, hp2, hg, v0, o0, [], [], e0.symm, hv, ho, hM.symm, hf, .nil, trivial, fun q hq => (by cases hq), Nat.zero_add _, fun r q l _ e => (by cases e)⟩ ?_
  rintro m σ' H' ⟨e', d2, dg, v, o, fs, ds, rfl, hv', ho', hm, hfs, hpr, hch, hmem, hlen, hlink⟩
  have gr : (σ.set ir (some v))[ir]? = some (some v) := List.getElem?_set_self hir
  have ga : (σ.set ir (some v))[ia]? = some (some (.ref p2)) := by rw [List.getElem?_set_ne (Ne.symm n1)]; exact h1
  have gf : (σ.set ir (some v))[jf]? = some (some (.ref fl)) := by rw [List.getElem?_set_ne (Ne.symm n2)]; exact h2
  refine ⟨!decide (v = .non), fun H1 e1 Q q => ⟨v, gr, _, rfl, q H1 (Ex.refl H1)⟩, fun hb H1 e1 => ?_, fun hb H1 e1 => ?_⟩
  · rw [AhV.non_iff hv'] at hb
    cases o with
    | none => cases hb
    | some r =>
      have hr : r ∈ R := ho' r rfl
      have hrow : IsRow H' v r := hv'
      have hm : m = lev r + 1 := hm
      refine ⟨fun σ2 H2 => ∃ m', m' < m ∧ W m' σ2 H2, fun _ _ h => h, ?_⟩
      refine q_app (e1 _ _ hfs) (ev_var gf) (ev_var gr) (by have a := Paired.length hpr; rw [List.length_reverse] at a; omega) fun H2 e2 => ?_
      have e12 := e1.trans e2
      have nt : ∀ xs', HO.lst fs ≠ .tup xs' := fun _ z => by cases z
      have mv : ∀ {x : V} {q : List Int}, IsRow H' x q → IsRow (upd H2 fl (.lst (fs ++ [v]))) x q := fun h => (h.ex e12).upd (e12 _ _ hfs) nt
      have mvA : ∀ {x : V} {o : Option (List Int)}, AhV H' x o → AhV (upd H2 fl (.lst (fs ++ [v]))) x o := fun h => AhV.upd (h.ex e12) (e12 _ _ hfs) nt
      have npf : p2 ≠ fl := fun z => by rw [z, hfs] at d2; cases d2
      have d2' : upd H2 fl (.lst (fs ++ [v])) p2 = some (.dT (dtab R g)) := by rw [upd_ne npf]; exact e12 _ _ d2
      refine s_asg (ev_dget (ev_var ga) (ev_var gr) d2' (mv hrow) hr) fun H3 e3 => ?_
      have hg' := mvA (dg r hr)
      have hlen' : ∀ m', (oLev lev (ahd r) = m') → m' = lev r := fun m' h => by
        rcases L.how r hr with ⟨z1, z2⟩ | ⟨q, _, _, z1, z2⟩
        · rw [z2] at h
          show m' = lev r
          rw [z1]; exact h.symm
        · rw [z2] at h
          rw [z1]; exact h.symm
      have hm' := hlen' _ rfl
      refine ⟨_, ?_, (Ex.mut (e'.trans e12) nf).trans e3, e3 _ _ d2', fun q hq => (mvA (dg q hq)).ex e3, g r, ahd r, fs ++ [v], r :: ds, ?_, hg'.ex e3, fun q hq => ?_, rfl, e3 _ _ upd_same, ?_, ?_, fun q hq => ?_, ?_, fun q q2 l hq he => ?_⟩
      · rw [hm', hm]; exact Nat.lt_succ_self _
      · rw [List.set_set]
      · rcases L.how r hr with ⟨_, z2⟩ | ⟨q', h1, _, _, z2⟩
        · rw [z2] at hq; cases hq
        · rw [z2] at hq; cases hq; exact h1
      · rw [List.reverse_cons]
        exact Paired.append (Paired.imp (fun _ _ h => (mv h).ex e3) hpr) (.cons ((mv hrow).ex e3) .nil)
      · cases ds with
        | nil => exact trivial
        | cons q l => exact ⟨hlink r q l rfl rfl, hch⟩
      · rcases List.mem_cons.mp hq with z | z
        · rw [z]; exact hr
        · exact hmem q z
      · rw [List.length_cons, hm']
        omega
      · cases he
        rcases L.how r hr with ⟨_, z2⟩ | ⟨q', _, h2, _, z2⟩
        · rw [z2] at hq; cases hq
        · rw [z2] at hq; cases hq; exact h2
  · rw [AhV.non_iff hv'] at hb
    cases o with
    | some r => cases hb
    | none =>
      have hm : m = 0 := hm
      refine ⟨_, gf, fl, fs, rfl, sq_of (e1 _ _ hfs), fun p hp => ?_⟩
      have eN : Ex H1 (upd H1 p (.lst fs.reverse)) := Ex.new hp
      refine k p _ fs.reverse ds (fresh_back (e'.trans e1) hp) ((e'.trans e1).trans eN) upd_same ?_ hch hmem (by omega)
      have z := Paired.rev hpr
      rw [List.reverse_reverse] at z
      exact Paired.imp (fun _ _ h => h.ex (e1.trans eN)) z
/-- the greatest value of a dict by rows -/
theorem ev_maxV {p : Addr} {R : List (List Int)} {lev : List Int → Nat} {m : Nat} (ha : Ev ta σ H (.ref p)) (hp : H p = some (.dT (dtab R fun r => .int (lev r : Nat)))) (hR : R ≠ []) (hm : ∃ r ∈ R, lev r = m) (hb : ∀ r ∈ R, lev r ≤ m) :
    Ev (tCB rMaxV (tCons (tBM0 K "dict" rValuesT ta) tNil)) σ H (.int (m : Int)) := fun H1 e Q q =>
  ha H1 e _ fun H2 e2 => ⟨.inr (.inr (.inl ⟨rfl, .inr ⟨_, (e.trans e2) _ _ hp⟩⟩)), p, _, rfl, rfl, (e.trans e2) _ _ hp, fun s hs => by
    have eN : Ex H2 (upd H2 s (valuesO s p)) := Ex.new hs
    refine ⟨s, p, _, R.map fun r => (lev r : Int), rfl, upd_same, eN _ _ ((e.trans e2) _ _ hp), ?_, fun z => hR (List.map_eq_nil_iff.mp z), fun mx hmx => ?_⟩
    · unfold dtab
      rw [List.map_map, List.map_map]
      rfl
    · obtain ⟨r0, h0, e0⟩ := hm
      obtain ⟨r1, h1, e1⟩ := List.mem_map.mp hmx.1
      have a1 := hmx.2 _ (List.mem_map_of_mem (f := fun r => (lev r : Int)) h0)
      have a2 := hb r1 h1
      have a1 : (lev r0 : Int) ≤ mx := a1
      have e1 : (lev r1 : Int) = mx := e1
      have em : mx = (m : Int) := by omega
      rw [em]
      exact q _ (e2.trans eN)⟩
theorem ev_maxVD {p : Addr} {R : List (List Int)} {lev : List Int → Nat} {M : Nat} (ha : Ev ta σ H (.ref p)) (hb : Ev tb σ H (.int (-1))) (hp : H p = some (.dT (dtab R fun r => .int (lev r : Nat)))) (hM : IsCount R lev M) :
    Ev (tCKw rMaxVD (tCons (tBM0 K "dict" rValuesT ta) tNil) (tCons tb tNil)) σ H (.int ((M : Int) - 1)) := fun H1 e Q q =>
  ha H1 e _ fun H2 e2 => ⟨.inr (.inr (.inl ⟨rfl, .inr ⟨_, (e.trans e2) _ _ hp⟩⟩)), p, _, rfl, rfl, (e.trans e2) _ _ hp, fun s hs => by
    have eN : Ex H2 (upd H2 s (valuesO s p)) := Ex.new hs
    refine hb _ ((e.trans e2).trans eN) _ fun H3 e3 => ?_
    refine ⟨s, p, _, R.map fun r => (lev r : Int), .int (-1), rfl, rfl, e3 _ _ upd_same, (eN.trans e3) _ _ ((e.trans e2) _ _ hp), ?_, fun z => ?_, fun mx hmx => ?_⟩
    · unfold dtab
      rw [List.map_map, List.map_map]
      rfl
    · rw [hM.nil (List.map_eq_nil_iff.mp z)] at q
      exact q _ ((e2.trans eN).trans e3)
    · obtain ⟨r1, h1, e1⟩ := List.mem_map.mp hmx.1
      obtain ⟨r0, h0, e0⟩ := hM.hit fun z => by rw [z] at h1; cases h1
      have a1 := hmx.2 _ (List.mem_map_of_mem (f := fun r => (lev r : Int)) h0)
      have a2 := hM.lt r1 h1
      have a1 : (lev r0 : Int) ≤ mx := a1
      have e1 : (lev r1 : Int) = mx := e1
      have em : mx = (M : Int) - 1 := by omega
      rw [em]
      exact q _ ((e2.trans eN).trans e3)⟩
theorem cutV_1 (xs : List V) : cutV xs none (some 1) = xs.take 1 := by
  unfold cutV
  show (xs.drop 0).take (HT.sIx xs.length xs.length (some ((1 : Nat) : Int)) - 0) = xs.take 1
  rw [HT.sIx_nat, List.drop_zero, Nat.sub_zero]
  cases xs with
  | nil => rfl
  | cons x l =>
    have : min 1 (x :: l).length = 1 := by rw [List.length_cons]; omega
    rw [this]
theorem el_slN {tl th : TO} {xs : List V} {lo hi : Option Int} (h : EvL te σ H xs) (h1 : EvO tl σ H lo) (h2 : EvO th σ H hi) : EvL (tSl (rSlL K) te tl th) σ H (cutV xs lo hi) := fun H1 e _ q =>
  h H1 e _ fun a H2 _ e2 hs => h1 H2 (e.trans e2) _ fun H3 e3 => h2 H3 ((e.trans e2).trans e3) _ fun H4 e4 =>
    ⟨a, xs, rfl, sq_of ((e3.trans e4) _ _ hs), fun p hp => q p _ (fresh_back ((e2.trans e3).trans e4) hp) (((e2.trans e3).trans e4).trans (Ex.new hp)) upd_same⟩
/-- xs != [] , xs == [] -/
theorem ev_neNil {a : Addr} {xs : List V} (ha : Ev ta σ H (.ref a)) (hx : SqL K H a xs) : Ev (tOp (rNilEq K true) ta (tLst tNil)) σ H (.bl (!xs.isEmpty)) := fun H1 e Q q =>
  ha H1 e _ fun H2 e2 => ⟨Nat.zero_le _, fun p hp => ⟨a, p, xs, rfl, rfl, ex_l ((e.trans e2).trans (Ex.new hp)) hx, sq_of upd_same, q _ (e2.trans (Ex.new hp))⟩⟩
theorem ev_eqNil {a : Addr} {xs : List V} (ha : Ev ta σ H (.ref a)) (hx : SqL K H a xs) : Ev (tOp (rNilEq K false) ta (tLst tNil)) σ H (.bl xs.isEmpty) := fun H1 e Q q =>
  ha H1 e _ fun H2 e2 => ⟨Nat.zero_le _, fun p hp => ⟨a, p, xs, rfl, rfl, ex_l ((e.trans e2).trans (Ex.new hp)) hx, sq_of upd_same, q _ (e2.trans (Ex.new hp))⟩⟩
theorem ev_neNilN {xs : List V} (ha : EvL ta σ H xs) : Ev (tOp (rNilEq K true) ta (tLst tNil)) σ H (.bl (!xs.isEmpty)) := fun H1 e Q q =>
  ha H1 e _ fun a H2 _ e2 hx => ⟨Nat.zero_le _, fun p hp => ⟨a, p, xs, rfl, rfl, sq_of ((Ex.new hp) _ _ hx), sq_of upd_same, q _ (e2.trans (Ex.new hp))⟩⟩
theorem ev_eqNilN {xs : List V} (ha : EvL ta σ H xs) : Ev (tOp (rNilEq K false) ta (tLst tNil)) σ H (.bl xs.isEmpty) := fun H1 e Q q =>
  ha H1 e _ fun a H2 _ e2 hx => ⟨Nat.zero_le _, fun p hp => ⟨a, p, xs, rfl, rfl, sq_of ((Ex.new hp) _ _ hx), sq_of upd_same, q _ (e2.trans (Ex.new hp))⟩⟩
theorem ev_ixL {p : Addr} {xs : List V} {i : Int} (ha : Ev ta σ H (.ref p)) (hb : Ev tb σ H (.int i)) (h : SqL K H p xs) (hi : atI xs i = some v) : Ev (tOp (rIxL K) ta tb) σ H v := ev_op ha hb (rv_ixL h hi)
end
open Classical in
/-- the filter by what a row is -/
noncomputable def byRow (H : Hp) (g : List Int → Bool) (x : V) : Bool := decide (∃ r, IsRow H x r ∧ g r = true)
open Classical in
theorem byRow_eq {H : Hp} {g : List Int → Bool} {x : V} {r : List Int} (h : IsRow H x r) : byRow H g x = g r := by
  unfold byRow
  cases e : g r with
  | true => exact decide_eq_true ⟨r, h, e⟩
  | false =>
    refine decide_eq_false fun ⟨q, hq, eq⟩ => ?_
    rw [← h.fn hq, e] at eq
    cases eq
theorem exists_count (R : List (List Int)) (lev : List Int → Nat) : ∃ M, IsCount R lev M := by
  induction R with
  | nil => exact ⟨0, ⟨fun r h => absurd h (by simp), fun _ => rfl, fun h => absurd rfl h⟩⟩
  | cons r R ih =>
    obtain ⟨M, hM⟩ := ih
    by_cases h : lev r + 1 ≤ M
    · refine ⟨M, ⟨fun q hq => ?_, fun z => absurd z (by simp), fun _ => ?_⟩⟩
      · rcases List.mem_cons.mp hq with z | z
        · rw [z]; exact h
        · exact hM.lt q z
      · have hne : R ≠ [] := fun z => by have := hM.nil z; omega
        obtain ⟨q, hq, e⟩ := hM.hit hne
        exact ⟨q, List.mem_cons_of_mem _ hq, e⟩
    · refine ⟨lev r + 1, ⟨fun q hq => ?_, fun z => absurd z (by simp), fun _ => ⟨r, List.mem_cons_self, rfl⟩⟩⟩
      rcases List.mem_cons.mp hq with z | z
      · rw [z]; exact Nat.lt_succ_self _
      · have := hM.lt q z; omega
theorem LevOn.bound {Ls : List (List (List Int))} {R : List (List Int)} {lev : List Int → Nat} {ahd : List Int → Option (List Int)} (L : LevOn Ls R lev ahd) {R0 : List (List Int)} (h0 : R0 ∈ Ls) : ∀ (k : Nat) (r : List Int), r ∈ R → R0.idxOf r = k → lev r ≤ k := by
  intro k
  induction k using Nat.strongRecOn with
  | ind k ih =>
    intro r hr e
    rcases L.how r hr with ⟨z, _⟩ | ⟨q, hq, h1, h2, _⟩
    · omega
    · have lt := Ah.lt h1 h0
      have := ih (R0.idxOf q) (by omega) q hq rfl
      omega
section
variable {P : Program} {w : World} {K : PySem.W.Frag} {mg : Str → Option Value} {base : Heap} {a : Nat → Addr} {d : Nat → FuncData} {tk : Nat → Tok}
theorem count_few {Ls : List (List (List Int))} {R : List (List Int)} {lev : List Int → Nat} {ahd : List Int → Option (List Int)} {M : Nat} (L : LevOn Ls R lev ahd) (hR : R ∈ Ls) (hM : IsCount R lev M) : M ≤ R.length := by
  rcases Classical.em (R = []) with z | z
  · rw [hM.nil z]; exact Nat.zero_le _
  · obtain ⟨r, hr, e⟩ := hM.hit z
    have a := L.bound hR (R.idxOf r) r hr rfl
    have b := List.idxOf_lt_length_iff.mpr hr
    omega
/-! common_rows -/
def RowsRes (Ls : List (List (List Int))) (R : List (List Int)) (p : Addr) (H2 : Hp) : Prop := ∃ (ys : List V) (ds : List (List Int)) (lev : List Int → Nat) (ahd : List Int → Option (List Int)) (M : Nat), H2 p = some (.lst ys) ∧ Paired (IsRow H2) ys ds ∧ Chn Ls ds ∧ (∀ q ∈ ds, q ∈ R) ∧ LevOn Ls R lev ahd ∧ IsCount R lev M ∧ ds.length = M
def sp_common_rows : Sp := fun vs H Q _ => ∃ (x : V) (Ls : List (List (List Int))) (R : List (List Int)) (n : Nat), vs = [x] ∧ Lss H x Ls ∧ OkLists n Ls ∧ Ls[0]? = some R ∧ ∀ p H2, H p = none → Ex H H2 → RowsRes Ls R p H2 → Q (.ref p) H2
theorem ok_common_rows (T : All K mg a d tk) : FnOk P w K mg base CX0 7 (a 13) (d 13) ["lists"] sp_common_rows := by
  refine T.F_common_rows.fn.ok sc_common_rows (fun vs H Q E h => ?_) (fun cdv A outer s H vs Q E hr h => ?_)
  · obtain ⟨x, Ls, R, n, rfl, _⟩ := h
    rfl
  · obtain ⟨x, Ls, R, n, rfl, hx, ho, hR, k⟩ := h
    have nd := sc_common_rows.nd
    have hu := hu_of hr
    have hu0 := hr.units0
    obtain ⟨p, xs, rfl, hs, hp⟩ := id hx
    have hRm : R ∈ Ls := List.mem_of_getElem? hR
    have oR : OkRows n R := ho.ok R hRm
    have hR60 := oR.few
    obtain ⟨x0, hx0, a0, xs0, rfl, hs0, hp0⟩ := Paired.at_r hp 0 R hR
    have hlen0 : xs0.length = R.length := Paired.length hp0
    refine ⟨_, (pss_cons (ps_expr (pe_call (ok_need_lists T) (hr.mono (by decide)) rfl T.F_need_lists.m T.F_need_lists.kp T.F_need_lists.b .nil pass0 (pa_cons (pv 0) pa_nil)))
 (pss_cons (ps_asg (pe_call (ok_levels_of T) (hr.mono (by decide)) rfl T.F_levels_of.m T.F_levels_of.kp T.F_levels_of.b .nil pass0 (pa_cons (pv 0) pa_nil)) (pg_tup rfl (pgs_cons (pg_name (i := 1) nd rfl (Or.inr rfl)) (pgs_cons (pg_name (i := 2) nd rfl (Or.inl rfl)) pgs_nil))) (hw := by rfl))
 (pss_cons (ps_set (i := 3) nd rfl (Or.inl rfl) (pe_slice sl_list (pe_lc (own := [("row", 5)]) (g := (gName 5)) rfl nd (pi_seq (pe_ix ix_seq (pv 0) pe_int (fun _ _ => rfl))) (blkOk_by (N := N_common_rows) (sc := defScope s_common_rows) (by decide +kernel)) (fun _ _ _ _ _ => (pg_name (i := 5) nd rfl (Or.inl rfl))) (fun _ _ _ _ _ => (pts_one (pt_cmpR op_eq (pe_dget hu (pv 1) (pv 5) (fun _ _ => rfl)) (pe_callB (cr_maxV rfl) (by rfl) T.n_max PyProof.Rows.boot_max (pa_cons (pe_bm0K (K := K) rfl PySem.F.plainAttrs_dict PySem.F.slot_dict_values PySem.F.type_dict_values mt_valuesT (pv 1)) pa_nil)) (nomark _)))) (fun _ _ _ _ _ => (pv 5))) po_none (po_some pe_int)))
 (pss_cons (ps_set (i := 4) nd rfl (Or.inl rfl) (pe_lst pa_nil))
 (pss_cons (ps_set (i := 5) nd rfl (Or.inl rfl) (pe_ifExp (pt_cmpR (op_neNil hu0) (pv 3) (pe_lst pa_nil) (nomark _)) (pe_ix ix_list (pv 3) pe_int (fun _ _ => rfl)) pe_non))
 (pss_cons (ps_while PassesOwn.never (pt_cmp (pc_notN (pv 5)))
 (pss_cons (ps_expr (pe_bm PySem.F.plainAttrs_list PySem.F.slot_list_append PySem.F.type_list_append mt_append (pv 4) (pa_cons (pv 5) pa_nil)))
 (pss_one (ps_set (i := 5) nd rfl (Or.inl rfl) (pe_dget hu (pv 2) (pv 5) (fun _ _ => rfl))))))
 (pss_one (ps_ret (pe_revL (pv 4)))))))))), ?_⟩
    refine q_drop (ev_call (ea_cons (ev_var rfl) ea_nil) (spv_need_lists hx ho)) fun H1 e1 => ?_
    refine ⟨_, rfl, .ref p, Ls, R, n, rfl, hx.ex e1, ho, hR, fun t H2 e2 ⟨p1, p2, lev, ahd, g, ht, hp1, hp2, hg, L⟩ => ?_⟩
    refine ⟨t, _, rfl, st_of ht, rfl, _, _, rfl, _, _, rfl, rfl, ?_⟩
    have e12 := e1.trans e2
    obtain ⟨M, hM⟩ := exists_count R lev
    have hMR := count_few L hRm hM
    have s0 : Seq H2 a0 xs0 := hs0.ex e12
    have hp02 : Paired (IsRow H2) xs0 R := Paired.imp (fun _ _ h => h.ex e12) hp0
    refine q_asgL (el_slN (el_lcS (byRow H2 fun r => decide (lev r + 1 = M)) (fun x => x) (ev_ixS (i := 0) (ev_var rfl) ev_c (hs.ex e12) (atI_nat hx0)) s0 (by omega) (fun _ => rfl) (fun y H3 e3 hy => ?_) fun y H3 e3 hy _ => ev_var rfl) eo_none (eo_some ev_c)) fun pL H3 hpL e3 hL => ?_
    · obtain ⟨r, hr, hrow⟩ := Paired.mem_l hp02 y hy
      obtain ⟨r1, h1, h2⟩ := hM.hit fun z => by rw [z] at hr; cases hr
      rw [byRow_eq hrow]
      have b1 := ev_dget (σ := (wipe [some (V.ref p), some (.ref p1), some (.ref p2), none, none, none] [5]).set 5 (some y)) (ta := tVar 1) (tb := tVar 5) (ev_var rfl) (ev_var rfl) (e3 _ _ hp1) (hrow.ex e3) hr
      have b2 := ev_maxV (K := K) (σ := (wipe [some (V.ref p), some (.ref p1), some (.ref p2), none, none, none] [5]).set 5 (some y)) (ta := tVar 1) (m := M - 1) (ev_var rfl) (e3 _ _ hp1) (fun z => by rw [z] at hr; cases hr) ⟨r1, h1, by omega⟩ (fun q hq => by have := hM.lt q hq; omega)
      refine et_is (et_test (ev_op b1 b2 (rv_eq rfl))) (decide_eq_decide.mpr ?_)
      have lM := hM.lt r1 h1
      constructor
      · intro z
        injection z with z
        omega
      · intro z
        congr 1
        omega
    rw [List.map_id', cutV_1] at hL
    have hF : Paired (IsRow H3) (xs0.filter (byRow H2 fun r => decide (lev r + 1 = M))) (R.filter fun r => decide (lev r + 1 = M)) := Paired.filter (Paired.imp (fun _ _ h => h.ex e3) hp02) fun y hy r h => by
      obtain ⟨r', hr', hrow⟩ := Paired.mem_l hp02 y hy
      rw [byRow_eq hrow, (hrow.ex e3).fn h]
    generalize hfx : xs0.filter (byRow H2 fun r => decide (lev r + 1 = M)) = fx at hL hF
    refine q_asgL (el_lst ea_nil (Nat.zero_le _)) fun fl H4 hfl e4 hf4 => ?_
    have eB : Ex H H3 := e12.trans e3
    have finish : ∀ (v0 : V) (o0 : Option (List Int)) H5, Ex H4 H5 → AhV H5 v0 o0 → (∀ r, o0 = some r → r ∈ R) → oLev lev o0 = M → tSeq (tWhile (tB (tNotN (tVar 5))) (tSeq (tDrop (tBM K "list" rAppend (tVar 4) (tCons (tVar 5) tNil))) (tAsg (tDGet (tVar 2) (tVar 5)) (gName 5)))) (tRet (tRevL K (tVar 4))) { nx := fun _ H' => Q .non H', rt := Q }
        [some (.ref p), some (.ref p1), some (.ref p2), some (.ref pL), some (.ref fl), some v0] H5 := fun v0 o0 H5 e5 hv ho' hm => by
      refine chase L hR60 rfl rfl rfl (by decide) (by decide) (e4.trans e5) hfl (e5 _ _ hf4) ((e3.trans (e4.trans e5)) _ _ hp2) (fun r hr => (hg r hr).ex (e3.trans (e4.trans e5))) hv ho' hm (by omega) fun pr H6 ys ds h1 h2 h3 h4 h5 h6 h7 => ?_
      exact k pr H6 (fresh_back eB h1) (eB.trans h2) ⟨ys, ds, lev, ahd, M, h3, h4, h5, h6, L, hM, h7⟩
    generalize hfr : R.filter (fun r => decide (lev r + 1 = M)) = fr at hF
    cases hF with
    | nil =>
      refine q_asg (v := .non) (ev_if (et_test (ev_neNil (ev_var rfl) (sq_of (e4 _ _ hL)))) (fun h => nomatch h) fun _ => ev_c) fun H5 e5 => ?_
      refine finish .non none H5 e5 rfl (fun r h => nomatch h) ?_
      rcases Classical.em (R = []) with z | z
      · exact (hM.nil z).symm
      · exfalso
        obtain ⟨r, hr, e⟩ := hM.hit z
        have : r ∈ R.filter fun r => decide (lev r + 1 = M) := List.mem_filter.mpr ⟨hr, decide_eq_true e⟩
        rw [hfr] at this
        cases this
    | cons h t =>
      rename_i y r fy fr
      have hr : r ∈ R.filter fun r => decide (lev r + 1 = M) := by rw [hfr]; exact List.mem_cons_self
      obtain ⟨hr1, hr2⟩ := List.mem_filter.mp hr
      have hr2 := of_decide_eq_true hr2
      have hL2 : H4 pL = some (.lst [y]) := e4 _ _ hL
      refine q_asg (v := y) (ev_if (et_test (ev_neNil (ev_var rfl) (sq_of hL2))) (fun _ => ev_ixL (i := 0) (ev_var rfl) ev_c (sq_of hL2) rfl) fun h => nomatch h) fun H5 e5 => ?_
      exact finish y (some r) H5 e5 (h.ex (e4.trans e5)) (fun q e => by cases e; exact hr1) hr2
/-! common_levels -/
def LevsRes (H : Hp) (Ls : List (List (List Int))) (R : List (List Int)) (p : Addr) (H2 : Hp) : Prop := ∃ (ys : List V) (lev : List Int → Nat) (ahd : List Int → Option (List Int)) (M : Nat), H2 p = some (.lst ys) ∧ ys.length = M ∧ LevOn Ls R lev ahd ∧ IsCount R lev M ∧
  ∀ (i : Nat) (y : V), ys[i]? = some y → ∃ q zs, y = .ref q ∧ H q = none ∧ H2 q = some (.lst zs) ∧ Paired (IsRow H2) zs (R.filter fun r => decide (lev r = i))
def sp_common_levels : Sp := fun vs H Q _ => ∃ (x : V) (Ls : List (List (List Int))) (R : List (List Int)) (n : Nat), vs = [x] ∧ Lss H x Ls ∧ OkLists n Ls ∧ Ls[0]? = some R ∧ ∀ p H2, H p = none → Ex H H2 → LevsRes H Ls R p H2 → Q (.ref p) H2
theorem ok_common_levels (T : All K mg a d tk) : FnOk P w K mg base CX0 7 (a 14) (d 14) ["lists"] sp_common_levels := by
  refine T.F_common_levels.fn.ok sc_common_levels (fun vs H Q E h => ?_) (fun cdv A outer s H vs Q E hr h => ?_)
  · obtain ⟨x, Ls, R, n, rfl, _⟩ := h
    rfl
  · obtain ⟨x, Ls, R, n, rfl, hx, ho, hR, k⟩ := h
    have nd := sc_common_levels.nd
    have hu := hu_of hr
    have hu0 := hr.units0
    obtain ⟨p, xs, rfl, hs, hp⟩ := id hx
    have hRm : R ∈ Ls := List.mem_of_getElem? hR
    have oR : OkRows n R := ho.ok R hRm
    have hR60 := oR.few
    obtain ⟨x0, hx0, a0, xs0, rfl, hs0, hp0⟩ := Paired.at_r hp 0 R hR
    have hlen0 : xs0.length = R.length := Paired.length hp0
    refine ⟨_, (pss_cons (ps_expr (pe_call (ok_need_lists T) (hr.mono (by decide)) rfl T.F_need_lists.m T.F_need_lists.kp T.F_need_lists.b .nil pass0 (pa_cons (pv 0) pa_nil)))
 (pss_cons (ps_asg (pe_call (ok_levels_of T) (hr.mono (by decide)) rfl T.F_levels_of.m T.F_levels_of.kp T.F_levels_of.b .nil pass0 (pa_cons (pv 0) pa_nil)) (pg_tup rfl (pgs_cons (pg_name (i := 1) nd rfl (Or.inr rfl)) (pgs_cons (pg_name (i := 2) nd rfl (Or.inl rfl)) pgs_nil))) (hw := by rfl))
 (pss_cons (ps_set (i := 3) nd rfl (Or.inl rfl) (pe_op op_add (pe_callBK (crk_maxV rfl) rfl T.n_max PyProof.Rows.boot_max (pa_cons (pe_bm0 PySem.F.plainAttrs_dict PySem.F.slot_dict_values PySem.F.type_dict_values mt_valuesT (pv 1)) pa_nil) (pk_cons (pe_un un_neg pe_int) pk_nil)) pe_int))
 (pss_one (ps_ret (pe_lc (own := [("level", 5)]) (g := (gName 5)) rfl nd (pi_range1 rfl T.n_range (pa_cons (pv 3) pa_nil)) (blkOk_by (N := N_common_levels) (sc := defScope s_common_levels) (by decide +kernel)) (fun _ _ _ _ _ => (pg_name (i := 5) nd rfl (Or.inr rfl))) (fun _ _ _ _ _ => pts_nil) (fun _ _ _ _ _ => (pe_lc (own := [("row", 4)]) (g := (gName 4)) rfl nd (pi_seqK (K := K) rfl (pe_ix (show IxR _ (rIx K) from ix_seq) (pv 0) pe_int (fun _ _ => rfl))) (blkOk_by (N := N_common_levels) (sc := relS _ (defScope s_common_levels)) (by decide +kernel)) (fun _ _ _ _ _ => (pg_name (i := 4) nd rfl (Or.inl rfl))) (fun _ _ _ _ _ => (pts_one (pt_cmpR op_eq (pe_dget hu (pv 1) (pv 4) (fun _ _ => rfl)) (pv 5) (nomark _)))) (fun _ _ _ _ _ => (pv 4)))))))))), ?_⟩
    refine q_drop (ev_call (ea_cons (ev_var rfl) ea_nil) (spv_need_lists hx ho)) fun H1 e1 => ?_
    refine ⟨_, rfl, .ref p, Ls, R, n, rfl, hx.ex e1, ho, hR, fun t H2 e2 ⟨p1, p2, lev, ahd, g, ht, hp1, hp2, hg, L⟩ => ?_⟩
    refine ⟨t, _, rfl, st_of ht, rfl, _, _, rfl, _, _, rfl, rfl, ?_⟩
    have e12 := e1.trans e2
    obtain ⟨M, hM⟩ := exists_count R lev
    have hMR := count_few L hRm hM
    have s0 : Seq H2 a0 xs0 := hs0.ex e12
    have hp02 : Paired (IsRow H2) xs0 R := Paired.imp (fun _ _ h => h.ex e12) hp0
    refine q_asg (v := .int (M : Int)) (ev_is (ev_I0 (ev_maxVD (ev_var rfl) (ev_un ev_c ru_neg) hp1 hM) ev_c) ?_) fun H3 e3 => ?_
    · congr 1
      omega
    refine ⟨_, rfl, (M : Int), rfl, by omega, by omega, fun Dl hD => ?_⟩
    have hMt : (M : Int).toNat = M := Int.toNat_natCast M
    rw [hMt]
    have e13 := e12.trans e3
    refine lc_fresh (n := M) (fun i => .int ((0 : Int) + (i : Int))) ((walk_range (lo := 0) (n := M)).mono (fun _ h => h) fun i _ _ _ _ _ ⟨z1, z2⟩ => ⟨z1, z2.symm⟩) hD (by omega) (fun _ _ => trivial) (fun _ => rfl)
      (fun i o => ∃ zs, o = .lst zs ∧ zs = xs0.filter (byRow H2 fun r => decide (lev r = i))) (fun i hi H' e' Q' q' => ?_) fun H' ys e' h1 h2 h3 => ?_
    · have e3' := e3.trans e'
      refine (el_lcS (K := K) (te := tVar 4) (byRow H2 fun r => decide (lev r = i)) (fun x => x) (ev_ixS (i := 0) (ev_var rfl) ev_c (hs.ex (e13.trans e')) (atI_nat hx0)) (s0.ex e3') (by omega) (fun _ => rfl) (fun y H4 e4 hy => ?_) fun y H4 e4 hy _ => ev_var rfl) H' (Ex.refl H') _ fun pz H4 hz e4 h4 => ?_
      · obtain ⟨r, hr, hrow⟩ := Paired.mem_l hp02 y hy
        rw [byRow_eq hrow]
        have b1 := ev_dget (σ := (wipe ((wipe [some (V.ref p), some (.ref p1), some (.ref p2), some (.int (M : Int)), none, none] [5]).set 5 (some (.int ((0 : Int) + (i : Int))))) [4]).set 4 (some y)) (ta := tVar 1) (tb := tVar 4) (ev_var rfl) (ev_var rfl) ((e3'.trans e4) _ _ hp1) (hrow.ex (e3'.trans e4)) hr
        refine et_is (et_test (ev_op b1 (ev_var rfl) (rv_eq rfl))) (decide_eq_decide.mpr ?_)
        constructor
        · intro z
          injection z with z
          omega
        · intro z
          congr 1
          omega
      · rw [List.map_id'] at h4
        exact q' pz H4 hz e4 ⟨_, h4, _, rfl, rfl⟩
    · refine k Dl H' (fresh_back e13 hD) (e13.trans e') ⟨ys, lev, ahd, M, h1, h2, L, hM, fun i y hy => ?_⟩
      obtain ⟨q, o, z1, z2, _, z4, zs, z5, z6⟩ := h3 i y hy
      refine ⟨q, zs, z1, fresh_back e13 z2, by rw [z4, z5], ?_⟩
      rw [z6]
      exact Paired.filter (Paired.imp (fun _ _ h => h.ex (e3.trans e')) hp02) fun y hy r h => by
        obtain ⟨r', hr', hrow⟩ := Paired.mem_l hp02 y hy
        rw [byRow_eq hrow, (hrow.ex (e3.trans e')).fn h]
end
end Mv
/-! piles_of, longest_of, stays. -/
namespace Mv
open PySem PySem.Spec PyProof.Rows L2 Evl
/-- the piles' tops behind the rows S -/
structure Pls (rs qs S tops : List (List Int)) (lev : List Int → Nat) (ahd : List Int → Option (List Int)) : Prop where
  mem : ∀ (k : Nat) (t : List Int), tops[k]? = some t → t ∈ S ∧ lev t = k
  bd : ∀ r ∈ S, ∃ t, tops[lev r]? = some t ∧ qs.idxOf t ≤ qs.idxOf r
  inc : ∀ (k k' : Nat) (t t' : List Int), k < k' → tops[k]? = some t → tops[k']? = some t' → qs.idxOf t < qs.idxOf t'
  L : LevOn [rs, qs] S lev ahd
theorem idxOf_inj {qs : List (List Int)} {r t : List Int} (hr : r ∈ qs) (ht : t ∈ qs) (e : qs.idxOf r = qs.idxOf t) : r = t := by
  have h1 := List.idxOf_lt_length_iff.mpr hr
  have h2 := List.idxOf_lt_length_iff.mpr ht
  have e1 : qs[qs.idxOf r] = r := List.getElem_idxOf h1
  have e2 : qs[qs.idxOf t] = t := List.getElem_idxOf h2
  rw [← e1, ← e2]
  congr 1
def newTops (tops : List (List Int)) (low : Nat) (r : List Int) : List (List Int) := if low = tops.length then tops ++ [r] else tops.set low r
theorem newTops_at {tops : List (List Int)} {low : Nat} {r : List Int} (h : low ≤ tops.length) (k : Nat) : (newTops tops low r)[k]? = if k = low then some r else tops[k]? := by
  unfold newTops
  by_cases e : low = tops.length
  · rw [if_pos e]
    subst e
    rcases Nat.lt_trichotomy k tops.length with z | z | z
    · rw [List.getElem?_append_left z, if_neg (by omega)]
    · subst z
      simp
    · rw [List.getElem?_eq_none (by rw [List.length_append, List.length_singleton]; omega), if_neg (by omega), List.getElem?_eq_none (by omega)]
  · rw [if_neg e]
    by_cases e2 : k = low
    · subst e2
      rw [if_pos rfl, List.getElem?_set_self (by omega)]
    · rw [if_neg e2, List.getElem?_set_ne (Ne.symm e2)]
def prevTop (tops : List (List Int)) (low : Nat) : Option (List Int) := if 0 < low then tops[low - 1]? else none
theorem Pls.step {rs qs S tops : List (List Int)} {lev : List Int → Nat} {ahd : List Int → Option (List Int)} (h : Pls rs qs S tops lev ahd) {r : List Int} {low : Nat} (hr : r ∉ S) (rq : r ∈ qs) (Sq : ∀ q ∈ S, q ∈ qs) (first : ∀ q ∈ S, rs.idxOf q < rs.idxOf r)
    (hl : low ≤ tops.length) (lo : ∀ (k : Nat) (t : List Int), k < low → tops[k]? = some t → qs.idxOf t < qs.idxOf r) (hi : ∀ (k : Nat) (t : List Int), low ≤ k → tops[k]? = some t → ¬ qs.idxOf t < qs.idxOf r) :
    Pls rs qs (S ++ [r]) (newTops tops low r) (nset lev r low) (nset ahd r (prevTop tops low)) := by
  have m : ∀ {q : List Int}, q ∈ S → q ≠ r := fun hq e => hr (e ▸ hq)
  have hi' : ∀ (k : Nat) (t : List Int), low ≤ k → tops[k]? = some t → qs.idxOf r < qs.idxOf t := fun k t h1 h2 => by
    have a := hi k t h1 h2
    have tS := (h.mem k t h2).1
    have b : qs.idxOf t ≠ qs.idxOf r := fun e => m tS (idxOf_inj (Sq t tS) rq e)
    omega
  have irr : Ah [rs, qs] r r = false := by
    cases z : Ah [rs, qs] r r with
    | false => rfl
    | true => exact absurd (Ah.lt z List.mem_cons_self) (Nat.lt_irrefl _)
  have back : ∀ q ∈ S, Ah [rs, qs] r q = false := fun q hq => by
    cases z : Ah [rs, qs] r q with
    | false => rfl
    | true =>
      have a := Ah.lt z List.mem_cons_self
      have b := first q hq
      omega
  refine ⟨fun k t ht => ?_, fun q hq => ?_, fun k k' t t' hk h1 h2 => ?_, h.L.snoc hr irr back ⟨fun q hq _ ha => ?_, ?_⟩⟩
  · rw [newTops_at hl] at ht
    by_cases e : k = low
    · rw [if_pos e] at ht
      cases ht
      exact ⟨List.mem_append_right _ List.mem_cons_self, by rw [nset_same, e]⟩
    · rw [if_neg e] at ht
      obtain ⟨a, b⟩ := h.mem k t ht
      exact ⟨List.mem_append_left _ a, by rw [nset_ne (m a)]; exact b⟩
  · rcases List.mem_append.mp hq with hq | hq
    · rw [nset_ne (m hq), newTops_at hl]
      obtain ⟨t, h1, h2⟩ := h.bd q hq
      by_cases e : lev q = low
      · rw [if_pos e]
        have := hi' (lev q) t (by omega) h1
        exact ⟨r, rfl, by omega⟩
      · rw [if_neg e]
        exact ⟨t, h1, h2⟩
    · rw [List.mem_singleton.mp hq, nset_same, newTops_at hl, if_pos rfl]
      exact ⟨r, rfl, Nat.le_refl _⟩
  · rw [newTops_at hl] at h1 h2
    by_cases e1 : k = low
    · rw [if_pos e1] at h1
      cases h1
      rw [if_neg (by omega)] at h2
      exact hi' k' t' (by omega) h2
    · rw [if_neg e1] at h1
      by_cases e2 : k' = low
      · rw [if_pos e2] at h2
        cases h2
        exact lo k t (by omega) h1
      · rw [if_neg e2] at h2
        exact h.inc k k' t t' hk h1 h2
  · obtain ⟨t, h1, h2⟩ := h.bd q hq
    have a := Ah.lt ha (List.mem_cons_of_mem _ List.mem_cons_self)
    refine Nat.lt_of_not_le fun z => ?_
    exact hi (lev q) t z h1 (by omega)
  · rcases Nat.eq_zero_or_pos low with z | z
    · refine .inl ⟨z, ?_⟩
      unfold prevTop
      rw [if_neg (by omega)]
    · have hlt : low - 1 < tops.length := by omega
      have g := List.getElem?_eq_getElem hlt
      obtain ⟨a, b⟩ := h.mem _ _ g
      refine .inr ⟨tops[low - 1], a, ?_, by rw [b]; omega, ?_⟩
      · have c := lo (low - 1) _ (by omega) g
        have d := first _ a
        unfold Ah
        rw [List.all_cons, List.all_cons, List.all_nil, decide_eq_true d, decide_eq_true c] <;> rfl
      · unfold prevTop
        rw [if_pos z]
        exact g
theorem Pls.count {rs qs tops : List (List Int)} {lev : List Int → Nat} {ahd : List Int → Option (List Int)} (h : Pls rs qs rs tops lev ahd) : IsCount rs lev tops.length := by
  refine ⟨fun r hr => ?_, fun z => ?_, fun z => ?_⟩
  · obtain ⟨t, h1, _⟩ := h.bd r hr
    exact (List.getElem?_eq_some_iff.mp h1).1
  · refine Nat.eq_zero_of_not_pos fun hp => ?_
    have := (h.mem 0 _ (List.getElem?_eq_getElem hp)).1
    rw [z] at this
    cases this
  · obtain ⟨r, hr⟩ := List.exists_mem_of_ne_nil rs z
    obtain ⟨t, h1, _⟩ := h.bd r hr
    have hp : 0 < tops.length := Nat.lt_of_le_of_lt (Nat.zero_le _) (List.getElem?_eq_some_iff.mp h1).1
    have hlt : tops.length - 1 < tops.length := by omega
    obtain ⟨a, b⟩ := h.mem _ _ (List.getElem?_eq_getElem hlt)
    exact ⟨_, a, by rw [b]; omega⟩
/-- a pile with this top, of at most n rows -/
def PileAt (n : Nat) (H : Hp) (b : Addr) (t : List Int) : Prop := ∃ zi zt, H b = some (.lst (zi ++ [zt])) ∧ IsRow H zt t ∧ zi.length < n
theorem PileAt.ex {n : Nat} {H H' : Hp} {b : Addr} {t : List Int} (h : PileAt n H b t) (e : Ex H H') : PileAt n H' b t := let ⟨zi, zt, h1, h2, h3⟩ := h; ⟨zi, zt, e _ _ h1, h2.ex e, h3⟩
section
variable {K : PySem.W.Frag} {σ : L2.St} {H H' : Hp} {ta tb tc te tl tx td ty tv : TE} {t u : TT} {x y z v : V} {D : Ends} {tz : TS}
theorem q_dput {p : Addr} (hv : Ev tv σ H v) (ho : Ev td σ H (.ref p)) (hi : Ev ty σ H x) (k : ∀ H3, Ex H H3 → ∃ H4, DPut H3 p x v H4 ∧ tz D σ H4) : tSeq (sDPut td ty tv) tz D σ H :=
  hv H (Ex.refl H) _ fun H1 e1 => ho H1 e1 _ fun H2 e2 => hi H2 (e1.trans e2) _ fun H3 e3 => by
    obtain ⟨H4, h1, h2⟩ := k H3 ((e1.trans e2).trans e3)
    exact ⟨p, H4, rfl, h1, h2⟩
theorem ev_par {i j : Nat} (ha : Ev ta σ H x) (hb : Ev tb σ H y) (k : ∀ H1, Ex H H1 → tz D ((σ.set i (some x)).set j (some y)) H1) : tSeq (tPar i j (tCons ta (tCons tb tNil))) tz D σ H :=
  (show EvA (tCons ta (tCons tb tNil)) σ H [x, y] from ea_cons ha (ea_cons hb ea_nil)) H (Ex.refl H) (fun vs H1 => ∃ v w, vs = [v, w] ∧ tz D ((σ.set i (some v)).set j (some w)) H1) fun H1 e1 => ⟨x, y, rfl, k H1 e1⟩
end
section
variable {P : Program} {w : World} {K : PySem.W.Frag} {mg : Str → Option Value} {base : Heap} {a : Nat → Addr} {d : Nat → FuncData} {tk : Nat → Tok}
def PilesRes (rs qs : List (List Int)) (t : Addr) (H2 : Hp) : Prop := ∃ (p1 p2 : Addr) (bs : List Addr) (tops : List (List Int)) (lev : List Int → Nat) (ahd : List Int → Option (List Int)) (g : List Int → V), H2 t = some (.tup [.ref p1, .ref p2]) ∧ H2 p1 = some (.lst (bs.map V.ref)) ∧ Paired (PileAt 100 H2) bs tops ∧
  H2 p2 = some (.dT (dtab rs g)) ∧ (∀ r ∈ rs, AhV H2 (g r) (ahd r)) ∧ Pls rs qs rs tops lev ahd
def sp_piles_of : Sp := fun vs H Q _ => ∃ (x y : V) (rs qs : List (List Int)) (n : Nat), vs = [x, y] ∧ Rws H x rs ∧ Rws H y qs ∧ OkRows n rs ∧ qs.Perm rs ∧ ∀ t H2, Ex H H2 → PilesRes rs qs t H2 → Q (.ref t) H2
theorem ok_piles_of (T : All K mg a d tk) : FnOk P w K mg base CX0 2 (a 8) (d 8) ["one", "other"] sp_piles_of := by
  refine T.F_piles_of.fn.ok sc_piles_of (fun vs H Q E h => ?_) (fun cdv A outer s H vs Q E hr h => ?_)
  · obtain ⟨x, y, rs, qs, n, rfl, _⟩ := h
    rfl
  · obtain ⟨x, y, rs, qs, n, rfl, hx, hy, ho, pm, k⟩ := h
    have nd := sc_piles_of.nd
    have hu := hu_of hr
    have oq := ho.perm pm
    have h60 := ho.few
    obtain ⟨a0, xs0, rfl, hs0, hp0⟩ := id hx
    have hlen0 : xs0.length = rs.length := Paired.length hp0
    refine ⟨_, (pss_cons (ps_set (i := 2) nd rfl (Or.inl rfl) (pe_call (ok_places_of T) (hr.mono (by decide)) rfl T.F_places_of.m T.F_places_of.kp T.F_places_of.b .nil pass0 (pa_cons (pv 1) pa_nil)))
 (pss_cons (ps_par (i := 3) (j := 4) rfl nd rfl rfl (by decide) rfl rfl (pa_cons (pe_lst pa_nil) (pa_cons pe_dnewT pa_nil)) (by rfl))
 (pss_cons (ps_for PassesOwn.never rfl (pi_seq (pv 0)) (pg_name (i := 5) nd rfl (Or.inl rfl))
 (pss_cons (ps_par (i := 6) (j := 7) rfl nd rfl rfl (by decide) rfl rfl (pa_cons pe_int (pa_cons (pe_callB call_len_seq (by rfl) T.n_len PySem.boot_len (pa_cons (pv 3) pa_nil)) pa_nil)) (by rfl))
 (pss_cons (ps_while PassesOwn.never (pt_cmpR op_lt (pv 6) (pv 7) (nomark _))
 (pss_cons (ps_set (i := 8) nd rfl (Or.inl rfl) (pe_op op_fdivW (pe_op op_add (pv 6) (pv 7)) pe_int))
 (pss_one (ps_if (pt_cmpR op_lt (pe_dget hu (pv 2) (pe_ix ix_list (pe_ix ix_list (pv 3) (pv 8) (fun _ _ => rfl)) (pe_un un_neg pe_int) (fun _ _ => rfl)) (fun _ _ => rfl)) (pe_dget hu (pv 2) (pv 5) (fun _ _ => rfl)) (nomark _))
 (pss_one (ps_set (i := 6) nd rfl (Or.inl rfl) (pe_op op_add (pv 8) pe_int)))
 (pss_one (ps_set (i := 7) nd rfl (Or.inl rfl) (pv 8)))))))
 (pss_cons (ps_dput hu (pv 4) (pv 5) (pe_ifExp (pt_cmpR op_gt (pv 6) pe_int (nomark _)) (pe_ix ix_list (pe_ix ix_list (pv 3) (pe_op op_sub (pv 6) pe_int) (fun _ _ => rfl)) (pe_un un_neg pe_int) (fun _ _ => rfl)) pe_non) rfl)
 (pss_cons (ps_if (pt_cmpR op_eq (pv 6) (pe_callB call_len_seq (by rfl) T.n_len PySem.boot_len (pa_cons (pv 3) pa_nil)) (nomark _))
 (pss_one (ps_expr (pe_bm PySem.F.plainAttrs_list PySem.F.slot_list_append PySem.F.type_list_append mt_append (pv 3) (pa_cons (pe_lst pa_nil) pa_nil))))
 pss_nil)
 (pss_one (ps_expr (pe_bm PySem.F.plainAttrs_list PySem.F.slot_list_append PySem.F.type_list_append mt_append (pe_ix ix_list (pv 3) (pv 6) (fun _ _ => rfl)) (pa_cons (pv 5) pa_nil)))))))))
 (pss_one (ps_ret (pe_tup (pa_cons (pv 3) (pa_cons (pv 4) pa_nil)))))))), ?_⟩
    refine ⟨_, rfl, y, qs, rfl, hy, oq.nd, oq.few, fun pd B npd eB hpd => ?_⟩
    refine ⟨Nat.zero_le _, fun p1 np1 p2 np2 => ⟨_, _, rfl, ?_⟩⟩
    have np2B : B p2 = none := by
      cases q : B p2 with
      | none => rfl
      | some o =>
        have z := (Ex.new (o := .lst []) np1) p2 o q
        rw [z] at np2
        cases np2
    have n12 : p1 ≠ p2 := fun z => by
      rw [← z, upd_same] at np2
      cases np2
    generalize hH1 : upd (upd B p1 (HO.lst [])) p2 (HO.dT []) = H1
    have eBH : Ex B H1 := by
      rw [← hH1]
      exact (Ex.new np1).trans (Ex.new np2)
    have hp1 : H1 p1 = some (.lst []) := by rw [← hH1, upd_ne n12, upd_same]
    have hp2 : H1 p2 = some (.dT []) := by rw [← hH1, upd_same]
    have s0B : Seq B a0 xs0 := hs0.ex eB
    have rowB : ∀ (j : Nat) (y : V), xs0[j]? = some y → ∃ r, rs[j]? = some r ∧ IsRow B y r := fun j y hy => by
      obtain ⟨r, h1, h2⟩ := Paired.at_l hp0 j y hy
      exact ⟨r, h1, h2.ex eB⟩
    have ix : ∀ {j : Nat} {r : List Int}, rs[j]? = some r → rs.idxOf r = j := fun h => idxOf_at ho.nd h
    let Ov : Nat → L2.St → Hp → Prop := fun j σ' H' => Ex B H' ∧ ∃ (bs : List Addr) (tops : List (List Int)) (lev : List Int → Nat) (ahd : List Int → Option (List Int)) (g : List Int → V) (v5 v6 v7 v8 : Option V), σ' = [some (.ref a0), some y, some (.ref pd), some (.ref p1), some (.ref p2), v5, v6, v7, v8] ∧
      H' p1 = some (.lst (bs.map V.ref)) ∧ H' p2 = some (.dT (dtab (rs.take j) g)) ∧ Paired (PileAt (j + 1) H') bs tops ∧ (∀ b ∈ bs, B b = none ∧ b ≠ p1) ∧ bs.Nodup ∧ (∀ r ∈ rs.take j, AhV H' (g r) (ahd r)) ∧ Pls rs qs (rs.take j) tops lev ahd
    refine q_forS (a := a0) (xs := xs0) (ev_var rfl) (s0B.ex eBH) Ov (fun H2 e2 => ⟨eBH.trans e2, [], [], fun _ => 0, fun _ => none, fun _ => .non, none, none, none, none, rfl, e2 _ _ hp1, e2 _ _ hp2, .nil, fun b hb => (by cases hb), List.nodup_nil, fun r hr => by simp at hr, ⟨fun k t h => by simp at h, fun r hr => by simp at hr, fun k k' t t' _ h => by simp at h, ⟨fun r hr => by simp at hr, fun r hr => by simp at hr⟩⟩⟩)
      (fun j σ' H' _ ⟨e', _⟩ => s0B.elim (fun z => (e' _ _ z).trans (eBH _ _ z).symm) fun z => (e' _ _ z).trans (eBH _ _ z).symm) ?_ ?_
    · rintro j yr σ' H' hyj ⟨e', bs, tops, lev, ahd, g, v5, v6, v7, v8, rfl, h1, h2, h3, h4, h5, h6, h7⟩
      obtain ⟨r, hr, hrow⟩ := rowB j yr hyj
      have hj : j < rs.length := (List.getElem?_eq_some_iff.mp hr).1
      have ej := ix hr
      have memT : ∀ q ∈ rs.take j, rs.idxOf q < j ∧ q ∈ rs := fun q hq => by
        obtain ⟨i, hi, ei⟩ := List.mem_iff_getElem.mp hq
        have hi2 : i < j := by rw [List.length_take] at hi; omega
        rw [List.getElem_take] at ei
        have g1 : rs[i]? = some q := by rw [← ei]; exact List.getElem?_eq_getElem _
        exact ⟨by rw [ix g1]; exact hi2, List.mem_of_getElem? g1⟩
      have nr : r ∉ rs.take j := fun h => by have := (memT r h).1; omega
      have eT : rs.take (j + 1) = rs.take j ++ [r] := take_next hr
      have rq : r ∈ qs := pm.mem_iff.mpr (List.mem_of_getElem? hr)
      have Sq : ∀ q ∈ rs.take j, q ∈ qs := fun q hq => pm.mem_iff.mpr (memT q hq).2
      have first : ∀ q ∈ rs.take j, rs.idxOf q < rs.idxOf r := fun q hq => by rw [ej]; exact (memT q hq).1
      have l60 : (rs.take j).length ≤ 100 := by rw [List.length_take]; omega
      have lbt : bs.length = tops.length := Paired.length h3
      have ltj : tops.length ≤ 60 := by
        rcases Nat.eq_zero_or_pos tops.length with z | z
        · omega
        · have g0 := List.getElem?_eq_getElem (l := tops) (i := tops.length - 1) (by omega)
          obtain ⟨m1, m2⟩ := h7.mem _ _ g0
          have b1 := h7.L.bound (R0 := rs) List.mem_cons_self _ _ m1 rfl
          have b2 := (memT _ m1).1
          omega
      refine ev_par (i := 6) (j := 7) ev_c (ev_lenS (ev_var rfl) (.inl h1)) fun H2 e2 => ?_
      have llen : ((bs.map V.ref).length : Int) = (tops.length : Int) := by rw [List.length_map, lbt]
      rw [llen]
      have topv : ∀ (σ2 : L2.St) (H5 : Hp) (te : TE) (k : Nat) (t : List Int), σ2[3]? = some (some (.ref p1)) → Ex H' H5 → Ev te σ2 H5 (.int (k : Int)) → tops[k]? = some t → ∃ z, IsRow H5 z t ∧ Ev (tOp (rIxL K) (tOp (rIxL K) (tVar 3) te) (tUn (rU fun i => .int (-i)) (tC (.int 1)))) σ2 H5 z := fun σ2 H5 te k t hσ e5 hk ht => by
        obtain ⟨b, hb, zi, zt, z1, z2, _⟩ := Paired.at_r h3 k t ht
        refine ⟨zt, z2.ex e5, ev_ixL (i := -1) (ev_ixL (i := (k : Int)) (ev_var hσ) hk (sq_of (e5 _ _ h1)) (atI_nat (by rw [List.getElem?_map, hb] <;> rfl))) (ev_un ev_c ru_neg) (sq_of (e5 _ _ z1)) (atI_last zi zt)⟩
      let W : Nat → L2.St → Hp → Prop := fun m σ' H5 => Ex H2 H5 ∧ ∃ (lo hi : Nat) (v8 : Option V), σ' = [some (.ref a0), some y, some (.ref pd), some (.ref p1), some (.ref p2), some yr, some (.int (lo : Int)), some (.int (hi : Int)), v8] ∧ m = hi - lo ∧ lo ≤ hi ∧ hi ≤ tops.length ∧
        (∀ (k : Nat) (t : List Int), k < lo → tops[k]? = some t → qs.idxOf t < qs.idxOf r) ∧ (∀ (k : Nat) (t : List Int), hi ≤ k → tops[k]? = some t → ¬ qs.idxOf t < qs.idxOf r)
      refine q_while W tops.length ⟨Ex.refl H2, 0, tops.length, v8, rfl, (Nat.sub_zero _).symm, Nat.zero_le _, Nat.le_refl _, fun k t h => absurd h (Nat.not_lt_zero _), fun k t h ht => by
        have := (List.getElem?_eq_some_iff.mp ht).1
        omega⟩ ?_
      rintro m σ' H5 ⟨e5, lo, hi, v8, rfl, hm, hlh, hht, hlo, hhi⟩
      refine ⟨decide ((lo : Int) < (hi : Int)), et_I0 (ev_var rfl) (ev_var rfl), fun hb H6 e6 => ?_, fun hb H6 e6 => ?_⟩
      · have hlt : lo < hi := by have := of_decide_eq_true hb; omega
        have em : ((lo : Int) + (hi : Int)) / 2 = (((lo + hi) / 2 : Nat) : Int) := by omega
        refine ⟨fun σ2 H2 => ∃ m', m' < m ∧ W m' σ2 H2, fun _ _ h => h, ?_⟩
        refine q_asg (v := .int (((lo + hi) / 2 : Nat) : Int)) (ev_is (ev_I (ev_I0 (ev_var rfl) (ev_var rfl)) ev_c (wide_div (b := 2) (by decide) (by decide) (by decide) (by decide))) (by rw [em])) fun H7 e7 => ?_
        have e27 := (e5.trans e6).trans e7
        have hmid : (lo + hi) / 2 < tops.length := by omega
        have gt := List.getElem?_eq_getElem hmid
        obtain ⟨z, zr, ze⟩ := topv [some (.ref a0), some y, some (.ref pd), some (.ref p1), some (.ref p2), some yr, some (.int (lo : Int)), some (.int (hi : Int)), some (.int (((lo + hi) / 2 : Nat) : Int))] H7 (tVar 8) _ _ rfl (e2.trans e27) (ev_var rfl) gt
        have tq : tops[(lo + hi) / 2] ∈ qs := Sq _ (h7.mem _ _ gt).1
        have hpd7 : H7 pd = some (.dT (dtab qs (plc qs))) := (e'.trans (e2.trans e27)) _ _ hpd
        have b1 := ev_dget (ta := tVar 2) (ev_var (σ := [some (.ref a0), some y, some (.ref pd), some (.ref p1), some (.ref p2), some yr, some (.int (lo : Int)), some (.int (hi : Int)), some (.int (((lo + hi) / 2 : Nat) : Int))]) (i := 2) rfl) ze hpd7 zr tq
        have b2 := ev_dget (ta := tVar 2) (tb := tVar 5) (ev_var (σ := [some (.ref a0), some y, some (.ref pd), some (.ref p1), some (.ref p2), some yr, some (.int (lo : Int)), some (.int (hi : Int)), some (.int (((lo + hi) / 2 : Nat) : Int))]) (i := 2) rfl) (ev_var rfl) hpd7 (hrow.ex (e'.trans (e2.trans e27))) rq
        refine s_if (et_I0 b1 b2) (fun hc H8 e8 => ?_) fun hc H8 e8 => ?_
        · have hc : qs.idxOf tops[(lo + hi) / 2] < qs.idxOf r := by have := of_decide_eq_true hc; omega
          refine s_asg (v := .int (((lo + hi) / 2 + 1 : Nat) : Int)) (ev_is (ev_I0 (ev_var rfl) ev_c) (by rw [Int.natCast_succ])) fun H9 e9 => ?_
          refine ⟨_, ?_, (e27.trans e8).trans e9, (lo + hi) / 2 + 1, hi, _, rfl, rfl, by omega, hht, fun k t hk ht => ?_, hhi⟩
          · omega
          · rcases Nat.lt_or_ge k ((lo + hi) / 2) with z | z
            · have := h7.inc k _ t _ z ht gt
              omega
            · have e : k = (lo + hi) / 2 := by omega
              subst e
              rw [gt] at ht
              cases ht
              exact hc
        · have hc : ¬ qs.idxOf tops[(lo + hi) / 2] < qs.idxOf r := by have := of_decide_eq_false hc; omega
          refine s_asg (v := .int (((lo + hi) / 2 : Nat) : Int)) (ev_var rfl) fun H9 e9 => ?_
          refine ⟨_, ?_, (e27.trans e8).trans e9, lo, (lo + hi) / 2, _, rfl, rfl, by omega, by omega, hlo, fun k t hk ht => ?_⟩
          · omega
          · rcases Nat.lt_or_ge ((lo + hi) / 2) k with z | z
            · have := h7.inc _ k _ t z gt ht
              omega
            · have e : k = (lo + hi) / 2 := by omega
              subst e
              rw [gt] at ht
              cases ht
              exact hc
      · have hle : lo = hi := by have := of_decide_eq_false hb; omega
        subst hle
        have e26 := e5.trans e6
        have e06 := e2.trans e26
        have prev : ∃ z, AhV H6 z (prevTop tops lo) ∧ Ev (tIf (tTest (tOp (rI0 fun i j => .bl (decide (j < i))) (tVar 6) (tC (.int 0)))) (tOp (rIxL K) (tOp (rIxL K) (tVar 3) (tOp (rI0 fun i j => .int (i - j)) (tVar 6) (tC (.int 1)))) (tUn (rU fun i => .int (-i)) (tC (.int 1)))) (tC .non))
            [some (.ref a0), some y, some (.ref pd), some (.ref p1), some (.ref p2), some yr, some (.int (lo : Int)), some (.int (lo : Int)), v8] H6 z := by
          rcases Nat.eq_zero_or_pos lo with z | z
          · refine ⟨.non, ?_, ev_if (et_I0 (ev_var rfl) ev_c) (fun h => ?_) fun _ => ev_c⟩
            · unfold prevTop
              rw [if_neg (by omega)]
              exact rfl
            · have := of_decide_eq_true h
              omega
          · have hlt : lo - 1 < tops.length := by omega
            obtain ⟨zv, zr, ze⟩ := topv [some (.ref a0), some y, some (.ref pd), some (.ref p1), some (.ref p2), some yr, some (.int (lo : Int)), some (.int (lo : Int)), v8] H6 (tOp (rI0 fun i j => .int (i - j)) (tVar 6) (tC (.int 1))) (lo - 1) _ rfl e06 (ev_is (ev_I0 (ev_var rfl) ev_c) (by congr 1; omega)) (List.getElem?_eq_getElem hlt)
            refine ⟨zv, ?_, ev_if (et_I0 (ev_var rfl) ev_c) (fun _ => ze) fun h => ?_⟩
            · unfold prevTop
              rw [if_pos z, List.getElem?_eq_getElem hlt]
              exact zr
            · have := of_decide_eq_false h
              omega
        obtain ⟨zv, zr, ze⟩ := prev
        refine q_dput ze (ev_var rfl) (ev_var rfl) fun H7 e7 => ?_
        have e07 := e06.trans e7
        have w1 := dput_new (v := zv) (e07 _ _ h2) ((hrow.ex e').ex e07) nr l60
        refine ⟨_, w1, ?_⟩
        generalize hH8 : upd H7 p2 (HO.dT (dtab (rs.take j ++ [r]) (fset g r zv))) = H8
        have ntd : ∀ (S : List (List Int)) (f : List Int → V) (xs : List V), HO.dT (dtab S f) ≠ .tup xs := fun _ _ _ z => by cases z
        have eB8 : Ex B H8 := by rw [← hH8]; exact Ex.mut (e'.trans e07) np2B
        have f1 : H8 p1 = some (.lst (bs.map V.ref)) := by rw [← hH8, upd_ne n12]; exact e07 _ _ h1
        have f2 : H8 p2 = some (.dT (dtab (rs.take j ++ [r]) (fset g r zv))) := by rw [← hH8, upd_same]
        have mvR : ∀ {v : V} {q : List Int}, IsRow H' v q → IsRow H8 v q := fun h => by
          rw [← hH8]
          exact (h.ex e07).upd (e07 _ _ h2) (ntd _ _)
        have mvA : ∀ {v : V} {o : Option (List Int)}, AhV H7 v o → AhV H8 v o := fun h => by
          rw [← hH8]
          exact AhV.upd h (e07 _ _ h2) (ntd _ _)
        have f3 : Paired (PileAt (j + 1) H8) bs tops := Paired.imp (fun b t ⟨zi, zt, z1, z2, z3⟩ => ⟨zi, zt, by rw [← hH8, upd_ne (fun z => by rw [z, h2] at z1; cases z1)]; exact e07 _ _ z1, mvR z2, z3⟩) h3
        have f6 : ∀ q ∈ rs.take (j + 1), AhV H8 (fset g r zv q) (nset ahd r (prevTop tops lo) q) := fun q hq => by
          rw [eT] at hq
          show AhV H8 (if q = r then zv else g q) (if q = r then prevTop tops lo else ahd q)
          rcases List.mem_append.mp hq with hq | hq
          · have ne : q ≠ r := fun e => nr (e ▸ hq)
            rw [if_neg ne, if_neg ne]
            exact mvA ((h6 q hq).ex e07)
          · have e := List.mem_singleton.mp hq
            rw [if_pos e, if_pos e]
            exact mvA (zr.ex e7)
        have P2 := h7.step nr rq Sq first hht hlo hhi
        rw [← eT] at P2 f2
        have last : ∀ (H9 : Hp) (bs2 : List Addr), Ex B H9 → H9 p1 = some (.lst (bs2.map V.ref)) → H9 p2 = some (.dT (dtab (rs.take (j + 1)) (fset g r zv))) → (∀ q ∈ rs.take (j + 1), AhV H9 (fset g r zv q) (nset ahd r (prevTop tops lo) q)) → IsRow H9 yr r → (∀ b ∈ bs2, B b = none ∧ b ≠ p1) → bs2.Nodup →
            bs2.length = (newTops tops lo r).length → (∀ (k : Nat) (b : Addr) (t : List Int), k ≠ lo → bs2[k]? = some b → tops[k]? = some t → PileAt (j + 1) H9 b t) → (∃ (b : Addr) (zs : List V), bs2[lo]? = some b ∧ H9 b = some (.lst zs) ∧ zs.length ≤ j + 1) →
            tDrop (tBM K "list" rAppend (tOp (rIxL K) (tVar 3) (tVar 6)) (tCons (tVar 5) tNil)) { nx := Ov (j + 1), rt := Q, bk := fun σ' H' => tRet (tTup (tCons (tVar 3) (tCons (tVar 4) tNil))) { nx := fun _ H' => Q .non H', rt := Q } σ' H', ct := Ov (j + 1) }
              [some (.ref a0), some y, some (.ref pd), some (.ref p1), some (.ref p2), some yr, some (.int (lo : Int)), some (.int (lo : Int)), v8] H9 := by
          intro H9 bs2 eB9 g1 g2 g6 gr g4 g5 g7 g3 ⟨b, zs, gb, gz, gl⟩
          have hb := g4 b (List.mem_of_getElem? gb)
          refine s_app gz (ev_ixL (i := (lo : Int)) (ev_var rfl) (ev_var rfl) (sq_of g1) (atI_nat (by rw [List.getElem?_map, gb] <;> rfl))) (ev_var rfl) (by omega) fun H10 e10 => ?_
          have ntl : ∀ xs', HO.lst zs ≠ .tup xs' := fun _ z => by cases z
          have nb2 : p2 ≠ b := fun z => by rw [z, gz] at g2; cases g2
          refine ⟨Ex.mut (eB9.trans e10) hb.1, bs2, newTops tops lo r, nset lev r lo, nset ahd r (prevTop tops lo), fset g r zv, _, _, _, _, rfl, ?_, ?_, ?_, g4, g5, fun q hq => ?_, P2⟩
          · rw [upd_ne (Ne.symm hb.2)]
            exact e10 _ _ g1
          · rw [upd_ne nb2]
            exact e10 _ _ g2
          · refine paired_of g7 fun k b' t hb' ht => ?_
            rw [newTops_at hht] at ht
            by_cases e : k = lo
            · rw [if_pos e] at ht
              cases ht
              rw [e, gb] at hb'
              cases hb'
              exact ⟨zs, yr, upd_same, (gr.ex e10).upd (e10 _ _ gz) ntl, by omega⟩
            · rw [if_neg e] at ht
              obtain ⟨zi, zt, z1, z2, z3⟩ := g3 k b' t e hb' ht
              have nbb : b' ≠ b := fun z => by
                rw [z] at hb'
                have i1 := (List.getElem?_eq_some_iff.mp hb')
                have i2 := (List.getElem?_eq_some_iff.mp gb)
                obtain ⟨p1', q1⟩ := i1
                obtain ⟨p2', q2⟩ := i2
                exact e ((List.getElem_inj g5).mp (q1.trans q2.symm))
              exact ⟨zi, zt, by rw [upd_ne nbb]; exact e10 _ _ z1, (z2.ex e10).upd (e10 _ _ gz) ntl, by omega⟩
          · exact AhV.upd ((g6 q hq).ex e10) (e10 _ _ gz) ntl
        have lnt : (newTops tops lo r).length = if lo = tops.length then tops.length + 1 else tops.length := by
          unfold newTops
          by_cases e : lo = tops.length
          · rw [if_pos e, if_pos e, List.length_append, List.length_singleton]
          · rw [if_neg e, if_neg e, List.length_set]
        have llen8 : ((bs.map V.ref).length : Int) = (tops.length : Int) := llen
        refine q_when (b := decide (V.int (lo : Int) = V.int ((bs.map V.ref).length : Int))) (et_test (ev_op (ev_var rfl) (ev_lenS (ev_var rfl) (.inl f1)) (rv_eq rfl))) (fun hb H9 e9 => ?_) fun hb H9 e9 => ?_
        · have elo : lo = tops.length := by
            have z := of_decide_eq_true hb
            injection z with z
            omega
          refine s_appL (ys := []) (e9 _ _ f1) (ev_var rfl) (el_lst ea_nil (Nat.zero_le _)) (by rw [List.length_map]; omega) fun nb H10 hnb e10 h10 => ?_
          have e810 := e9.trans e10
          have ntp : ∀ xs', HO.lst (bs.map V.ref) ≠ .tup xs' := fun _ z => by cases z
          have nb1 : nb ≠ p1 := fun z => by rw [z, e9 _ _ f1] at hnb; cases hnb
          have nbs : nb ∉ bs := fun hm => by
            obtain ⟨t, _, zi, zt, z1, _⟩ := Paired.mem_l f3 nb hm
            rw [e9 _ _ z1] at hnb
            cases hnb
          have em : bs.map V.ref ++ [V.ref nb] = (bs ++ [nb]).map V.ref := by rw [List.map_append] <;> rfl
          rw [em]
          have gA : upd H10 p1 (HO.lst ((bs ++ [nb]).map V.ref)) nb = some (.lst []) := by rw [upd_ne nb1]; exact h10
          refine last _ (bs ++ [nb]) (Ex.mut (eB8.trans e810) np1) upd_same (by rw [upd_ne n12.symm]; exact e810 _ _ f2) (fun q hq => AhV.upd ((f6 q hq).ex e810) (e810 _ _ f1) ntp) (((mvR (hrow.ex e')).ex e810).upd (e810 _ _ f1) ntp) (fun b hb => ?_) ?_ ?_ (fun k b t hk hb ht => ?_) ⟨nb, [], ?_, gA, Nat.zero_le _⟩
          · rcases List.mem_append.mp hb with hb | hb
            · exact h4 b hb
            · rw [List.mem_singleton.mp hb]
              exact ⟨fresh_back (eB8.trans e9) hnb, nb1⟩
          · rw [List.nodup_append]
            refine ⟨h5, List.nodup_cons.mpr ⟨by simp, List.nodup_nil⟩, fun x hx y hy e => ?_⟩
            rw [List.mem_singleton.mp hy] at e
            exact nbs (e ▸ hx)
          · rw [List.length_append, List.length_singleton, lnt, if_pos elo, lbt]
          · have hk2 : k < bs.length := by
              have := (List.getElem?_eq_some_iff.mp ht).1
              omega
            rw [List.getElem?_append_left hk2] at hb
            obtain ⟨t', ht', zi, zt, z1, z2, z3⟩ := Paired.at_l f3 k b hb
            rw [ht] at ht'
            cases ht'
            have nbp : b ≠ p1 := (h4 b (List.mem_of_getElem? hb)).2
            exact ⟨zi, zt, by rw [upd_ne nbp]; exact e810 _ _ z1, (z2.ex e810).upd (e810 _ _ f1) ntp, z3⟩
          · rw [List.getElem?_append_right (by omega)]
            have : lo - bs.length = 0 := by omega
            rw [this] <;> rfl
        · have elo : lo ≠ tops.length := fun z => by
            refine of_decide_eq_false hb ?_
            congr 1
            omega
          have hlt : lo < bs.length := by omega
          have gb := List.getElem?_eq_getElem hlt
          obtain ⟨t, ht, zi, zt, z1, z2, z3⟩ := Paired.at_l f3 lo _ gb
          refine last H9 bs (eB8.trans e9) (e9 _ _ f1) (e9 _ _ f2) (fun q hq => (f6 q hq).ex e9) ((mvR (hrow.ex e')).ex e9) h4 h5 (by rw [lnt, if_neg elo, lbt]) (fun k b t hk hb ht => ?_) ⟨_, _, gb, e9 _ _ z1, by rw [List.length_append, List.length_singleton]; omega⟩
          obtain ⟨t', ht', hz⟩ := Paired.at_l f3 k b hb
          rw [ht] at ht'
          cases ht'
          exact hz.ex e9
    · rintro σ' H' ⟨e', bs, tops, lev, ahd, g, v5, v6, v7, v8, rfl, h1, h2, h3, h4, h5, h6, h7⟩
      rw [hlen0] at h3
      rw [hlen0, List.take_length] at h2 h6 h7
      refine s_retU (eu_tup (ea_cons (ev_var rfl) (ea_cons (ev_var rfl) ea_nil)) (show 2 ≤ 100000 by decide)) fun t H2 ht e2 h => ?_
      exact k t H2 (eB.trans (e'.trans e2)) ⟨p1, p2, bs, tops, lev, ahd, g, h, e2 _ _ h1, Paired.imp (fun b t ⟨zi, zt, z1, z2, z3⟩ => ⟨zi, zt, e2 _ _ z1, z2.ex e2, by omega⟩) h3, e2 _ _ h2, fun r hr => (h6 r hr).ex e2, h7⟩
/-! longest_of -/
def LongRes (rs qs : List (List Int)) (p : Addr) (H2 : Hp) : Prop := ∃ (ys : List V) (lev : List Int → Nat) (ahd : List Int → Option (List Int)) (M : Nat), H2 p = some (.lst ys) ∧ ys.length = M ∧ LevOn [rs, qs] rs lev ahd ∧ IsCount rs lev M
def sp_longest_of : Sp := fun vs H Q _ => ∃ (x y : V) (rs qs : List (List Int)) (n : Nat), vs = [x, y] ∧ Rws H x rs ∧ Rws H y qs ∧ OkRows n rs ∧ qs.Perm rs ∧ ∀ p H2, Ex H H2 → LongRes rs qs p H2 → Q (.ref p) H2
theorem ok_longest_of (T : All K mg a d tk) : FnOk P w K mg base CX0 3 (a 9) (d 9) ["one", "other"] sp_longest_of := by
  refine T.F_longest_of.fn.ok sc_longest_of (fun vs H Q E h => ?_) (fun cdv A outer s H vs Q E hr h => ?_)
  · obtain ⟨x, y, rs, qs, n, rfl, _⟩ := h
    rfl
  · obtain ⟨x, y, rs, qs, n, rfl, hx, hy, ho, pm, k⟩ := h
    have nd := sc_longest_of.nd
    have hu := hu_of hr
    have hu0 := hr.units0
    have h60 := ho.few
    refine ⟨_, (pss_cons (ps_asg (pe_call (ok_piles_of T) (hr.mono (by decide)) rfl T.F_piles_of.m T.F_piles_of.kp T.F_piles_of.b .nil pass0 (pa_cons (pv 0) (pa_cons (pv 1) pa_nil))) (pg_tup rfl (pgs_cons (pg_name (i := 2) nd rfl (Or.inl rfl)) (pgs_cons (pg_name (i := 3) nd rfl (Or.inl rfl)) pgs_nil))) (hw := by rfl))
 (pss_cons (ps_set (i := 4) nd rfl (Or.inl rfl) (pe_lst pa_nil))
 (pss_cons (ps_set (i := 5) nd rfl (Or.inl rfl) (pe_ifExp (pt_cmpR (op_neNil hu0) (pv 2) (pe_lst pa_nil) (nomark _)) (pe_ix ix_list (pe_ix ix_list (pv 2) (pe_un un_neg pe_int) (fun _ _ => rfl)) (pe_un un_neg pe_int) (fun _ _ => rfl)) pe_non))
 (pss_cons (ps_while PassesOwn.never (pt_cmp (pc_notN (pv 5)))
 (pss_cons (ps_expr (pe_bm PySem.F.plainAttrs_list PySem.F.slot_list_append PySem.F.type_list_append mt_append (pv 4) (pa_cons (pv 5) pa_nil)))
 (pss_one (ps_set (i := 5) nd rfl (Or.inl rfl) (pe_dget hu (pv 3) (pv 5) (fun _ _ => rfl))))))
 (pss_one (ps_ret (pe_revL (pv 4)))))))), ?_⟩
    refine ⟨_, rfl, _, rfl, x, y, rs, qs, n, rfl, hx, hy, ho, pm, fun t H2 e2 ⟨p1, p2, bs, tops, lev, ahd, g, ht, hp1, hb, hp2, hg, hP⟩ => ?_⟩
    refine ⟨t, _, rfl, st_of ht, rfl, _, _, rfl, _, _, rfl, rfl, ?_⟩
    have hM := hP.count
    have hMR := count_few hP.L List.mem_cons_self hM
    have lbt : bs.length = tops.length := Paired.length hb
    refine q_asgL (el_lst ea_nil (Nat.zero_le _)) fun fl H4 hfl e4 hf4 => ?_
    have finish : ∀ (v0 : V) (o0 : Option (List Int)) H5, Ex H4 H5 → AhV H5 v0 o0 → (∀ r, o0 = some r → r ∈ rs) → oLev lev o0 = tops.length → tSeq (tWhile (tB (tNotN (tVar 5))) (tSeq (tDrop (tBM K "list" rAppend (tVar 4) (tCons (tVar 5) tNil))) (tAsg (tDGet (tVar 3) (tVar 5)) (gName 5)))) (tRet (tRevL K (tVar 4))) { nx := fun _ H' => Q .non H', rt := Q }
        [some x, some y, some (.ref p1), some (.ref p2), some (.ref fl), some v0] H5 := fun v0 o0 H5 e5 hv ho' hm => by
      refine chase hP.L h60 rfl rfl rfl (by decide) (by decide) (e4.trans e5) hfl (e5 _ _ hf4) ((e4.trans e5) _ _ hp2) (fun r hr => (hg r hr).ex (e4.trans e5)) hv ho' hm (by omega) fun pr H6 ys ds h1 h2 h3 h4 h5 h6 h7 => ?_
      exact k pr H6 (e2.trans h2) ⟨ys, lev, ahd, tops.length, h3, by rw [← h7]; exact Paired.length h4, hP.L, hM⟩
    rcases Nat.eq_zero_or_pos tops.length with z | z
    · have hb0 : bs.map V.ref = [] := by
        have : bs = [] := List.eq_nil_of_length_eq_zero (by omega)
        rw [this] <;> rfl
      rw [hb0] at hp1
      refine q_asg (v := .non) (ev_if (et_test (ev_neNil (ev_var rfl) (sq_of (e4 _ _ hp1)))) (fun h => nomatch h) fun _ => ev_c) fun H5 e5 => ?_
      exact finish .non none H5 e5 rfl (fun r h => nomatch h) z.symm
    · have hlt : tops.length - 1 < tops.length := by omega
      have gt := List.getElem?_eq_getElem hlt
      obtain ⟨m1, m2⟩ := hP.mem _ _ gt
      obtain ⟨b, gb, zi, zt, z1, z2, _⟩ := Paired.at_r hb _ _ gt
      have lb : atI (bs.map V.ref) (-1) = some (V.ref b) := by
        have hne : bs ≠ [] := fun e => by rw [e] at lbt; simp at lbt; omega
        obtain ⟨bi, bl, rfl⟩ : ∃ bi bl, bs = bi ++ [bl] := ⟨bs.dropLast, bs.getLast hne, (List.dropLast_concat_getLast hne).symm⟩
        have e : bl = b := by
          rw [List.length_append, List.length_singleton] at lbt
          rw [List.getElem?_append_right (by omega)] at gb
          have : tops.length - 1 - bi.length = 0 := by omega
          rw [this] at gb
          exact Option.some.inj gb
        rw [List.map_append]
        subst e
        exact atI_last (bi.map V.ref) (V.ref bl)
      have hne : (!(bs.map V.ref).isEmpty) = true := by
        cases bs with
        | nil => simp at lbt; omega
        | cons b l => rfl
      refine q_asg (v := zt) (ev_if (et_test (b := true) (ev_is (ev_neNil (ev_var rfl) (sq_of (e4 _ _ hp1))) (by rw [hne]))) (fun _ => ev_ixL (i := -1) (ev_ixL (i := -1) (ev_var rfl) (ev_un ev_c ru_neg) (sq_of (e4 _ _ hp1)) lb) (ev_un ev_c ru_neg) (sq_of (e4 _ _ z1)) (atI_last zi zt)) fun h => nomatch h) fun H5 e5 => ?_
      exact finish zt (some _) H5 e5 (z2.ex (e4.trans e5)) (fun q e => by cases e; exact m1) (by show lev _ + 1 = _; rw [m2]; omega)
/-! stays -/
theorem ok_stays (T : All K mg a d tk) : FnOk P w K mg base CX0 7 (a 10) (d 10) ["one", "other"] sp_longest_of := by
  refine T.F_stays.fn.ok sc_stays (fun vs H Q E h => ?_) (fun cdv A outer s H vs Q E hr h => ?_)
  · obtain ⟨x, y, rs, qs, n, rfl, _⟩ := h
    rfl
  · obtain ⟨x, y, rs, qs, n, rfl, hx, hy, ho, pm, k⟩ := h
    have nd := sc_stays.nd
    refine ⟨_, (pss_cons (ps_expr (pe_call (ok_need_pair T) (hr.mono (by decide)) rfl T.F_need_pair.m T.F_need_pair.kp T.F_need_pair.b .nil pass0 (pa_cons (pv 0) (pa_cons (pv 1) pa_nil))))
 (pss_one (ps_ret (pe_call (ok_longest_of T) (hr.mono (by decide)) rfl T.F_longest_of.m T.F_longest_of.kp T.F_longest_of.b .nil pass0 (pa_cons (pv 0) (pa_cons (pv 1) pa_nil)))))), ?_⟩
    refine q_drop (ev_call (ea_cons (ev_var rfl) (ea_cons (ev_var rfl) ea_nil)) (spv_need_pair hx hy ho pm)) fun H1 e1 => ?_
    exact ⟨_, rfl, _, rfl, x, y, rs, qs, n, rfl, hx.ex e1, hy.ex e1, ho, pm, fun p H2 e2 h => k p H2 (e1.trans e2) h⟩
end
end Mv
/-! The law's own places, its table. -/
namespace Mv
open PySem PySem.Spec PyProof.Rows L2 Evl
/-- a list (no tuple) of rows; a list of these -/
def LRw (H : Hp) (x : V) (rs : List (List Int)) : Prop := ∃ b ys, x = .ref b ∧ H b = some (.lst ys) ∧ Paired (IsRow H) ys rs
def LLs (H : Hp) (x : V) (Ls : List (List (List Int))) : Prop := ∃ b ys, x = .ref b ∧ H b = some (.lst ys) ∧ Paired (LRw H) ys Ls
theorem LRw.ex {H H' : Hp} {x : V} {rs : List (List Int)} (h : LRw H x rs) (e : Ex H H') : LRw H' x rs := let ⟨b, ys, h1, h2, h3⟩ := h; ⟨b, ys, h1, e _ _ h2, Paired.imp (fun _ _ z => z.ex e) h3⟩
theorem LLs.ex {H H' : Hp} {x : V} {Ls : List (List (List Int))} (h : LLs H x Ls) (e : Ex H H') : LLs H' x Ls := let ⟨b, ys, h1, h2, h3⟩ := h; ⟨b, ys, h1, e _ _ h2, Paired.imp (fun _ _ z => LRw.ex z e) h3⟩
theorem LRw.rws {H : Hp} {x : V} {rs : List (List Int)} (h : LRw H x rs) : Rws H x rs := let ⟨b, ys, h1, h2, h3⟩ := h; ⟨b, ys, h1, .inl h2, h3⟩
theorem LLs.lss {H : Hp} {x : V} {Ls : List (List (List Int))} (h : LLs H x Ls) : Lss H x Ls := let ⟨b, ys, h1, h2, h3⟩ := h; ⟨b, ys, h1, .inl h2, Paired.imp (fun _ _ z => LRw.rws z) h3⟩
def posL (Ls : List (List (List Int))) (r : List Int) : List V := Ls.map fun L => .int (L.idxOf r : Nat)
/-- the law's places -/
def PosAt (H : Hp) (p : Addr) (Ls : List (List (List Int))) (R : List (List Int)) : Prop := ∃ g : List Int → V, H p = some (.dT (dtab R g)) ∧ ∀ r ∈ R, ∃ b, g r = .ref b ∧ H b = some (.lst (posL Ls r))
theorem PosAt.ex {H H' : Hp} {p : Addr} {Ls : List (List (List Int))} {R : List (List Int)} (h : PosAt H p Ls R) (e : Ex H H') : PosAt H' p Ls R := let ⟨g, h1, h2⟩ := h; ⟨g, e _ _ h1, fun r hr => let ⟨b, h3, h4⟩ := h2 r hr; ⟨b, h3, e _ _ h4⟩⟩
theorem yes_go {σ : L2.St} {H : Hp} {F G : Hp → Prop} (h : F H) : tYes σ H fun b H3 => if b = true then F H3 else G H3 := by
  show (if true = true then F H else G H)
  rw [if_pos rfl]
  exact h
theorem dtab_fold {f : List Int → V} : ∀ (R S : List (List Int)), (S ++ R).Nodup → (R.map fun r => (ky r, f r)).foldl (fun acc p => putK acc p.1 p.2) (dtab S f) = dtab (S ++ R) f
  | [], S, _ => by rw [List.append_nil] <;> rfl
  | r :: R, S, h => by
    have hr : r ∉ S := fun hm => by
      rw [List.nodup_append] at h
      exact h.2.2 r hm r List.mem_cons_self rfl
    rw [List.map_cons, List.foldl_cons, dtab_put_new hr]
    have e : dtab (S ++ [r]) (fset f r (f r)) = dtab (S ++ [r]) f := dtab_congr fun q _ => by
      unfold fset
      by_cases e : q = r
      · rw [if_pos e, e]
      · rw [if_neg e]
    show List.foldl _ (dtab (S ++ [r]) (fset f r (f r))) _ = _
    rw [e, dtab_fold R (S ++ [r]) (by rw [List.append_assoc]; exact h), List.append_assoc] <;> rfl
section
variable {P : Program} {w : World} {K : PySem.W.Frag} {mg : Str → Option Value} {base : Heap} {a : Nat → Addr} {d : Nat → FuncData} {tk : Nat → Tok}
/-! _law_places -/
def sp__law_places : Sp := fun vs H Q _ => ∃ (x : V) (Ls : List (List (List Int))) (R : List (List Int)) (n : Nat), vs = [x] ∧ LLs H x Ls ∧ OkLists n Ls ∧ Ls[0]? = some R ∧ ∀ p H2, H p = none → Ex H H2 → PosAt H2 p Ls R → Q (.ref p) H2
theorem ok__law_places (T : All K mg a d tk) : FnOk P w K mg base CX0 1 (a 21) (d 21) ["many"] sp__law_places := by
  refine T.F__law_places.fn.ok sc__law_places (fun vs H Q E h => ?_) (fun cdv A outer s H vs Q E hr h => ?_)
  · obtain ⟨x, Ls, R, n, rfl, _⟩ := h
    rfl
  · obtain ⟨x, Ls, R, n, rfl, hx, ho, hR, k⟩ := h
    have nd := sc__law_places.nd
    have hu := hu_of hr
    have hu64 := hr.units
    have hRm : R ∈ Ls := List.mem_of_getElem? hR
    have oR : OkRows n R := ho.ok R hRm
    have hR60 := oR.few
    obtain ⟨p, xs, rfl, hs, hp⟩ := id hx
    have hlen : xs.length = Ls.length := Paired.length hp
    obtain ⟨x0, hx0, a0, xs0, rfl, hs0, hp0⟩ := Paired.at_r hp 0 R hR
    have hlen0 : xs0.length = R.length := Paired.length hp0
    refine ⟨_, (pss_cons (ps_set (i := 1) nd rfl (Or.inl rfl) (pe_callTy (cr_dictPT rfl hu64) rfl T.n_dict PyProof.Rows.boot_dict (pa_cons (pe_lc (own := [("row", 4)]) (g := (gName 4)) rfl nd (pi_list (pe_ix ix_list (pv 0) pe_int (fun _ _ => rfl))) (blkOk_by (N := N__law_places) (sc := defScope s__law_places) (by decide +kernel)) (fun _ _ _ _ _ => (pg_name (i := 4) nd rfl (Or.inl rfl))) (fun _ _ _ _ _ => pts_nil) (fun _ _ _ _ _ => (pe_tup (pa_cons (pv 4) (pa_cons (pe_lst pa_nil) pa_nil))))) pa_nil)))
 (pss_cons (ps_for PassesOwn.never rfl (pi_list (pv 0)) (pg_name (i := 2) nd rfl (Or.inl rfl))
 (pss_one (ps_for PassesOwn.never rfl (pi_enum rfl T.n_enumerate (pa_cons (pv 2) pa_nil)) (pg_tup rfl (pgs_cons (pg_name (i := 3) nd rfl (Or.inl rfl)) (pgs_cons (pg_name (i := 4) nd rfl (Or.inl rfl)) pgs_nil)))
 (pss_one (ps_expr (pe_bm PySem.F.plainAttrs_list PySem.F.slot_list_append PySem.F.type_list_append mt_append (pe_dget hu (pv 1) (pv 4) (fun _ _ => rfl)) (pa_cons (pv 3) pa_nil)))))))
 (pss_one (ps_ret (pv 1))))), ?_⟩
    refine ⟨_, rfl, p, xs, 0, _, rfl, rfl, sq_of hs, atI_nat (j := 0) hx0, ?_⟩
    refine ⟨a0, rfl, ⟨xs0, sq_of hs0⟩, fun Dl hD => ?_⟩
    refine lc_it (walk_list (K := K) (a := a0) (xs := xs0)) (fun i H' => Ex H H' ∧ ∃ qs : List (Addr × Addr), H' Dl = some (.lst (qs.map fun q => V.ref q.1)) ∧ qs.length = i ∧ (qs.map (·.2)).Nodup ∧
        ∀ (k : Nat) (q : Addr × Addr), qs[k]? = some q → H' q.1 = some (.tup [xs0.getD k .non, .ref q.2]) ∧ H' q.2 = some (.lst []) ∧ H q.2 = none ∧ q.2 ≠ Dl ∧ q.1 ≠ Dl)
      ⟨Ex.new hD, [], upd_same, rfl, List.nodup_nil, fun k q h => by simp at h⟩ (fun i H' _ p => sq_of (p.1 _ _ hs0)) ?_ ?_
    · rintro i y H' H'' hi ⟨e', qs, h1, h2, h3, h4⟩ ⟨rfl, hy⟩
      refine ⟨rfl, ?_⟩
      refine yes_go ?_
      refine ⟨_, rfl, Nat.zero_le _, fun e he => ⟨sz_of (show 2 ≤ 100000 by decide), fun t ht => ?_⟩⟩
      have hte : H'' e = none := he
      have ee : Ex H'' (upd H'' e (.lst [])) := Ex.new he
      have et : Ex (upd H'' e (.lst [])) (upd (upd H'' e (.lst [])) t (.tup [y, .ref e])) := Ex.new ht
      have eet := ee.trans et
      have neD : e ≠ Dl := fun z => by rw [z, h1] at he; cases he
      have ntD : t ≠ Dl := fun z => by rw [z, ee _ _ h1] at ht; cases ht
      have net : e ≠ t := fun z => by rw [← z, upd_same] at ht; cases ht
      have eg : xs0.getD i .non = y := by rw [List.getD_eq_getElem?_getD, hy] <;> rfl
      refine ⟨_, eet _ _ h1, Nat.lt_of_le_of_lt (by rw [List.length_map, h2]; omega) (show 1000 < sizeLine by decide), Ex.mut (e'.trans eet) hD, qs ++ [(t, e)], ?_, by rw [List.length_append, h2] <;> rfl, ?_, fun k q hk => ?_⟩
      · rw [upd_same, List.map_append] <;> rfl
      · rw [List.map_append, List.nodup_append]
        refine ⟨h3, List.nodup_cons.mpr ⟨by simp, List.nodup_nil⟩, fun z hz u hu' e3 => ?_⟩
        have e4 : u = e := List.mem_singleton.mp hu'
        obtain ⟨q, hq, e5⟩ := List.mem_map.mp hz
        obtain ⟨j, hj, ej⟩ := List.mem_iff_getElem.mp hq
        obtain ⟨_, g2, _⟩ := h4 j q (by rw [List.getElem?_eq_getElem hj, ej])
        rw [e5, e3, e4, he] at g2
        cases g2
      · rcases Nat.lt_or_ge k qs.length with hlt | hge
        · rw [List.getElem?_append_left hlt] at hk
          obtain ⟨g1, g2, g3, g4, g5⟩ := h4 k q hk
          exact ⟨by rw [upd_ne g5]; exact eet _ _ g1, by rw [upd_ne g4]; exact eet _ _ g2, g3, g4, g5⟩
        · rw [List.getElem?_append_right hge] at hk
          have hk0 : k = qs.length := by
            have := (List.getElem?_eq_some_iff.mp hk).1
            simp at this
            omega
          rw [hk0, Nat.sub_self] at hk
          cases (Option.some.inj (show some _ = some q from hk))
          rw [hk0, h2, eg]
          exact ⟨by rw [upd_ne ntD, upd_same], by rw [upd_ne neD, upd_ne net, upd_same], fresh_back e' he, neD, ntD⟩
    · rintro H1 ⟨e1, qs, h1, h2, h3, h4⟩
      have lq : qs.length = R.length := by rw [h2, hlen0]
      let g : List Int → V := fun r => .ref ((qs.map (·.2)).getD (R.idxOf r) 0)
      have rowk : ∀ (k : Nat) (q : Addr × Addr), qs[k]? = some q → ∃ r b, R[k]? = some r ∧ xs0.getD k .non = .ref b ∧ H1 b = some (.tup ((ky r).map kV)) ∧ g r = .ref q.2 := fun k q hk => by
        have hk2 : k < xs0.length := by rw [← h2]; exact (List.getElem?_eq_some_iff.mp hk).1
        obtain ⟨r, hr, hrow⟩ := Paired.at_l hp0 k _ (List.getElem?_eq_getElem hk2)
        obtain ⟨b, eb, hb⟩ := (hrow.ex e1).key
        refine ⟨r, b, hr, ?_, hb, ?_⟩
        · rw [List.getD_eq_getElem?_getD, List.getElem?_eq_getElem hk2]
          exact eb
        · show V.ref ((qs.map (·.2)).getD (R.idxOf r) 0) = V.ref q.2
          rw [idxOf_at oR.nd hr, List.getD_eq_getElem?_getD, List.getElem?_map, hk] <;> rfl
      have hps : ∃ ps : List (Addr × List Key × Addr × V), (ps.map fun p => V.ref p.1) = (qs.map fun q => V.ref q.1) ∧ (∀ p ∈ ps, H1 p.1 = some (.tup [.ref p.2.2.1, p.2.2.2])) ∧ (∀ p ∈ ps, H1 p.2.2.1 = some (.tup (p.2.1.map kV))) ∧
          ps.map (fun p => (p.2.1, p.2.2.2)) = R.map (fun r => (ky r, g r)) := by
        have gen : ∀ n, n ≤ qs.length → ∃ ps : List (Addr × List Key × Addr × V), (ps.map fun p => V.ref p.1) = ((qs.take n).map fun q => V.ref q.1) ∧ (∀ p ∈ ps, H1 p.1 = some (.tup [.ref p.2.2.1, p.2.2.2])) ∧ (∀ p ∈ ps, H1 p.2.2.1 = some (.tup (p.2.1.map kV))) ∧
            ps.map (fun p => (p.2.1, p.2.2.2)) = (R.take n).map (fun r => (ky r, g r)) := by
          intro n
          induction n with
          | zero => exact fun _ => ⟨[], rfl, fun p h => (by cases h), fun p h => (by cases h), rfl⟩
          | succ n ih =>
            intro hn
            obtain ⟨ps, i1, i2, i3, i4⟩ := ih (by omega)
            have gq := List.getElem?_eq_getElem (l := qs) (i := n) (by omega)
            obtain ⟨r, b, z1, z2, z3, z4⟩ := rowk n _ gq
            obtain ⟨g1, g2, _⟩ := h4 n _ gq
            refine ⟨ps ++ [(qs[n].1, ky r, b, .ref qs[n].2)], ?_, fun p hp => ?_, fun p hp => ?_, ?_⟩
            · rw [List.map_append, i1, take_next gq, List.map_append] <;> rfl
            · rcases List.mem_append.mp hp with hp | hp
              · exact i2 p hp
              · rw [List.mem_singleton.mp hp]
                rw [z2] at g1
                exact g1
            · rcases List.mem_append.mp hp with hp | hp
              · exact i3 p hp
              · rw [List.mem_singleton.mp hp]
                exact z3
            · rw [List.map_append, i4, take_next z1, List.map_append]
              show _ ++ [(ky r, V.ref qs[n].2)] = _ ++ [(ky r, g r)]
              rw [z4]
        obtain ⟨ps, i1, i2, i3, i4⟩ := gen qs.length (Nat.le_refl _)
        rw [List.take_length] at i1
        rw [lq, List.take_length] at i4
        exact ⟨ps, i1, i2, i3, i4⟩
      obtain ⟨ps, i1, i2, i3, i4⟩ := hps
      refine ⟨Dl, ps, rfl, by rw [i1]; exact h1, i2, i3, fun fd hfd => ?_⟩
      have efold : ps.foldl (fun acc p => putK acc p.2.1 p.2.2.2) [] = dtab R g := by
        have z := dtab_fold (f := g) R [] (by rw [List.nil_append]; exact oR.nd)
        rw [List.nil_append, ← i4, List.foldl_map] at z
        exact z
      rw [efold]
      generalize hH2 : upd H1 fd (HO.dT (dtab R g)) = H2
      have e2 : Ex H H2 := by rw [← hH2]; exact e1.trans (Ex.new hfd)
      have f1 : H2 fd = some (.dT (dtab R g)) := by rw [← hH2, upd_same]
      have gat : ∀ (k : Nat) (r : List Int), R[k]? = some r → ∃ q, qs[k]? = some q ∧ g r = .ref q.2 := fun k r hr => by
        have hk : k < qs.length := by rw [lq]; exact (List.getElem?_eq_some_iff.mp hr).1
        obtain ⟨r', b, z1, _, _, z4⟩ := rowk k _ (List.getElem?_eq_getElem hk)
        rw [hr] at z1
        cases z1
        exact ⟨_, List.getElem?_eq_getElem hk, z4⟩
      have ginj : ∀ r ∈ R, ∀ r' ∈ R, g r = g r' → r = r' := fun r hr r' hr' e => by
        obtain ⟨i, hi, ei⟩ := List.mem_iff_getElem.mp hr
        obtain ⟨i', hi', ei'⟩ := List.mem_iff_getElem.mp hr'
        obtain ⟨q, z1, z2⟩ := gat i r (by rw [List.getElem?_eq_getElem hi, ei])
        obtain ⟨q', z1', z2'⟩ := gat i' r' (by rw [List.getElem?_eq_getElem hi', ei'])
        rw [z2, z2'] at e
        injection e with e
        have m1 : (qs.map (·.2))[i]? = some q.2 := by rw [List.getElem?_map, z1] <;> rfl
        have m2 : (qs.map (·.2))[i']? = some q'.2 := by rw [List.getElem?_map, z1'] <;> rfl
        obtain ⟨w1, w2⟩ := List.getElem?_eq_some_iff.mp m1
        obtain ⟨w3, w4⟩ := List.getElem?_eq_some_iff.mp m2
        have : i = i' := (List.getElem_inj h3).mp (w2.trans (e.trans w4.symm))
        subst this
        rw [← ei, ← ei']
      have f2 : ∀ r ∈ R, ∃ b, g r = .ref b ∧ H b = none ∧ H2 b = some (.lst (posL (Ls.take 0) r)) := fun r hr => by
        obtain ⟨i, hi, ei⟩ := List.mem_iff_getElem.mp hr
        obtain ⟨q, z1, z2⟩ := gat i r (by rw [List.getElem?_eq_getElem hi, ei])
        obtain ⟨_, w2, w3, _⟩ := h4 i q z1
        refine ⟨q.2, z2, w3, ?_⟩
        rw [← hH2, upd_ne (fun z => by rw [z, hfd] at w2; cases w2)]
        exact w2
      let Ov : Nat → L2.St → Hp → Prop := fun i σ' H' => Ex H H' ∧ H' fd = some (.dT (dtab R g)) ∧ (∀ r ∈ R, ∃ b, g r = .ref b ∧ H b = none ∧ H' b = some (.lst (posL (Ls.take i) r))) ∧ ∃ v2 v3 v4, σ' = [some (.ref p), some (.ref fd), v2, v3, v4]
      refine q_forLn (a := p) (xs := xs) (ev_var rfl) (sq_of (e2 _ _ hs)) Ov (fun H3 e3 => ⟨e2.trans e3, e3 _ _ f1, fun r hr => let ⟨b, z1, z2, z3⟩ := f2 r hr; ⟨b, z1, z2, e3 _ _ z3⟩, none, none, none, rfl⟩) (fun i σ' H' _ ⟨e', _⟩ => sq_of (e' _ _ hs)) ?_ ?_
      · rintro i y σ' H' hy ⟨e', d1, d2, v2, v3, v4, rfl⟩
        obtain ⟨L, hL, b0, ys0, rfl, hb0, hpL⟩ := Paired.at_l hp i y hy
        have mL := List.mem_of_getElem? hL
        have oL := ho.ok L mL
        have lL : ys0.length = L.length := Paired.length hpL
        refine ⟨_, rfl, b0, ys0, rfl, sq_of (e' _ _ hb0), ?_⟩
        let Iv : Nat → L2.St → Hp → Prop := fun j σ' H' => Ex H H' ∧ H' fd = some (.dT (dtab R g)) ∧ (∀ r ∈ R, ∃ b, g r = .ref b ∧ H b = none ∧ H' b = some (.lst (posL (if r ∈ L.take j then Ls.take (i + 1) else Ls.take i) r))) ∧ ∃ v3 v4, σ' = [some (.ref p), some (.ref fd), some (.ref b0), v3, v4]
        refine for_it (walk_enum (K := K) (a := b0) (xs := ys0)) Iv ⟨e', d1, fun r hr => ?_, v3, v4, rfl⟩ (fun j σ' H' _ ⟨e', _⟩ => sq_of (e' _ _ hb0)) ?_ ?_
        · obtain ⟨b, z1, z2, z3⟩ := d2 r hr
          refine ⟨b, z1, z2, ?_⟩
          rw [if_neg (by simp)]
          exact z3
        · rintro j y σ' H' H'' hj ⟨e4, k1, k2, v3, v4, rfl⟩ ⟨T0, x1, x2, rfl, hT0, rfl, ex1, ex2⟩
          cases ex1
          obtain ⟨r, hr, hrow⟩ := Paired.at_l hpL j x2 ex2
          have eT : Ex H' (upd H' T0 (.tup [.int (j : Nat), x2])) := Ex.new hT0
          have rR : r ∈ R := (ho.pm L mL R hRm).mem_iff.mpr (List.mem_of_getElem? hr)
          have nr : r ∉ L.take j := fun hm => by
            obtain ⟨j2, hj2, ej⟩ := List.mem_iff_getElem.mp hm
            have hj3 : j2 < j := by rw [List.length_take] at hj2; omega
            rw [List.getElem_take] at ej
            have g1 : L[j2]? = some r := by rw [← ej]; exact List.getElem?_eq_getElem _
            have a1 := idxOf_at oL.nd g1
            have a2 := idxOf_at oL.nd hr
            omega
          refine ⟨T0, _, rfl, st_of upd_same, rfl, _, _, rfl, _, _, rfl, rfl, ?_⟩
          obtain ⟨b, z1, z2, z3⟩ := k2 r rR
          rw [if_neg nr] at z3
          have ev := ev_dget (σ := [some (.ref p), some (.ref fd), some (.ref b0), some (.int (j : Nat)), some x2]) (ta := tVar 1) (tb := tVar 4) (ev_var rfl) (ev_var rfl) (eT _ _ k1) (hrow.ex (e4.trans eT)) rR
          rw [z1] at ev
          have lp : (posL (Ls.take i) r).length ≤ 6 := by
            unfold posL
            rw [List.length_map, List.length_take]
            have := ho.six
            omega
          refine s_app (D := { nx := Iv (j + 1), rt := Q, ct := Iv (j + 1), bk := Ov (i + 1) }) (eT _ _ z3) ev (ev_var rfl) (by omega) fun H5 e5 => ?_
          have e45 := eT.trans e5
          have nfd : fd ≠ b := fun z => by rw [z, z3] at k1; cases k1
          have idx := idxOf_at oL.nd hr
          refine ⟨Ex.mut (e4.trans e45) z2, by rw [upd_ne nfd]; exact e45 _ _ k1, fun r' hr' => ?_, _, _, rfl⟩
          by_cases er : r' = r
          · subst er
            refine ⟨b, z1, z2, ?_⟩
            rw [if_pos (by rw [take_next hr]; exact List.mem_append_right _ List.mem_cons_self), upd_same]
            congr 2
            unfold posL
            rw [take_next hL, List.map_append]
            show _ ++ [V.int (j : Nat)] = _ ++ [V.int (L.idxOf r' : Nat)]
            rw [idx]
          · obtain ⟨b', y1, y2, y3⟩ := k2 r' hr'
            have nb : b' ≠ b := fun z => by
              rw [z, ← z1] at y1
              exact er (ginj r' hr' r rR y1)
            refine ⟨b', y1, y2, ?_⟩
            rw [upd_ne nb]
            have em : (r' ∈ L.take (j + 1)) ↔ (r' ∈ L.take j) := by
              rw [take_next hr]
              constructor
              · intro h
                exact (List.mem_append.mp h).resolve_right fun z => er (List.mem_singleton.mp z)
              · exact fun h => List.mem_append_left _ h
            have ei : (if r' ∈ L.take (j + 1) then Ls.take (i + 1) else Ls.take i) = (if r' ∈ L.take j then Ls.take (i + 1) else Ls.take i) := by
              by_cases hm : r' ∈ L.take j
              · rw [if_pos hm, if_pos (em.mpr hm)]
              · rw [if_neg hm, if_neg (fun z => hm (em.mp z))]
            rw [ei]
            exact e45 _ _ y3
        · rintro σ' H' ⟨e4, k1, k2, v3, v4, rfl⟩
          rw [lL, List.take_length] at k2
          refine ⟨e4, k1, fun r hr => ?_, _, _, _, rfl⟩
          obtain ⟨b, z1, z2, z3⟩ := k2 r hr
          rw [if_pos ((ho.pm L mL R hRm).mem_iff.mp hr)] at z3
          exact ⟨b, z1, z2, z3⟩
      · rintro σ' H' ⟨e', d1, d2, v2, v3, v4, rfl⟩
        rw [hlen, List.take_length] at d2
        refine s_ret (ev_var rfl) fun H3 e3 => ?_
        exact k fd H3 (fresh_back e1 hfd) (e'.trans e3) ⟨g, e3 _ _ d1, fun r hr => let ⟨b, z1, _, z3⟩ := d2 r hr; ⟨b, z1, e3 _ _ z3⟩⟩
end
end Mv
/-! _law_ahead, _law_most. -/
namespace Mv
open PySem PySem.Spec PyProof.Rows L2 Evl
theorem any_ge (Ls : List (List (List Int))) (q r : List Int) : ((posL Ls q).zip (posL Ls r)).length = Ls.length := by
  unfold posL
  rw [List.length_zip, List.length_map, List.length_map, Nat.min_self]
theorem lev_unique {Ls : List (List (List Int))} {R : List (List Int)} {lev lev' : List Int → Nat} {ahd ahd' : List Int → Option (List Int)} (L : LevOn Ls R lev ahd) (L' : LevOn Ls R lev' ahd') {R0 : List (List Int)} (h0 : R0 ∈ Ls) : ∀ (k : Nat) (r : List Int), r ∈ R → R0.idxOf r = k → lev r = lev' r := by
  intro k
  induction k using Nat.strongRecOn with
  | ind k ih =>
    intro r hr e
    have h : ∀ {lev lev' : List Int → Nat} {ahd ahd' : List Int → Option (List Int)}, LevOn Ls R lev ahd → LevOn Ls R lev' ahd' → (∀ q ∈ R, R0.idxOf q < k → lev q = lev' q) → lev r ≤ lev' r := fun {lev lev' ahd ahd'} L L' same => by
      rcases L.how r hr with ⟨z, _⟩ | ⟨q, hq, h1, h2, _⟩
      · omega
      · have a := L'.lt r hr q hq h1
        have b := same q hq (by have := Ah.lt h1 h0; omega)
        omega
    refine Nat.le_antisymm (h L L' fun q hq hk => ih _ hk q hq rfl) (h L' L fun q hq hk => (ih _ hk q hq rfl).symm)
theorem count_unique {Ls : List (List (List Int))} {R : List (List Int)} {lev lev' : List Int → Nat} {ahd ahd' : List Int → Option (List Int)} {M M' : Nat} (L : LevOn Ls R lev ahd) (L' : LevOn Ls R lev' ahd') {R0 : List (List Int)} (h0 : R0 ∈ Ls) (c : IsCount R lev M) (c' : IsCount R lev' M') : M = M' := by
  have e : ∀ r ∈ R, lev r = lev' r := fun r hr => lev_unique L L' h0 _ r hr rfl
  rcases Classical.em (R = []) with z | z
  · rw [c.nil z, c'.nil z]
  · obtain ⟨r, hr, h1⟩ := c.hit z
    obtain ⟨r', hr', h2⟩ := c'.hit z
    have a := c'.lt r hr
    have b := c.lt r' hr'
    have e1 := e r hr
    have e2 := e r' hr'
    omega
section
variable {K : PySem.W.Frag} {σ : L2.St} {H H' : Hp} {ta tb tc te tl tx : TE} {t u : TT} {x y z v : V} {D : Ends}
/-- a comprehension over zip(xs, ys) -/
theorem el_lcZ {ta : TA} {p q : Addr} {xs ys : List V} {j1 j2 : Nat} {vs : List Nat} (f : Nat → Bool) (v : Nat → V) (h : EvA ta σ H [.ref p, .ref q]) (hx : SqL K H p xs) (hy : SqL K H q ys) (hl : xs.length = ys.length) (hz : xs.length ≤ 40000) (hw : ∀ x y, wipe (((wipe σ vs).set j1 (some x)).set j2 (some y)) vs = wipe σ vs)
    (ht : ∀ (i : Nat) (x y : V) H1, Ex H H1 → xs[i]? = some x → ys[i]? = some y → EvT t (((wipe σ vs).set j1 (some x)).set j2 (some y)) H1 (f i)) (he : ∀ (i : Nat) (x y : V) H1, Ex H H1 → xs[i]? = some x → ys[i]? = some y → f i = true → Ev te (((wipe σ vs).set j1 (some x)).set j2 (some y)) H1 (v i)) :
    EvL (tLc (iZip K ta) (gTup K 2 (gCons (gName j1) (gCons (gName j2) gNil))) t te vs) σ H (given xs.length f v) := fun H0 e Q k => h H0 e _ fun H1 e1 => ⟨p, q, xs, ys, rfl, ex_l (e.trans e1) hx, ex_l (e.trans e1) hy, fun Dl hD => by
  refine lc_it (walk_zip (K := K) (a := p) (b := q) (n := xs.length) (by rw [← hl, Nat.min_self])) (Cw H1 f v Dl) ⟨hD, Ex.new hD, upd_same⟩ (fun i H' _ pv => ⟨ex_l ((e.trans e1).trans pv.2.1) hx, ex_l ((e.trans e1).trans pv.2.1) hy⟩) ?_ fun H' pv => k Dl H' (fresh_back e1 pv.1) (e1.trans pv.2.1) pv.2.2
  rintro i x H' H'' hi pv ⟨T0, x1, x2, rfl, hT, rfl, g1, g2⟩
  obtain ⟨p1, p2, p3⟩ := pv
  have eT : Ex H' (upd H' T0 (.tup [x1, x2])) := Ex.new hT
  exact ⟨T0, _, rfl, st_of upd_same, rfl, _, _, rfl, _, _, rfl, rfl, hw _ _, cw_turn ⟨p1, p2.trans eT, eT _ _ p3⟩ (by omega) (ht i x1 x2 H1 (e.trans e1) g1 g2) (fun hf => he i x1 x2 H1 (e.trans e1) g1 g2 hf)⟩⟩
theorem given_empty {n : Nat} {f : Nat → Bool} {v : Nat → V} : (given n f v).isEmpty = (List.range n).all fun i => !f i := by
  unfold given
  rw [Bool.eq_iff_iff, List.isEmpty_iff, List.map_eq_nil_iff, List.filter_eq_nil_iff, List.all_eq_true]
  constructor
  · intro h i hi
    have := h i hi
    simpa using this
  · intro h i hi
    have := h i hi
    simpa using this
end
section
variable {P : Program} {w : World} {K : PySem.W.Frag} {mg : Str → Option Value} {base : Heap} {a : Nat → Addr} {d : Nat → FuncData} {tk : Nat → Tok}
/-! _law_ahead -/
def sp__law_ahead : Sp := fun vs H Q _ => ∃ (p : Addr) (x y : V) (Ls : List (List (List Int))) (R : List (List Int)) (q r : List Int), vs = [.ref p, x, y] ∧ PosAt H p Ls R ∧ IsRow H x q ∧ IsRow H y r ∧ q ∈ R ∧ r ∈ R ∧ Ls.length ≤ 6 ∧ RetV (.bl (Ah Ls q r)) H Q
theorem ok__law_ahead (T : All K mg a d tk) : FnOk P w K mg base CX0 1 (a 22) (d 22) ["places", "one", "other"] sp__law_ahead := by
  refine T.F__law_ahead.fn.ok sc__law_ahead (fun vs H Q E h => ?_) (fun cdv A outer s H vs Q E hr h => ?_)
  · obtain ⟨p, x, y, Ls, R, q, r, rfl, _⟩ := h
    rfl
  · obtain ⟨p, x, y, Ls, R, q, r, rfl, ⟨g, hp, hg⟩, hx, hy, mq, mr, h6, k⟩ := h
    have nd := sc__law_ahead.nd
    have hu := hu_of hr
    have hu0 := hr.units0
    refine ⟨_, (pss_one (ps_ret (pe_cmpR (op_eqNil hu0) (pe_lc (own := [("low", 3), ("high", 4)]) (g := (gTup K 2 (gCons (gName 3) (gCons (gName 4) gNil)))) rfl nd (pi_zip rfl T.n_zip (pa_cons (pe_dget hu (pv 0) (pv 1) (fun _ _ => rfl)) (pa_cons (pe_dget hu (pv 0) (pv 2) (fun _ _ => rfl)) pa_nil))) (blkOk_by (N := N__law_ahead) (sc := defScope s__law_ahead) (by decide +kernel)) (fun _ _ _ _ _ => (pg_tup rfl (pgs_cons (pg_name (i := 3) nd rfl (Or.inl rfl)) (pgs_cons (pg_name (i := 4) nd rfl (Or.inl rfl)) pgs_nil)))) (fun _ _ _ _ _ => (pts_one (pt_cmpR op_ge (pv 3) (pv 4) (nomark _)))) (fun _ _ _ _ _ => (pv 3))) (pe_lst pa_nil) (nomark _)))), ?_⟩
    obtain ⟨b1, z1, w1⟩ := hg q mq
    obtain ⟨b2, z2, w2⟩ := hg r mr
    have e1 := ev_dget (σ := start N__law_ahead [.ref p, x, y]) (ta := tVar 0) (tb := tVar 1) (ev_var rfl) (ev_var rfl) hp hx mq
    have e2 := ev_dget (σ := start N__law_ahead [.ref p, x, y]) (ta := tVar 0) (tb := tVar 2) (ev_var rfl) (ev_var rfl) hp hy mr
    rw [z1] at e1
    rw [z2] at e2
    have lq : (posL Ls q).length = Ls.length := List.length_map _
    have lr : (posL Ls r).length = Ls.length := List.length_map _
    have at_ : ∀ (s : List Int) (i : Nat) (x : V), (posL Ls s)[i]? = some x → ∃ L, Ls[i]? = some L ∧ x = .int (L.idxOf s : Nat) := fun s i x h => by
      unfold posL at h
      rw [List.getElem?_map] at h
      obtain ⟨L, hL, e⟩ := Option.map_eq_some_iff.mp h
      exact ⟨L, hL, e.symm⟩
    have z := el_lcZ (K := K) (t := tTest (tOp (rI0 fun i j => .bl (decide (j ≤ i))) (tVar 3) (tVar 4))) (te := tVar 3) (vs := [3, 4]) (j1 := 3) (j2 := 4) (xs := posL Ls q) (ys := posL Ls r) (fun i => !decide ((Ls.getD i []).idxOf q < (Ls.getD i []).idxOf r)) (fun i => (posL Ls q).getD i .non) (ea_cons e1 (ea_cons e2 ea_nil)) (sq_of w1) (sq_of w2) (by rw [lq, lr]) (by omega) (fun _ _ => rfl)
      (fun i x1 x2 H1 e g1 g2 => by
        obtain ⟨L, hL, rfl⟩ := at_ q i x1 g1
        obtain ⟨L', hL', rfl⟩ := at_ r i x2 g2
        rw [hL] at hL'
        cases hL'
        have eL : Ls.getD i [] = L := by rw [List.getD_eq_getElem?_getD, hL] <;> rfl
        rw [eL]
        refine et_is (et_I0 (ev_var rfl) (ev_var rfl)) ?_
        rw [← decide_not]
        exact decide_eq_decide.mpr (by omega))
      (fun i x1 x2 H1 e g1 g2 _ => by
        have eL : (posL Ls q).getD i .non = x1 := by rw [List.getD_eq_getElem?_getD, g1] <;> rfl
        rw [eL]
        exact ev_var rfl)
    refine s_ret (ev_is (ev_eqNilN z) ?_) k
    rw [given_empty, lq]
    congr 1
    unfold Ah
    rw [Bool.eq_iff_iff, List.all_eq_true, List.all_eq_true]
    constructor
    · intro h L hL
      obtain ⟨i, hi, ei⟩ := List.mem_iff_getElem.mp hL
      have := h i (List.mem_range.mpr hi)
      rw [Bool.not_not, List.getD_eq_getElem?_getD, List.getElem?_eq_getElem hi, ei] at this
      exact this
    · intro h i hi
      have hi := List.mem_range.mp hi
      rw [Bool.not_not, List.getD_eq_getElem?_getD, List.getElem?_eq_getElem hi]
      exact h _ (List.getElem_mem hi)
theorem spv__law_ahead {p : Addr} {x y : V} {Ls : List (List (List Int))} {R : List (List Int)} {q r : List Int} {H : Hp} (hp : PosAt H p Ls R) (hx : IsRow H x q) (hy : IsRow H y r) (mq : q ∈ R) (mr : r ∈ R) (h6 : Ls.length ≤ 6) : SpV sp__law_ahead [.ref p, x, y] H (.bl (Ah Ls q r)) :=
  fun H1 e Q k _ => ⟨p, x, y, Ls, R, q, r, rfl, hp.ex e, hx.ex e, hy.ex e, mq, mr, h6, k⟩
/-! _law_most -/
theorem max_zero (l : List Nat) : ∃ m, (m = 0 ∨ m ∈ l) ∧ ∀ x ∈ l, x ≤ m := by
  induction l with
  | nil => exact ⟨0, .inl rfl, fun x h => by cases h⟩
  | cons a l ih =>
    obtain ⟨m, h1, h2⟩ := ih
    by_cases h : m ≤ a
    · refine ⟨a, .inr List.mem_cons_self, fun x hx => ?_⟩
      rcases List.mem_cons.mp hx with e | hx
      · omega
      · have := h2 x hx; omega
    · refine ⟨m, h1.imp id fun h => List.mem_cons_of_mem _ h, fun x hx => ?_⟩
      rcases List.mem_cons.mp hx with e | hx
      · omega
      · exact h2 x hx
/-- max(xs + [0]) -/
theorem ev_max0 {K : PySem.W.Frag} {σ : L2.St} {H : Hp} {ta : TE} {p : Addr} {l : List Nat} {m : Nat} (ha : Ev ta σ H (.ref p)) (hp : H p = some (.lst (l.map fun n : Nat => V.int (n : Int)))) (hl : l.length ≤ 1000) (h1 : m = 0 ∨ m ∈ l) (h2 : ∀ x ∈ l, x ≤ m) :
    Ev (tCB (rMax K) (tCons (tOp rCat ta (tLst (tCons (tC (.int 0)) tNil))) tNil)) σ H (.int (m : Int)) := fun H1 e Q q =>
  ha H1 e _ fun H2 e2 => ⟨sz_of (show 1 ≤ 100000 by decide), fun s hs => by
    have e3 : Ex H2 (upd H2 s (.lst [.int 0])) := Ex.new hs
    refine ⟨p, s, _, [.int 0], rfl, rfl, (e.trans (e2.trans e3)) _ _ hp, upd_same, ?_, fun u hu => ?_⟩
    · rw [List.length_map]
      exact sz_of (by show l.length + 1 ≤ 100000; omega)
    · have e4 := Ex.new (o := .lst ((l.map fun n : Nat => V.int (n : Int)) ++ [.int 0])) hu
      refine ⟨u, (l.map fun n : Nat => (n : Int)) ++ [0], rfl, sq_of ?_, ?_, fun mx hm hb => ?_⟩
      · rw [upd_same, List.map_append, List.map_map]
        rfl
      · rw [List.length_append, List.length_singleton]
        omega
      · have em : mx = (m : Int) := by
          have a1 : (m : Int) ≤ mx := by
            rcases h1 with z | z
            · have := hb 0 (List.mem_append_right _ List.mem_cons_self)
              omega
            · exact hb _ (List.mem_append_left _ (List.mem_map_of_mem (f := fun n : Nat => (n : Int)) z))
          rcases List.mem_append.mp hm with z | z
          · obtain ⟨n, hn, en⟩ := List.mem_map.mp z
            have := h2 n hn
            have en : (n : Int) = mx := en
            omega
          · have := List.mem_singleton.mp z
            omega
        rw [em]
        exact q _ ((e2.trans e3).trans e4)⟩
def PosN (H : Hp) (p : Addr) (Ls : List (List (List Int))) (R : List (List Int)) (kn : Addr) : Prop := ∃ g : List Int → V, H p = some (.dT (dtab R g)) ∧ ∀ r ∈ R, ∃ b, g r = .ref b ∧ H b = some (.lst (posL Ls r)) ∧ b ≠ kn
theorem PosN.at {H : Hp} {p : Addr} {Ls : List (List (List Int))} {R : List (List Int)} {kn : Addr} (h : PosN H p Ls R kn) : PosAt H p Ls R := let ⟨g, h1, h2⟩ := h; ⟨g, h1, fun r hr => let ⟨b, h3, h4, _⟩ := h2 r hr; ⟨b, h3, h4⟩⟩
theorem PosN.ex {H H' : Hp} {p : Addr} {Ls : List (List (List Int))} {R : List (List Int)} {kn : Addr} (h : PosN H p Ls R kn) (e : Ex H H') : PosN H' p Ls R kn := let ⟨g, h1, h2⟩ := h; ⟨g, e _ _ h1, fun r hr => let ⟨b, h3, h4, h5⟩ := h2 r hr; ⟨b, h3, e _ _ h4, h5⟩⟩
def sp__law_most : Sp := fun vs H Q _ => ∃ (x : V) (Ls : List (List (List Int))) (R : List (List Int)) (n : Nat), vs = [x] ∧ LLs H x Ls ∧ OkLists n Ls ∧ Ls[0]? = some R ∧ ∀ lev ahd M H2, LevOn Ls R lev ahd → IsCount R lev M → Ex H H2 → Q (.int (M : Int)) H2
theorem ok__law_most (T : All K mg a d tk) : FnOk P w K mg base CX0 2 (a 23) (d 23) ["many"] sp__law_most := by
  refine T.F__law_most.fn.ok sc__law_most (fun vs H Q E h => ?_) (fun cdv A outer s H vs Q E hr h => ?_)
  · obtain ⟨x, Ls, R, n, rfl, _⟩ := h
    rfl
  · obtain ⟨x, Ls, R, n, rfl, hx, ho, hR, k⟩ := h
    have nd := sc__law_most.nd
    have hRm : R ∈ Ls := List.mem_of_getElem? hR
    have oR : OkRows n R := ho.ok R hRm
    have hR60 := oR.few
    obtain ⟨p, xs, rfl, hs, hp⟩ := id hx
    obtain ⟨x0, hx0, a0, xs0, rfl, hs0, hp0⟩ := Paired.at_r hp 0 R hR
    have hlen0 : xs0.length = R.length := Paired.length hp0
    refine ⟨_, (pss_cons (ps_asg (pe_tup (pa_cons (pe_lst pa_nil) (pa_cons (pe_call (ok__law_places T) (hr.mono (by decide)) rfl T.F__law_places.m T.F__law_places.kp T.F__law_places.b .nil pass0 (pa_cons (pv 0) pa_nil)) pa_nil))) (pg_tup rfl (pgs_cons (pg_name (i := 1) nd rfl (Or.inr rfl)) (pgs_cons (pg_name (i := 2) nd rfl (Or.inr rfl)) pgs_nil))) (hw := by rfl))
 (pss_cons (ps_for PassesOwn.never rfl (pi_enum rfl T.n_enumerate (pa_cons (pe_ix ix_list (pv 0) pe_int (fun _ _ => rfl)) pa_nil)) (pg_tup rfl (pgs_cons (pg_name (i := 3) nd rfl (Or.inl rfl)) (pgs_cons (pg_name (i := 4) nd rfl (Or.inr rfl)) pgs_nil)))
 (pss_cons (ps_setLc (i := 5) (own := [("k", 6)]) (g := (gName 6)) rfl nd rfl rfl (sw_true rfl rfl rfl (by decide +kernel)) (pi_range1 rfl T.n_range (pa_cons (pv 3) pa_nil)) (blkOk_by (N := N__law_most) (sc := defScope s__law_most) (by decide +kernel)) (fun _ _ _ _ _ => (pg_name (i := 6) nd rfl (Or.inl rfl))) (fun _ _ _ _ _ => (pts_one (pt_val (pe_call (ok__law_ahead T) (hr.mono (by decide)) rfl T.F__law_ahead.m T.F__law_ahead.kp T.F__law_ahead.b .nil pass0 (pa_cons (pv 2) (pa_cons (pe_ix (show IxR _ (rIxL K) from ix_list) (pe_ix (show IxR _ (rIxL K) from ix_list) (pv 0) pe_int (fun _ _ => rfl)) (pv 6) (fun _ _ => rfl)) (pa_cons (pv 4) pa_nil))))))) (fun _ _ _ _ _ => (pe_ix (show IxR _ (rIxL K) from ix_list) (pv 1) (pv 6) (fun _ _ => rfl))))
 (pss_one (ps_expr (pe_bm PySem.F.plainAttrs_list PySem.F.slot_list_append PySem.F.type_list_append mt_append (pv 1) (pa_cons (pe_op op_add pe_int (pe_callB (cr_max rfl) (by rfl) T.n_max PyProof.Rows.boot_max (pa_cons (pe_op op_cat (pv 5) (pe_lst (pa_cons pe_int pa_nil))) pa_nil))) pa_nil))))))
 (pss_one (ps_ret (pe_callB (cr_max rfl) (by rfl) T.n_max PyProof.Rows.boot_max (pa_cons (pe_op op_cat (pv 1) (pe_lst (pa_cons pe_int pa_nil))) pa_nil)))))), ?_⟩
    refine ⟨Nat.zero_le _, fun kn hkn => ?_⟩
    have eK : Ex H (upd H kn (.lst [])) := Ex.new hkn
    refine ⟨_, rfl, .ref p, Ls, R, n, rfl, hx.ex eK, ho, hR, fun pd H2 _ e2 hPos => ⟨sz_of (show 2 ≤ 100000 by decide), fun t ht => ?_⟩⟩
    have eT : Ex H2 (upd H2 t (.tup [.ref kn, .ref pd])) := Ex.new ht
    refine ⟨t, _, rfl, st_of upd_same, rfl, _, _, rfl, _, _, rfl, rfl, ?_⟩
    generalize hH3 : upd H2 t (HO.tup [V.ref kn, V.ref pd]) = H3
    have e3 : Ex H H3 := by rw [← hH3]; exact (eK.trans e2).trans eT
    have hk3 : H3 kn = some (.lst []) := by rw [← hH3]; exact (e2.trans eT) _ _ upd_same
    have hP3 : PosAt H3 pd Ls R := by rw [← hH3]; exact hPos.ex eT
    have hP3 : PosN H3 pd Ls R kn := by
      obtain ⟨g, z1, z2⟩ := hP3
      refine ⟨g, z1, fun r hr => ?_⟩
      obtain ⟨b, y1, y2⟩ := z2 r hr
      refine ⟨b, y1, y2, fun e => ?_⟩
      rw [e, hk3] at y2
      injection y2 with y2
      injection y2 with y2
      have := congrArg List.length y2
      unfold posL at this
      rw [List.length_map] at this
      exact ho.ne (List.eq_nil_of_length_eq_zero this.symm)
    have irr : ∀ r, Ah Ls r r = false := fun r => by
      cases q : Ah Ls r r with
      | false => rfl
      | true => exact absurd (Ah.lt q hRm) (Nat.lt_irrefl _)
    have ix : ∀ {j : Nat} {r : List Int}, R[j]? = some r → R.idxOf r = j := fun h => idxOf_at oR.nd h
    refine ⟨_, rfl, p, xs, 0, _, rfl, rfl, sq_of (e3 _ _ hs), atI_nat (j := 0) hx0, a0, xs0, rfl, sq_of (e3 _ _ hs0), ?_⟩
    let Ov : Nat → L2.St → Hp → Prop := fun j σ' H' => Ex H H' ∧ PosN H' pd Ls R kn ∧ ∃ (lev : List Int → Nat) (ahd : List Int → Option (List Int)) (v3 v4 v5 : Option V), σ' = [some (.ref p), some (.ref kn), some (.ref pd), v3, v4, v5, none] ∧
      H' kn = some (.lst (((R.take j).map fun r => lev r + 1).map fun n : Nat => V.int (n : Int))) ∧ LevOn Ls (R.take j) lev ahd
    refine for_it (walk_enum (K := K) (a := a0) (xs := xs0)) Ov ⟨e3, hP3, fun _ => 0, fun _ => none, none, none, none, rfl, hk3, ⟨fun r hr => by simp at hr, fun r hr => by simp at hr⟩⟩ (fun j σ' H' _ ⟨e', _⟩ => sq_of (e' _ _ hs0)) ?_ ?_
    · rintro j y σ' H' H'' hj ⟨e', hPo, lev, ahd, v3, v4, v5, rfl, h1, h2⟩ ⟨T0, x1, x2, rfl, hT0, rfl, ex1, ex2⟩
      cases ex1
      have eT0 : Ex H' (upd H' T0 (.tup [.int (j : Nat), x2])) := Ex.new hT0
      obtain ⟨r, hr, hrow⟩ := Paired.at_l hp0 j x2 ex2
      have hjR : j < R.length := (List.getElem?_eq_some_iff.mp hr).1
      have ej := ix hr
      have memT : ∀ q ∈ R.take j, R.idxOf q < j ∧ q ∈ R := fun q hq => by
        obtain ⟨i, hi, ei⟩ := List.mem_iff_getElem.mp hq
        have hi2 : i < j := by rw [List.length_take] at hi; omega
        rw [List.getElem_take] at ei
        have g1 : R[i]? = some q := by rw [← ei]; exact List.getElem?_eq_getElem _
        exact ⟨by rw [ix g1]; exact hi2, List.mem_of_getElem? g1⟩
      have nr : r ∉ R.take j := fun h => by have := (memT r h).1; omega
      have eTk : R.take (j + 1) = R.take j ++ [r] := take_next hr
      have back : ∀ q ∈ R.take j, Ah Ls r q = false := fun q hq => by
        cases z : Ah Ls r q with
        | false => rfl
        | true =>
          have h1 := Ah.lt z hRm
          have h2 := (memT q hq).1
          omega
      refine ⟨T0, _, rfl, st_of upd_same, rfl, _, _, rfl, _, _, rfl, rfl, ?_⟩
      generalize hH4 : upd H' T0 (HO.tup [V.int (j : Nat), x2]) = H4
      have e4 : Ex H' H4 := by rw [← hH4]; exact eT0
      have eH4 := e'.trans e4
      let f : Nat → Bool := fun i => Ah Ls (R.getD i []) r
      let v : Nat → V := fun i => .int ((lev (R.getD i []) + 1 : Nat) : Int)
      have rget : ∀ i, i < j → ∃ q, R[i]? = some q ∧ R.getD i [] = q ∧ (R.take j)[i]? = some q := fun i hi => by
        have h := List.getElem?_eq_getElem (l := R) (i := i) (by omega)
        exact ⟨_, h, by rw [List.getD_eq_getElem?_getD, h] <;> rfl, by rw [List.getElem?_take_of_lt hi]; exact h⟩
      have comp := el_lcR1 (σ := [some (.ref p), some (.ref kn), some (.ref pd), some (.int (j : Nat)), some x2, v5, none]) (H := H4) (ta := tCons (tVar 3) tNil) (j := 6) (vs := [6]) (n := (j : Int)) (t := tB (tCall sp__law_ahead [] (fun _ _ _ => False) (tCons (tVar 2) (tCons (tOp (rIxL K) (tOp (rIxL K) (tVar 0) (tC (.int 0))) (tVar 6)) (tCons (tVar 4) tNil)))))
        (te := tOp (rIxL K) (tVar 1) (tVar 6)) f v (ea_cons (ev_var rfl) ea_nil) ⟨by omega, by omega⟩ (fun _ => rfl)
        (fun i H5 e5 hi => by
          obtain ⟨q, g1, g2, g3⟩ := rget i (by omega)
          obtain ⟨xq, g4, g5⟩ := Paired.at_r hp0 i q g1
          show EvT _ _ _ (Ah Ls (R.getD i []) r)
          rw [g2]
          refine et_B (ev_call (ea_cons (ev_var rfl) (ea_cons (ev_ixL (i := (i : Int)) (ev_ixL (i := 0) (ev_var rfl) ev_c (sq_of ((eH4.trans e5) _ _ hs)) (atI_nat (j := 0) hx0)) (ev_var rfl) (sq_of ((eH4.trans e5) _ _ hs0)) (atI_nat g4)) (ea_cons (ev_var rfl) ea_nil))) (spv__law_ahead ((hPo.ex e4).ex e5).at (g5.ex (eH4.trans e5)) (hrow.ex (eH4.trans e5)) (List.mem_of_getElem? g1) (List.mem_of_getElem? hr) ho.six)))
        (fun i H5 e5 hi _ => by
          obtain ⟨q, g1, g2, g3⟩ := rget i (by omega)
          show Ev _ _ _ (V.int ((lev (R.getD i []) + 1 : Nat) : Int))
          rw [g2]
          refine ev_ixL (i := (i : Int)) (ev_var rfl) (ev_var rfl) (sq_of ((e4.trans e5) _ _ h1)) (atI_nat ?_)
          rw [List.getElem?_map, List.getElem?_map, g3] <;> rfl)
      rw [Int.toNat_natCast] at comp
      have eg : given j f v = (((R.take j).filter fun q => Ah Ls q r).map fun q => lev q + 1).map fun n : Nat => V.int (n : Int) := by
        have gen : ∀ m, m ≤ j → given m f v = (((R.take m).filter fun q => Ah Ls q r).map fun q => lev q + 1).map fun n : Nat => V.int (n : Int) := by
          intro m
          induction m with
          | zero => exact fun _ => rfl
          | succ m ih =>
            intro hm
            obtain ⟨q, g1, g2, _⟩ := rget m (by omega)
            have ihm := ih (by omega)
            cases hf : Ah Ls q r with
            | true =>
              rw [given_yes (f := f) (by show Ah Ls (R.getD m []) r = true; rw [g2]; exact hf), ihm, take_next g1, List.filter_append, List.map_append, List.map_append]
              show _ ++ [V.int ((lev (R.getD m []) + 1 : Nat) : Int)] = _
              rw [g2]
              simp [hf]
            | false =>
              rw [given_no (f := f) (by show Ah Ls (R.getD m []) r = false; rw [g2]; exact hf), ihm, take_next g1, List.filter_append, List.map_append, List.map_append]
              simp [hf]
        exact gen j (Nat.le_refl _)
      rw [eg] at comp
      obtain ⟨c, hc1, hc2⟩ := max_zero (((R.take j).filter fun q => Ah Ls q r).map fun q => lev q + 1)
      refine q_asgL (D := { nx := Ov (j + 1), rt := Q, ct := Ov (j + 1), bk := _ }) comp fun pa H5 hpa e5 h5 => ?_
      have mx := ev_max0 (K := K) (σ := [some (.ref p), some (.ref kn), some (.ref pd), some (.int (j : Nat)), some x2, some (.ref pa), none]) (ta := tVar 5) (ev_var rfl) h5 (by
        rw [List.length_map]
        have := List.length_filter_le (fun q => Ah Ls q r) (R.take j)
        rw [List.length_take] at this
        omega) hc1 hc2
      refine s_app ((e4.trans e5) _ _ h1) (ev_var rfl) (ev_I0 ev_c mx) (by rw [List.length_map, List.length_map, List.length_take]; omega) fun H6 e6 => ?_
      have e46 := (e4.trans e5).trans e6
      have inn : ∃ o, Inner Ls (R.take j) (R.take j) lev r c o := by
        rcases hc1 with z | z
        · exact ⟨none, fun q hq _ ha => by
            have := hc2 (lev q + 1) (List.mem_map_of_mem (f := fun q => lev q + 1) (List.mem_filter.mpr ⟨hq, ha⟩))
            omega, .inl ⟨z, rfl⟩⟩
        · obtain ⟨q, hq, eq⟩ := List.mem_map.mp z
          obtain ⟨hq1, hq2⟩ := List.mem_filter.mp hq
          exact ⟨some q, fun q2 hq2 _ ha => by
            have := hc2 (lev q2 + 1) (List.mem_map_of_mem (f := fun q => lev q + 1) (List.mem_filter.mpr ⟨hq2, ha⟩))
            omega, .inr ⟨q, hq1, hq2, eq.symm, rfl⟩⟩
      obtain ⟨o, inn⟩ := inn
      have L := h2.snoc nr (irr r) back inn
      refine ⟨Ex.mut (e'.trans e46) hkn, ?_, nset lev r c, nset ahd r o, _, _, _, rfl, ?_, by rw [eTk]; exact L⟩
      · obtain ⟨g, z1, z2⟩ := hPo
        have ne1 : pd ≠ kn := fun z => by rw [z, h1] at z1; cases z1
        refine ⟨g, by rw [upd_ne ne1]; exact e46 _ _ z1, fun q hq => ?_⟩
        obtain ⟨b, y1, y2, y3⟩ := z2 q hq
        exact ⟨b, y1, by rw [upd_ne y3]; exact e46 _ _ y2, y3⟩
      · rw [upd_same, eTk, List.map_append, List.map_append]
        congr 2
        congr 1
        · rw [List.map_map, List.map_map]
          refine List.map_congr_left fun q hq => ?_
          show V.int ((lev q + 1 : Nat) : Int) = V.int ((nset lev r c q + 1 : Nat) : Int)
          rw [nset_ne (fun (e : q = r) => nr (e ▸ hq))]
        · show [V.int (1 + (c : Int))] = [V.int ((nset lev r c r + 1 : Nat) : Int)]
          rw [nset_same]
          congr 2
          omega
    · rintro σ' H' ⟨e', hPo, lev, ahd, v3, v4, v5, rfl, h1, h2⟩
      rw [hlen0, List.take_length] at h1 h2
      obtain ⟨M, hM⟩ := exists_count R lev
      refine s_ret (ev_max0 (K := K) (m := M) (ev_var rfl) h1 (by rw [List.length_map]; omega) ?_ fun x hx => ?_) fun H2' e2' => k lev ahd M H2' h2 hM (e'.trans e2')
      · rcases Classical.em (R = []) with z | z
        · exact .inl (hM.nil z)
        · obtain ⟨r, hr, e⟩ := hM.hit z
          exact .inr (by rw [← e]; exact List.mem_map_of_mem (f := fun r => lev r + 1) hr)
      · obtain ⟨r, hr, e⟩ := List.mem_map.mp hx
        have := hM.lt r hr
        omega
end
end Mv
/-! _law_are_right. -/
namespace Mv
open PySem PySem.Spec PyProof.Rows L2 Evl
theorem lev_hit {Ls : List (List (List Int))} {R : List (List Int)} {lev : List Int → Nat} {ahd : List Int → Option (List Int)} {M : Nat} (L : LevOn Ls R lev ahd) (hM : IsCount R lev M) : ∀ i, i < M → ∃ r ∈ R, lev r = i := by
  have down : ∀ k, ∀ r ∈ R, lev r = k → ∀ i, i ≤ k → ∃ q ∈ R, lev q = i := by
    intro k
    induction k with
    | zero =>
      intro r hr e i hi
      exact ⟨r, hr, by omega⟩
    | succ k ih =>
      intro r hr e i hi
      by_cases h : i = k + 1
      · exact ⟨r, hr, by omega⟩
      · rcases L.how r hr with ⟨z, _⟩ | ⟨q, hq, _, h2, _⟩
        · omega
        · exact ih q hq (by omega) i (by omega)
  intro i hi
  have hne : R ≠ [] := fun z => by have := hM.nil z; omega
  obtain ⟨r, hr, e⟩ := hM.hit hne
  exact down (lev r) r hr rfl i (by omega)
def flatLev (R : List (List Int)) (lev : List Int → Nat) (M : Nat) : List (List Int) := ((List.range M).map fun i => R.filter fun r => decide (lev r = i)).flatten
theorem flat_perm (R : List (List Int)) (lev : List Int → Nat) : ∀ M, (flatLev R lev M).Perm (R.filter fun r => decide (lev r < M))
  | 0 => by
    have : (R.filter fun r => decide (lev r < 0)) = [] := List.filter_eq_nil_iff.mpr fun r _ => by simp
    rw [this]
    exact .refl _
  | M + 1 => by
    have e : flatLev R lev (M + 1) = flatLev R lev M ++ R.filter fun r => decide (lev r = M) := by
      unfold flatLev
      rw [List.range_succ, List.map_append, List.flatten_append]
      simp
    rw [e]
    have z := List.filter_append_perm (fun r => decide (lev r < M)) (R.filter fun r => decide (lev r < M + 1))
    rw [List.filter_filter, List.filter_filter] at z
    have z1 : (R.filter fun r => decide (lev r < M) && decide (lev r < M + 1)) = R.filter fun r => decide (lev r < M) := List.filter_congr fun r _ => by
      by_cases h : lev r < M
      · rw [decide_eq_true h, decide_eq_true (by omega)] <;> rfl
      · rw [decide_eq_false h] <;> rfl
    have z2 : (R.filter fun r => !decide (lev r < M) && decide (lev r < M + 1)) = R.filter fun r => decide (lev r = M) := List.filter_congr fun r _ => by
      by_cases h : lev r = M
      · rw [decide_eq_true h, decide_eq_false (by omega), decide_eq_true (by omega)] <;> rfl
      · rw [decide_eq_false h]
        by_cases h2 : lev r < M
        · rw [decide_eq_true h2] <;> rfl
        · rw [decide_eq_false h2, decide_eq_false (by omega)] <;> rfl
    rw [z1, z2] at z
    exact ((flat_perm R lev M).append_right _).trans z
theorem flat_all {R : List (List Int)} {lev : List Int → Nat} {M : Nat} (h : ∀ r ∈ R, lev r < M) : (flatLev R lev M).Perm R := by
  have z := flat_perm R lev M
  have e : (R.filter fun r => decide (lev r < M)) = R := List.filter_eq_self.mpr fun r hr => decide_eq_true (h r hr)
  rwa [e] at z
theorem chn_at {Ls : List (List (List Int))} : ∀ {ds : List (List Int)}, Chn Ls ds → ∀ (i : Nat) (q r : List Int), ds[i]? = some q → ds[i + 1]? = some r → Ah Ls q r = true
  | [], _, i, q, r, h, _ => by simp at h
  | [_], _, i, q, r, _, h => by simp at h
  | a :: b :: l, hc, 0, q, r, h1, h2 => by
    cases (Option.some.inj (show some _ = some q from h1))
    cases (Option.some.inj (show some _ = some r from h2))
    exact hc.1
  | a :: b :: l, hc, i + 1, q, r, h1, h2 => chn_at (ds := b :: l) hc.2 i q r h1 h2
/-- the levels as a list of lists -/
def LevV (H : Hp) (y : V) (R : List (List Int)) (lev : List Int → Nat) (M : Nat) : Prop := ∃ l ys, y = .ref l ∧ H l = some (.lst ys) ∧ ys.length = M ∧ ∀ (i : Nat) (z : V), ys[i]? = some z → LRw H z (R.filter fun r => decide (lev r = i))
theorem LevV.ex {H H' : Hp} {y : V} {R : List (List Int)} {lev : List Int → Nat} {M : Nat} (h : LevV H y R lev M) (e : Ex H H') : LevV H' y R lev M := let ⟨l, ys, h1, h2, h3, h4⟩ := h; ⟨l, ys, h1, e _ _ h2, h3, fun i z hz => (h4 i z hz).ex e⟩
theorem lists_of {H : Hp} : ∀ (ys : List V) (f : Nat → List (List Int)) (k : Nat), (∀ (i : Nat) (z : V), ys[i]? = some z → LRw H z (f (k + i))) → ∃ ls : List (Addr × List V), ys = ls.map (fun p => V.ref p.1) ∧ (∀ p ∈ ls, H p.1 = some (.lst p.2)) ∧ Paired (IsRow H) (ls.map (·.2)).flatten ((List.range' k ys.length).map f).flatten
  | [], f, k, _ => ⟨[], rfl, fun p h => (by cases h), .nil⟩
  | y :: ys, f, k, h => by
    obtain ⟨ls, e1, e2, e3⟩ := lists_of ys f (k + 1) fun i z hz => by
      have := h (i + 1) z hz
      have e : k + (i + 1) = k + 1 + i := by omega
      rw [e] at this
      exact this
    obtain ⟨b, zs, z1, z2, z3⟩ := h 0 y rfl
    refine ⟨(b, zs) :: ls, by rw [List.map_cons, e1, z1] <;> simp, fun p hp => ?_, ?_⟩
    · rcases List.mem_cons.mp hp with e | hp
      · rw [e]; exact z2
      · exact e2 p hp
    · rw [List.length_cons, List.range'_succ, List.map_cons, List.map_cons, List.flatten_cons, List.flatten_cons]
      exact Paired.append z3 e3
section
variable {K : PySem.W.Frag} {σ : L2.St} {H H' : Hp} {ta tb tc te tl tx : TE} {t u : TT} {x y z v : V} {D : Ends}
theorem ep_sum {R : List (List Int)} {lev : List Int → Nat} {M : Nat} (ha : Ev ta σ H y) (hy : LevV H y R lev M) (hz : (flatLev R lev M).length ≤ 1000) : EvP (tCB rSumL (tCons ta (tCons (tLst tNil) tNil))) σ H (fun v H2 => Rws H2 v (flatLev R lev M)) := fun H1 e Q q =>
  ha H1 e _ fun H2 e2 => ⟨Nat.zero_le _, fun s hs => by
    have e3 : Ex H2 (upd H2 s (.lst [])) := Ex.new hs
    obtain ⟨l, ys, rfl, hl, hM, hL⟩ := hy.ex (e.trans (e2.trans e3))
    obtain ⟨ls, g1, g2, g3⟩ := lists_of ys (fun i => R.filter fun r => decide (lev r = i)) 0 fun i z hz => by
      rw [Nat.zero_add]
      exact hL i z hz
    rw [hM, ← List.range_eq_range'] at g3
    have g3 : Paired (IsRow (upd H2 s (.lst []))) (ls.map (·.2)).flatten (flatLev R lev M) := g3
    have len := Paired.length g3
    refine ⟨l, s, ls, [], rfl, by rw [hl, g1], g2, upd_same, ?_, fun hn => ?_, fun p hp => ?_⟩
    · rw [List.length_nil, Nat.zero_add, len]
      exact sz_of (by omega)
    · refine q _ _ (e2.trans e3) ⟨s, [], rfl, .inl upd_same, ?_⟩
      rw [hn] at g3
      exact g3
    · have e4 : Ex (upd H2 s (.lst [])) (upd (upd H2 s (.lst [])) p (.lst ([] ++ (ls.map (·.2)).flatten))) := Ex.new hp
      refine q _ _ ((e2.trans e3).trans e4) ⟨p, _, rfl, .inl upd_same, ?_⟩
      rw [List.nil_append]
      exact Paired.imp (fun _ _ h => h.ex e4) g3⟩
theorem ef_sortedP {n : Nat} {rs : List (List Int)} (ha : EvP ta σ H (fun x H2 => Rws H2 x rs)) (ho : ∀ r ∈ rs, OkRow n r) (h60 : rs.length < 64) : EvF (tCB (rSortS K n 1000) (tCons ta tNil)) σ H (NewRows fun cs => SortedRows cs rs) := fun H1 e Q q =>
  ha H1 e _ fun x H2 e2 hx => by
    have z := ef_sorted (K := K) (σ := [some x]) (ta := tVar 0) (ev_var rfl) hx ho h60
    obtain ⟨v, hv, h⟩ := z H2 (Ex.refl H2) Q fun p H3 hp e3 h => q p H3 (fresh_back e2 hp) (e2.trans e3) h
    have hv : some (some x) = some (some v) := hv
    cases hv
    exact h
theorem et_sortedNeP {n : Nat} {rs qs : List (List Int)} (ha : EvP ta σ H (fun x H2 => Rws H2 x rs)) (hb : EvP tb σ H (fun x H2 => Rws H2 x qs)) (ho : ∀ r ∈ rs, OkRow n r) (h60 : rs.length < 64) (pm : qs.Perm rs) :
    EvT (tTest (tOp (rNeD K) (tCB (rSortS K n 1000) (tCons ta tNil)) (tCB (rSortS K n 1000) (tCons tb tNil)))) σ H false := fun H1 e Q q =>
  ef_sortedP ha ho h60 H1 e _ fun p H2 _ e2 ⟨cs, xs, h1, h2, h3⟩ =>
    ef_sortedP hb (fun r hr => ho r (pm.mem_iff.mp hr)) (by rw [pm.length_eq]; exact h60) H2 (e.trans e2) _ fun p' H3 _ e3 ⟨ds, ys, g1, g2, g3⟩ => by
      have e0 : cs = ds := sorted_same h1 g1 ho pm
      subst e0
      refine ⟨.list (cs.map rd), .list (cs.map rd), .lst (sq_of (e3 _ _ h2)) (dp_rows (Paired.imp (fun _ _ z => z.ex e3) h3)), .lst (sq_of g2) (dp_rows g3), shaped_rows _, shaped_rows _, false, ?_, q H3 (e2.trans e3)⟩
      rw [SeqAt.eqv_refl _ (SeqAt.canLay_of_shaped (shaped_rows cs))] <;> rfl
theorem mem_cutV {xs : List V} {lo hi : Option Int} {x : V} (h : x ∈ cutV xs lo hi) : x ∈ xs := by
  unfold cutV at h
  exact List.mem_of_mem_drop (List.mem_of_mem_take h)
end
section
variable {P : Program} {w : World} {K : PySem.W.Frag} {mg : Str → Option Value} {base : Heap} {a : Nat → Addr} {d : Nat → FuncData} {tk : Nat → Tok}
def sp__law_are_right : Sp := fun vs H Q _ => ∃ (x : V) (f : Addr) (y : V) (Ls : List (List (List Int))) (R : List (List Int)) (n : Nat) (ys : List V) (ds : List (List Int)) (lev : List Int → Nat) (ahd : List Int → Option (List Int)) (M : Nat), vs = [x, .ref f, y] ∧ LLs H x Ls ∧ OkLists n Ls ∧ Ls[0]? = some R ∧
  H f = some (.lst ys) ∧ Paired (IsRow H) ys ds ∧ Chn Ls ds ∧ (∀ q ∈ ds, q ∈ R) ∧ ds.length = M ∧ LevOn Ls R lev ahd ∧ IsCount R lev M ∧ LevV H y R lev M ∧ RetV (.bl true) H Q
theorem ok__law_are_right (T : All K mg a d tk) : FnOk P w K mg base CX0 2 (a 24) (d 24) ["many", "found", "levels"] sp__law_are_right := by
  refine T.F__law_are_right.fn.ok sc__law_are_right (fun vs H Q E h => ?_) (fun cdv A outer s H vs Q E hr h => ?_)
  · obtain ⟨x, f, y, _, _, _, _, _, _, _, _, rfl, _⟩ := h
    rfl
  · obtain ⟨x, f, y, Ls, R, dd, ys, ds, lev, ahd, M, rfl, hx, ho, hR, hf, hfd, hch, hsub, hdM, L, hM, hy, k⟩ := h
    have nd := sc__law_are_right.nd
    have hu := hu_of hr
    have hu0 := hr.units0
    have hu64 := hr.units
    have hRm : R ∈ Ls := List.mem_of_getElem? hR
    have oR : OkRows dd R := ho.ok R hRm
    have hR60 := oR.few
    have hdd := oR.w1
    have hMR := count_few L hRm hM
    have lys : ys.length = ds.length := Paired.length hfd
    obtain ⟨p, xs, rfl, hs, hp⟩ := id hx
    obtain ⟨x0, hx0, hr0⟩ := Paired.at_r hp 0 R hR
    obtain ⟨lv, lys2, rfl, hlv, hlM, hlL⟩ := id hy
    refine ⟨_, (pss_cons (ps_set (i := 3) nd rfl (Or.inr rfl) (pe_call (ok__law_places T) (hr.mono (by decide)) rfl T.F__law_places.m T.F__law_places.kp T.F__law_places.b .nil pass0 (pa_cons (pv 0) pa_nil)))
 (pss_cons (ps_if (pt_cmpR (op_neNil hu0) (pe_lc (own := [("row", 5)]) (g := (gName 5)) rfl nd (pi_list (pv 1)) (blkOk_by (N := N__law_are_right) (sc := defScope s__law_are_right) (by decide +kernel)) (fun _ _ _ _ _ => (pg_name (i := 5) nd rfl (Or.inl rfl))) (fun _ _ _ _ _ => (pts_one (pt_cmp (pc_dnotin hu (pv 5) (pv 3))))) (fun _ _ _ _ _ => (pv 5))) (pe_lst pa_nil) (nomark _))
 (pss_one (ps_ret pe_bl))
 pss_nil)
 (pss_cons (ps_for PassesOwn.never rfl (pi_enum rfl T.n_enumerate (pa_cons (pv 1) pa_nil)) (pg_tup rfl (pgs_cons (pg_name (i := 4) nd rfl (Or.inl rfl)) (pgs_cons (pg_name (i := 5) nd rfl (Or.inl rfl)) pgs_nil)))
 (pss_one (ps_if (PW.pt (pw_and (pt_cmpR op_gt (pv 4) pe_int (nomark _)) (pw_and1 (pt_not (pt_val (pe_call (ok__law_ahead T) (hr.mono (by decide)) rfl T.F__law_ahead.m T.F__law_ahead.kp T.F__law_ahead.b .nil pass0 (pa_cons (pv 3) (pa_cons (pe_ix ix_list (pv 1) (pe_op op_sub (pv 4) pe_int) (fun _ _ => rfl)) (pa_cons (pv 5) pa_nil)))))))))
 (pss_one (ps_ret pe_bl))
 pss_nil)))
 (pss_cons (ps_if (PW.pt (pw_or (pt_cmpR op_ne (pe_callB call_len_seq (by rfl) T.n_len PySem.boot_len (pa_cons (pv 2) pa_nil)) (pe_callB call_len_seq (by rfl) T.n_len PySem.boot_len (pa_cons (pv 1) pa_nil)) (nomark _)) (pw_or1 (pt_cmpR (op_neD hu64) (pe_callB (cr_sortS (d := dd) (B := 1000) hdd) (by rfl) T.n_sorted PyProof.Rows.boot_sorted (pa_cons (pe_callB (cr_sumL rfl) (by rfl) T.n_sum PyProof.Rows.boot_sum (pa_cons (pv 2) (pa_cons (pe_lst pa_nil) pa_nil))) pa_nil)) (pe_callB (cr_sortS (d := dd) (B := 1000) hdd) (by rfl) T.n_sorted PyProof.Rows.boot_sorted (pa_cons (pe_ix ix_list (pv 0) pe_int (fun _ _ => rfl)) pa_nil)) (nomark _)))))
 (pss_one (ps_ret pe_bl))
 pss_nil)
 (pss_cons (ps_for PassesOwn.never rfl (pi_list (pv 2)) (pg_name (i := 6) nd rfl (Or.inl rfl))
 (pss_cons (ps_if (PW.pt (pw_or (pt_not (pt_val (pe_callB call_isi (by rfl) T.n_isinstance PyProof.Rows.boot_isinstance (pa_cons (pv 6) (pa_cons (pe_bltn (v := .ty "list") rfl T.n_list PyProof.Rows.boot_list rfl) pa_nil))))) (pw_or1 (pt_cmpR (op_eqNil hu0) (pv 6) (pe_lst pa_nil) (nomark _)))))
 (pss_one (ps_ret pe_bl))
 pss_nil)
 (pss_one (ps_for PassesOwn.never rfl (pi_enum rfl T.n_enumerate (pa_cons (pv 6) pa_nil)) (pg_tup rfl (pgs_cons (pg_name (i := 4) nd rfl (Or.inl rfl)) (pgs_cons (pg_name (i := 7) nd rfl (Or.inl rfl)) pgs_nil)))
 (pss_one (ps_for PassesOwn.never rfl (pi_list (pe_slice sl_list (pv 6) (po_some (pe_op op_add (pv 4) pe_int)) po_none)) (pg_name (i := 8) nd rfl (Or.inl rfl))
 (pss_one (ps_if (PW.pt (pw_or (pt_val (pe_call (ok__law_ahead T) (hr.mono (by decide)) rfl T.F__law_ahead.m T.F__law_ahead.kp T.F__law_ahead.b .nil pass0 (pa_cons (pv 3) (pa_cons (pv 7) (pa_cons (pv 8) pa_nil))))) (pw_or1 (pt_val (pe_call (ok__law_ahead T) (hr.mono (by decide)) rfl T.F__law_ahead.m T.F__law_ahead.kp T.F__law_ahead.b .nil pass0 (pa_cons (pv 3) (pa_cons (pv 8) (pa_cons (pv 7) pa_nil))))))))
 (pss_one (ps_ret pe_bl))
 pss_nil))))))))
 (pss_one (ps_ret pe_bl))))))), ?_⟩
    refine ⟨_, rfl, .ref p, Ls, R, dd, rfl, hx, ho, hR, fun pd H1 _ e1 hPos => ?_⟩
    have hmem : ∀ (i : Nat) (z : V), ys[i]? = some z → ∃ q, ds[i]? = some q ∧ IsRow H z q ∧ q ∈ R := fun i z hz => by
      obtain ⟨q, h1, h2⟩ := Paired.at_l hfd i z hz
      exact ⟨q, h1, h2, hsub q (List.mem_of_getElem? h1)⟩
    have c1 := el_lcL (K := K) (σ := [some (.ref p), some (.ref f), some (.ref lv), some (.ref pd), none, none, none, none, none]) (tl := tVar 1) (t := tB (tDNotIn (tVar 5) (tVar 3))) (te := tVar 5) (j := 5) (vs := [5]) (xs := ys) (H := H1) (fun _ => false) (fun _ => .non) (ev_var rfl) (sq_of (e1 _ _ hf)) (by omega) (fun _ => rfl)
      (fun i z H2 e2 hz Hx ex Q' q' => by
        obtain ⟨q, _, h2, h3⟩ := hmem i z hz
        obtain ⟨g, g1, _⟩ := hPos
        exact ⟨_, rfl, _, rfl, pd, some (g q), rfl, dget_row ((e2.trans ex) _ _ g1) (h2.ex (e1.trans (e2.trans ex))) h3, false, rfl, q' Hx (Ex.refl Hx)⟩)
      (fun i z H2 e2 hz h => nomatch h)
    have c1e : given ys.length (fun _ => false) (fun _ => V.non) = [] := by
      unfold given
      rw [List.filter_eq_nil_iff.mpr fun _ _ => by decide] <;> rfl
    rw [c1e] at c1
    refine q_when (et_test (ev_neNilN c1)) (fun h => nomatch h) fun _ H2 e2 => ?_
    have e12 := e1.trans e2
    have hPos2 := hPos.ex e2
    refine ⟨_, rfl, f, ys, rfl, sq_of (e12 _ _ hf), ?_⟩
    let Fv : Nat → L2.St → Hp → Prop := fun i σ' H' => Ex H2 H' ∧ ∃ v4 v5, σ' = [some (.ref p), some (.ref f), some (.ref lv), some (.ref pd), v4, v5, none, none, none]
    refine for_it (walk_enum (K := K) (a := f) (xs := ys)) Fv ⟨Ex.refl H2, _, _, rfl⟩ (fun j σ' H' _ ⟨e', _⟩ => sq_of ((e12.trans e') _ _ hf)) ?_ ?_
    · rintro j y σ' H' H'' hj ⟨e', v4, v5, rfl⟩ ⟨T0, x1, x2, rfl, hT0, rfl, ex1, ex2⟩
      cases ex1
      have eT0 : Ex H' (upd H' T0 (.tup [.int (j : Nat), x2])) := Ex.new hT0
      obtain ⟨r, hr, hrow, mr⟩ := hmem j x2 ex2
      refine ⟨T0, _, rfl, st_of upd_same, rfl, _, _, rfl, _, _, rfl, rfl, ?_⟩
      have eA := e12.trans (e'.trans eT0)
      refine s_when (b := decide ((0 : Int) < (j : Int)) && !(if 0 < j then true else false)) (et_and (et_I0 (ev_var rfl) ev_c) fun hb => et_not (et_B ?_)) (fun h => ?_) fun _ H5 e5 => ⟨(e'.trans eT0).trans e5, _, _, rfl⟩
      · have hj0 : 0 < j := by have := of_decide_eq_true hb; omega
        obtain ⟨i, rfl⟩ : ∃ i, j = i + 1 := ⟨j - 1, by omega⟩
        have hi : i < ys.length := by omega
        obtain ⟨q, hq, hqrow, mq⟩ := hmem i _ (List.getElem?_eq_getElem hi)
        rw [if_pos hj0]
        refine ev_is (ev_call (ea_cons (ev_var rfl) (ea_cons (ev_ixL (i := (i : Int)) (ev_var rfl) (ev_is (ev_I0 (ev_var rfl) ev_c) ?_) (sq_of (eA _ _ hf)) (atI_nat (List.getElem?_eq_getElem hi))) (ea_cons (ev_var rfl) ea_nil))) (spv__law_ahead (hPos2.ex (e'.trans eT0)) (hqrow.ex eA) (hrow.ex eA) mq mr ho.six)) ?_
        · congr 1
          omega
        · rw [chn_at hch i q r hq hr]
      · by_cases hj0 : 0 < j
        · rw [if_pos hj0] at h
          simp at h
        · rw [decide_eq_false (by omega)] at h
          cases h
    · rintro σ' H3 ⟨e', v4, v5, rfl⟩
      have e13 := e12.trans e'
      have hflat := flat_all hM.lt
      refine q_when (et_or (et_test (ev_op (ev_lenS (ev_var rfl) (.inl (e13 _ _ hlv))) (ev_lenS (ev_var rfl) (.inl (e13 _ _ hf))) (rv_ne rfl))) fun _ => et_sortedNeP (n := dd) (ep_sum (ev_var rfl) (hy.ex e13) (by rw [hflat.length_eq]; omega)) (fun Hx ex Q' q' => ev_ixL (K := K) (i := 0) (ev_var rfl) ev_c (sq_of (e13 _ _ hs)) (atI_nat (j := 0) hx0) Hx ex Q' fun H' e2' => q' _ H' e2' (hr0.rws.ex (e13.trans (ex.trans e2')))) (fun r hr => oR.row r (hflat.mem_iff.mp hr)) (by rw [hflat.length_eq]; omega) hflat.symm) (fun h => ?_) fun _ H4 e4 => ?_
      · rw [hlM, lys, hdM] at h
        simp at h
      · have e14 := e13.trans e4
        have hPos4 := hPos2.ex (e'.trans e4)
        let Gv : Nat → L2.St → Hp → Prop := fun i σ' H' => Ex H4 H' ∧ ∃ v4 v5 v6 v7 v8, σ' = [some (.ref p), some (.ref f), some (.ref lv), some (.ref pd), v4, v5, v6, v7, v8]
        refine q_forLn (a := lv) (xs := lys2) (ev_var rfl) (sq_of (e14 _ _ hlv)) Gv (fun H5 e5 => ⟨e5, _, _, _, _, _, rfl⟩) (fun i σ' H' _ ⟨e', _⟩ => sq_of ((e14.trans e') _ _ hlv)) ?_ ?_
        · rintro i y σ' H5 hy5 ⟨e5, v4, v5, v6, v7, v8, rfl⟩
          obtain ⟨b, zs, rfl, hb, hzs⟩ := hlL i y hy5
          have e15 := e14.trans e5
          have hi : i < M := by rw [← hlM]; exact (List.getElem?_eq_some_iff.mp hy5).1
          have hne : zs ≠ [] := fun z => by
            obtain ⟨r, hr, e⟩ := lev_hit L hM i hi
            have hm : r ∈ R.filter fun r => decide (lev r = i) := List.mem_filter.mpr ⟨hr, decide_eq_true e⟩
            rw [z] at hzs
            have l0 := Paired.length hzs
            have := List.length_pos_of_mem hm
            rw [← l0] at this
            exact absurd this (by simp)
          have zrow : ∀ z ∈ zs, ∃ q, IsRow H z q ∧ q ∈ R ∧ lev q = i := fun z hz => by
            obtain ⟨q, h1, h2⟩ := Paired.mem_l hzs z hz
            obtain ⟨h3, h4⟩ := List.mem_filter.mp h1
            exact ⟨q, h2, h3, of_decide_eq_true h4⟩
          refine q_when (et_or (et_not (et_B (ev_isi (ev_var rfl) (ty_lst (e15 _ _ hb)) (kT (b := true) (by decide +kernel))))) fun _ => et_test (ev_eqNil (ev_var rfl) (sq_of (e15 _ _ hb)))) (fun h => ?_) fun _ H6 e6 => ?_
          · cases zs with
            | nil => exact absurd rfl hne
            | cons _ _ => simp at h
          · have e16 := e15.trans e6
            refine ⟨_, rfl, b, zs, rfl, sq_of (e16 _ _ hb), ?_⟩
            let Jv : Nat → L2.St → Hp → Prop := fun j σ' H' => Ex H6 H' ∧ ∃ v4 v7 v8, σ' = [some (.ref p), some (.ref f), some (.ref lv), some (.ref pd), v4, v5, some (.ref b), v7, v8]
            refine for_it (walk_enum (K := K) (a := b) (xs := zs)) Jv ⟨Ex.refl H6, _, _, _, rfl⟩ (fun j σ' H' _ ⟨e', _⟩ => sq_of ((e16.trans e') _ _ hb)) ?_ ?_
            · rintro j y σ' H7 H7' hj ⟨e7, v4, v7, v8, rfl⟩ ⟨T0, x1, x2, rfl, hT0, rfl, ex1, ex2⟩
              cases ex1
              have eT0 : Ex H7 (upd H7 T0 (.tup [.int (j : Nat), x2])) := Ex.new hT0
              refine ⟨T0, _, rfl, st_of upd_same, rfl, _, _, rfl, _, _, rfl, rfl, ?_⟩
              obtain ⟨q, q1, q2, q3⟩ := zrow x2 (List.mem_of_getElem? ex2)
              have e17 := e16.trans (e7.trans eT0)
              refine s_forNL (D := { nx := Jv (j + 1), rt := Q, ct := Jv (j + 1), bk := _ }) (el_sl (K := K) (lo := some ((j : Int) + 1)) (hi := none) (ev_var rfl) (eo_some (ev_I0 (ev_var rfl) ev_c)) eo_none (sq_of (e17 _ _ hb))) (fun pz k2 σ' H' => Ex (upd H7 T0 (.tup [.int (j : Nat), x2])) H' ∧ H' pz = some (.lst (cutV zs (some ((j : Int) + 1)) none)) ∧ ∃ v8, σ' = [some (.ref p), some (.ref f), some (.ref lv), some (.ref pd), some (.int (j : Nat)), v5, some (.ref b), some x2, v8])
                (fun pz H8 _ e8 h8 => ⟨e8, h8, _, rfl⟩) (fun pz i2 σ' H' _ ⟨_, h, _⟩ => sq_of h) ?_ ?_
              · rintro pz i2 z2 σ' H8 hz2 ⟨e8, h8, v8, rfl⟩
                obtain ⟨q', q1', q2', q3'⟩ := zrow z2 (mem_cutV (List.mem_of_getElem? hz2))
                have e18 := e17.trans e8
                have hP8 := hPos4.ex ((e5.trans e6).trans ((e7.trans eT0).trans e8))
                have n1 : Ah Ls q q' = false := by
                  cases z : Ah Ls q q' with
                  | false => rfl
                  | true => have := L.lt q' q2' q q2 z; omega
                have n2 : Ah Ls q' q = false := by
                  cases z : Ah Ls q' q with
                  | false => rfl
                  | true => have := L.lt q q2 q' q2' z; omega
                refine s_when (et_or (et_B (ev_call (ea_cons (ev_var rfl) (ea_cons (ev_var rfl) (ea_cons (ev_var rfl) ea_nil))) (spv__law_ahead hP8 (q1.ex e18) (q1'.ex e18) q2 q2' ho.six))) fun _ => et_B (ev_call (ea_cons (ev_var rfl) (ea_cons (ev_var rfl) (ea_cons (ev_var rfl) ea_nil))) (spv__law_ahead hP8 (q1'.ex e18) (q1.ex e18) q2' q2 ho.six))) (fun h => ?_) fun _ H9 e9 => ⟨e8.trans e9, e9 _ _ h8, _, rfl⟩
                rw [n1, n2] at h
                cases h
              · rintro pz σ' H8 ⟨e8, h8, v8, rfl⟩
                exact ⟨(e7.trans eT0).trans e8, _, _, _, rfl⟩
            · rintro σ' H7 ⟨e7, v4, v7, v8, rfl⟩
              exact ⟨(e5.trans e6).trans e7, _, _, _, _, _, rfl⟩
        · rintro σ' H5 ⟨e5, v4, v5, v6, v7, v8, rfl⟩
          exact s_ret ev_c fun H6 e6 => k H6 (e14.trans (e5.trans e6))
theorem spv__law_are_right {x y : V} {f : Addr} {Ls : List (List (List Int))} {R : List (List Int)} {n : Nat} {ys : List V} {ds : List (List Int)} {lev : List Int → Nat} {ahd : List Int → Option (List Int)} {M : Nat} {H : Hp} (hx : LLs H x Ls) (ho : OkLists n Ls) (hR : Ls[0]? = some R) (hf : H f = some (.lst ys)) (hfd : Paired (IsRow H) ys ds)
    (hch : Chn Ls ds) (hsub : ∀ q ∈ ds, q ∈ R) (hdM : ds.length = M) (L : LevOn Ls R lev ahd) (hM : IsCount R lev M) (hy : LevV H y R lev M) : SpV sp__law_are_right [x, .ref f, y] H (.bl true) :=
  fun H1 e Q k _ => ⟨x, f, y, Ls, R, n, ys, ds, lev, ahd, M, rfl, hx.ex e, ho, hR, e _ _ hf, Paired.imp (fun _ _ h => h.ex e) hfd, hch, hsub, hdM, L, hM, hy.ex e, k⟩
end
end Mv
/-! The law's draws. -/
namespace Mv
open PySem PySem.Spec PyProof.Rows L2 Evl
/-- all but p stays -/
def ExB (p : Addr) (H H' : Hp) : Prop := ∀ a o, a ≠ p → H a = some o → H' a = some o
theorem Ex.b {p : Addr} {H H' : Hp} (e : Ex H H') : ExB p H H' := fun a o _ h => e a o h
theorem ExB.trans {p : Addr} {H H1 H2 : Hp} (a : ExB p H H1) (b : ExB p H1 H2) : ExB p H H2 := fun x o n h => b x o n (a x o n h)
theorem ExB.refl {p : Addr} (H : Hp) : ExB p H H := fun _ _ _ h => h
theorem ExB.mut {p q : Addr} {H H' : Hp} {o : HO} (e : ExB p H H') (h : H q = none) : ExB p H (upd H' q o) := fun a u n ha => by
  rw [upd_ne (ne_of_none ha h)]
  exact e a u n ha
theorem ExB.own {p : Addr} {H H' : Hp} {o : HO} (e : ExB p H H') : ExB p H (upd H' p o) := fun a u n ha => by
  rw [upd_ne n]
  exact e a u n ha
theorem ExB.back {p q : Addr} {H H' : Hp} (e : ExB p H H') (n : q ≠ p) (h : H' q = none) : H q = none := by
  cases z : H q with
  | none => rfl
  | some o =>
    rw [e q o n z] at h
    cases h
/-- the law's box behind at most n draws of the second kind -/
def BoxAt (H : Hp) (p : Addr) (n : Nat) : Prop := ∃ b0 b1 b2 : Int, H p = some (.lst [.int b0, .int b1, .int b2]) ∧ 0 ≤ b1 ∧ b1 < 2147483629 ∧ 0 ≤ b2 ∧ b2 ≤ (n : Int)
theorem BoxAt.ex {H H' : Hp} {p : Addr} {n : Nat} (h : BoxAt H p n) (e : Ex H H') : BoxAt H' p n := let ⟨b0, b1, b2, h1, h2⟩ := h; ⟨b0, b1, b2, e _ _ h1, h2⟩
theorem BoxAt.mono {H : Hp} {p : Addr} {n m : Nat} (h : BoxAt H p n) (l : n ≤ m) : BoxAt H p m := let ⟨b0, b1, b2, h1, h2, h3, h4, h5⟩ := h; ⟨b0, b1, b2, h1, h2, h3, h4, by omega⟩
theorem BoxAt.upd {H : Hp} {p q : Addr} {n : Nat} {o : HO} (h : BoxAt H p n) (ne : p ≠ q) : BoxAt (L2.upd H q o) p n := let ⟨b0, b1, b2, h1, h2⟩ := h; ⟨b0, b1, b2, by rw [upd_ne ne]; exact h1, h2⟩
theorem BoxAt.some {H : Hp} {p : Addr} {n : Nat} (h : BoxAt H p n) : H p ≠ none := fun z => by
  obtain ⟨_, _, _, h1, _⟩ := h
  rw [z] at h1
  cases h1
theorem BoxAt.ne {H : Hp} {p q : Addr} {n : Nat} (h : BoxAt H p n) (hq : H q = none) : p ≠ q := fun z => h.some (z ▸ hq)
theorem IsRow.exB {H H' : Hp} {p : Addr} {n : Nat} {x : V} {r : List Int} (h : IsRow H x r) (hb : BoxAt H p n) (e : ExB p H H') : IsRow H' x r := by
  obtain ⟨b, rfl, h1⟩ := h
  obtain ⟨_, _, _, h2, _⟩ := hb
  exact ⟨b, rfl, e _ _ (fun z => by rw [z, h2] at h1; cases h1) h1⟩
theorem rows_box {H : Hp} {p q : Addr} {n : Nat} {ys : List V} {rs : List (List Int)} (hb : BoxAt H p n) (hq : H q = some (.lst ys)) (hp : Paired (IsRow H) ys rs) : q ≠ p := fun z => by
  obtain ⟨b0, b1, b2, h2, _⟩ := hb
  rw [z, h2] at hq
  injection hq with hq
  injection hq with hq
  subst hq
  cases hp with
  | cons h _ =>
    obtain ⟨_, e, _⟩ := h
    cases e
theorem LRw.exB {H H' : Hp} {p : Addr} {n : Nat} {x : V} {rs : List (List Int)} (h : LRw H x rs) (hb : BoxAt H p n) (e : ExB p H H') : LRw H' x rs := by
  obtain ⟨b, ys, rfl, h1, h2⟩ := h
  exact ⟨b, ys, rfl, e _ _ (rows_box hb h1 h2) h1, Paired.imp (fun _ _ z => z.exB hb e) h2⟩
theorem LRw.upd {H : Hp} {q : Addr} {x : V} {rs : List (List Int)} {o o' : HO} (h : LRw H x rs) (hq : H q = some o) (ne : ∀ xs, o ≠ .tup xs) (hx : x ≠ .ref q) : LRw (L2.upd H q o') x rs := by
  obtain ⟨b, ys, rfl, h1, h2⟩ := h
  exact ⟨b, ys, rfl, by rw [upd_ne (fun z => hx (by rw [z]))]; exact h1, Paired.imp (fun _ _ z => z.upd hq ne) h2⟩
theorem erase_perm {α : Type} : ∀ {l : List α} {i : Nat} (h : i < l.length), (l[i] :: l.eraseIdx i).Perm l
  | _ :: _, 0, _ => List.Perm.refl _
  | a :: l, i + 1, h => by
    have h2 : i < l.length := by simpa using h
    have ih := erase_perm (l := l) (i := i) h2
    show (l[i] :: a :: l.eraseIdx i).Perm (a :: l)
    exact (List.Perm.swap _ _ _).trans (ih.cons a)
theorem lst_ntup (ys : List V) : ∀ xs, HO.lst ys ≠ .tup xs := fun _ z => by cases z
theorem Paired.take {α β : Type} {F : α → β → Prop} : ∀ {xs : List α} {ys : List β} (n : Nat), Paired F xs ys → Paired F (xs.take n) (ys.take n)
  | _, _, 0, _ => by rw [List.take_zero, List.take_zero]; exact .nil
  | _, _, _ + 1, .nil => .nil
  | _, _, n + 1, .cons h t => .cons h (Paired.take n t)
theorem Paired.drop {α β : Type} {F : α → β → Prop} : ∀ {xs : List α} {ys : List β} (n : Nat), Paired F xs ys → Paired F (xs.drop n) (ys.drop n)
  | _, _, 0, h => h
  | _, _, _ + 1, .nil => .nil
  | _, _, n + 1, .cons _ t => Paired.drop n t
theorem Paired.erase {α β : Type} {F : α → β → Prop} : ∀ {xs : List α} {ys : List β} (n : Nat), Paired F xs ys → Paired F (xs.eraseIdx n) (ys.eraseIdx n)
  | _, _, _, .nil => .nil
  | _, _, 0, .cons _ t => t
  | _, _, n + 1, .cons h t => .cons h (Paired.erase n t)
section
variable {P : Program} {w : World} {K : PySem.W.Frag} {mg : Str → Option Value} {base : Heap} {a : Nat → Addr} {d : Nat → FuncData} {tk : Nat → Tok}
/-! _law_cell, _law_box -/
def sp__law_cell (K : PySem.W.Frag) : Sp := fun vs H Q _ => ∃ (p : Addr) (ns : List Int) (k : Nat), vs = [.ref p, .int (k : Int)] ∧ SqL K H p (ns.map V.int) ∧ k ≤ 100 ∧ ∀ c, RetV (.int c) H Q
theorem ok__law_cell (T : All K mg a d tk) : FnOk P w K mg base CX0 1 (a 15) (d 15) ["script", "k"] (sp__law_cell K) := by
  refine T.F__law_cell.fn.ok sc__law_cell (fun vs H Q E h => ?_) (fun cdv A outer s H vs Q E hr h => ?_)
  · obtain ⟨p, ns, k, rfl, _⟩ := h
    rfl
  · obtain ⟨p, ns, k, rfl, hs, hk, kk⟩ := h
    have nd := sc__law_cell.nd
    refine ⟨_, (pss_cons (ps_if (pt_cmpR op_lt (pv 1) (pe_callB call_len_seq (by rfl) T.n_len PySem.boot_len (pa_cons (pv 0) pa_nil)) (nomark _))
 (pss_one (ps_ret (pe_ix ix_list (pv 0) (pv 1) (fun _ _ => rfl))))
 pss_nil)
 (pss_one (ps_ret (pe_op op_add (pe_op op_mul pe_int (pv 1)) pe_int)))), ?_⟩
    refine q_when (et_I0 (ev_var rfl) (ev_len (ev_var rfl) hs)) (fun hb H1 e1 => ?_) fun hb H1 e1 => ?_
    · have hb := of_decide_eq_true hb
      have hlt : k < (ns.map V.int).length := by omega
      obtain ⟨c, hc⟩ : ∃ c, (ns.map V.int)[k]? = some (V.int c) := by
        rw [List.length_map] at hlt
        exact ⟨ns[k], by rw [List.getElem?_map, List.getElem?_eq_getElem hlt] <;> rfl⟩
      exact s_ret (ev_ixL (i := (k : Int)) (ev_var rfl) (ev_var rfl) (ex_l e1 hs) (atI_nat hc)) fun H2 e2 => kk c H2 (e1.trans e2)
    · exact s_ret (ev_I0 (ev_I ev_c (ev_var rfl) (.inl ⟨by decide, by decide⟩)) ev_c) fun H2 e2 => kk _ H2 (e1.trans e2)
def sp__law_box : Sp := fun vs H Q _ => ∃ c : Int, vs = [.int c] ∧ ∀ p H2, H p = none → Ex H H2 → BoxAt H2 p 0 → Q (.ref p) H2
theorem ok__law_box (T : All K mg a d tk) : FnOk P w K mg base CX0 1 (a 16) (d 16) ["cell"] sp__law_box := by
  refine T.F__law_box.fn.ok sc__law_box (fun vs H Q E h => ?_) (fun cdv A outer s H vs Q E hr h => ?_)
  · obtain ⟨c, rfl, _⟩ := h
    rfl
  · obtain ⟨c, rfl, k⟩ := h
    have nd := sc__law_box.nd
    refine ⟨_, (pss_one (ps_ret (pe_lst (pa_cons (pe_callB (call_max2 rfl) (by rfl) T.n_max PyProof.Rows.boot_max (pa_cons pe_int (pa_cons (pe_op op_sub (pv 0) (pe_op op_pow pe_int pe_int)) pa_nil))) (pa_cons (pe_op op_mod (pv 0) pe_int) (pa_cons pe_int pa_nil)))))), ?_⟩
    refine s_retL (el_lst (ea_cons (ev_max2 ev_c (ev_I0 (ev_var rfl) (ev_I (i := 10) (j := 18) ev_c ev_c ⟨by decide, by decide, by decide⟩))) (ea_cons (ev_I (j := 2147483629) (ev_var rfl) ev_c (by show (0 : Int) < 2147483629; decide)) (ea_cons ev_c ea_nil))) (show 3 ≤ 100000 by decide)) fun p H1 hp e h => ?_
    exact k p H1 hp e ⟨_, _, _, h, Int.emod_nonneg _ (by decide), Int.emod_lt_of_pos _ (by decide), Int.le_refl _, Int.le_refl _⟩
/-! _law_take -/
def sp__law_take : Sp := fun vs H Q _ => ∃ (p : Addr) (m : Int) (n : Nat), vs = [.ref p, .int m] ∧ 1 ≤ m ∧ m ≤ 100000 ∧ BoxAt H p n ∧ n ≤ 100000 ∧ ∀ (i : Int) (H2 : Hp), 0 ≤ i → i < m → ExB p H H2 → BoxAt H2 p (n + 1) → Q (.int i) H2
theorem ok__law_take (T : All K mg a d tk) : FnOk P w K mg base CX0 1 (a 17) (d 17) ["box", "many"] sp__law_take := by
  refine T.F__law_take.fn.ok sc__law_take (fun vs H Q E h => ?_) (fun cdv A outer s H vs Q E hr h => ?_)
  · obtain ⟨p, m, n, rfl, _⟩ := h
    rfl
  · obtain ⟨p, m, n, rfl, h1, h2, ⟨b0, b1, b2, hb, c1, c2, c3, c4⟩, hn, k⟩ := h
    have nd := sc__law_take.nd
    refine ⟨_, (pss_cons (ps_if (pt_cmpR op_gt (pe_ix ix_list (pv 0) pe_int (fun _ _ => rfl)) pe_int (nomark _))
 (pss_cons (ps_set (i := 2) nd rfl (Or.inl rfl) (pe_op op_mod (pe_ix ix_list (pv 0) pe_int (fun _ _ => rfl)) (pv 1)))
 (pss_cons (ps_asg (pe_op op_fdivW (pe_ix ix_list (pv 0) pe_int (fun _ _ => rfl)) (pv 1)) (pg_sub (pv 0) pe_int set_list))
 (pss_one (ps_ret (pv 2)))))
 pss_nil)
 (pss_cons (ps_asg (pe_op op_add (pe_ix ix_list (pv 0) pe_int (fun _ _ => rfl)) pe_int) (pg_sub (pv 0) pe_int set_list))
 (pss_cons (ps_set (i := 3) nd rfl (Or.inl rfl) (pe_op op_mod (pe_op op_pow (pe_op op_add (pe_op op_add (pe_ix ix_list (pv 0) pe_int (fun _ _ => rfl)) (pe_op op_mul pe_int (pe_ix ix_list (pv 0) pe_int (fun _ _ => rfl)))) pe_int) pe_int) pe_int))
 (pss_cons (ps_set (i := 3) nd rfl (Or.inl rfl) (pe_op op_mod (pe_op op_pow (pe_op op_add (pv 3) (pe_op op_mul pe_int (pe_ix ix_list (pv 0) pe_int (fun _ _ => rfl)))) pe_int) pe_int))
 (pss_one (ps_ret (pe_op op_mod (pe_op op_fdivW (pv 3) pe_int) (pv 1)))))))), ?_⟩
    have g0 : ∀ {H' : Hp} {σ' : L2.St} {x y z : Int}, σ'[0]? = some (some (.ref p)) → H' p = some (.lst [.int x, .int y, .int z]) → Ev (tOp (rIxL K) (tVar 0) (tC (.int 0))) σ' H' (.int x) := fun hσ h => ev_ixL (i := 0) (ev_var hσ) ev_c (sq_of h) rfl
    have g1 : ∀ {H' : Hp} {σ' : L2.St} {x y z : Int}, σ'[0]? = some (some (.ref p)) → H' p = some (.lst [.int x, .int y, .int z]) → Ev (tOp (rIxL K) (tVar 0) (tC (.int 1))) σ' H' (.int y) := fun hσ h => ev_ixL (i := 1) (ev_var hσ) ev_c (sq_of h) rfl
    have g2 : ∀ {H' : Hp} {σ' : L2.St} {x y z : Int}, σ'[0]? = some (some (.ref p)) → H' p = some (.lst [.int x, .int y, .int z]) → Ev (tOp (rIxL K) (tVar 0) (tC (.int 2))) σ' H' (.int z) := fun hσ h => ev_ixL (i := 2) (ev_var hσ) ev_c (sq_of h) rfl
    refine q_when (et_I0 (g0 rfl hb) ev_c) (fun _ H1 e1 => ?_) fun _ H1 e1 => ?_
    · refine q_asg (ev_I (j := m) (g0 rfl (e1 _ _ hb)) (ev_var rfl) (by show (0 : Int) < m; omega)) fun H2 e2 => ?_
      have e12 := e1.trans e2
      refine q_setL (j := 0) (e12 _ _ hb) (ev_I (j := m) (g0 rfl (e12 _ _ hb)) (ev_var rfl) (wide_div (b := 40) (by omega) (by omega) (by decide) (by decide))) (ev_var rfl) ev_c (show 0 < 3 by decide) fun H3 e3 => ?_
      refine s_ret (ev_var rfl) fun H4 e4 => k _ H4 (Int.emod_nonneg _ (by omega)) (Int.emod_lt_of_pos _ (by omega)) ((Ex.b (e12.trans e3)).own.trans (Ex.b e4)) ⟨_, b1, b2, e4 _ _ upd_same, c1, c2, c3, by omega⟩
    · refine q_setL (j := 2) (e1 _ _ hb) (ev_I0 (g2 rfl (e1 _ _ hb)) ev_c) (ev_var rfl) ev_c (show 2 < 3 by decide) fun H2 e2 => ?_
      have e12 := e1.trans e2
      have hb2 : upd H2 p (.lst ([V.int b0, .int b1, .int b2].set 2 (.int (b2 + 1)))) p = some (.lst [.int b0, .int b1, .int (b2 + 1)]) := upd_same
      generalize hH : upd H2 p (.lst ([V.int b0, .int b1, .int b2].set 2 (.int (b2 + 1)))) = H3 at hb2
      have eB : ExB p H H3 := by rw [← hH]; exact (Ex.b e12).own
      have mb : ∀ {i j : Int}, -(2 ^ 64) < i ∧ i < 2 ^ 64 → CMul i j := fun h => .inl h
      refine q_asg (ev_I (j := 2147483647) (ev_I (j := 5) (ev_I0 (ev_I0 (g1 rfl hb2) (ev_I ev_c (g2 rfl hb2) (mb ⟨by decide, by decide⟩))) ev_c) ev_c ⟨by decide, by decide, ?_⟩) ev_c (by show (0 : Int) < 2147483647; decide)) fun H4 e4 => ?_
      · have : (2 : Nat) ^ 64 = 18446744073709551616 := by decide
        rw [this]
        omega
      generalize hmx : (b1 + 15487679 * (b2 + 1) + 401) ^ Int.toNat 5 % 2147483647 = mx
      have q1 : 0 ≤ mx := by rw [← hmx]; exact Int.emod_nonneg _ (by decide)
      have q2 : mx < 2147483647 := by rw [← hmx]; exact Int.emod_lt_of_pos _ (by decide)
      refine q_asg (ev_I (j := 2147483587) (ev_I (j := 3) (ev_I0 (ev_var rfl) (ev_I ev_c (g2 rfl (e4 _ _ hb2)) (mb ⟨by decide, by decide⟩))) ev_c ⟨by decide, by decide, ?_⟩) ev_c (by show (0 : Int) < 2147483587; decide)) fun H5 e5 => ?_
      · have : (2 : Nat) ^ 64 = 18446744073709551616 := by decide
        rw [this]
        omega
      refine s_ret (ev_I (j := m) (ev_I (j := 16) (ev_var rfl) ev_c (wide_div (b := 40) (by decide) (by decide) (by decide) (by decide))) (ev_var rfl) (by show (0 : Int) < m; omega)) fun H6 e6 => ?_
      exact k _ H6 (Int.emod_nonneg _ (by omega)) (Int.emod_lt_of_pos _ (by omega)) (eB.trans (Ex.b ((e4.trans e5).trans e6))) ⟨b0, b1, b2 + 1, (e4.trans (e5.trans e6)) _ _ hb2, c1, c2, by omega, by omega⟩
/-! _law_mixed -/
def PermRes (p : Addr) (n : Nat) (H : Hp) (rs : List (List Int)) (Q : VK) : Prop := ∀ (v : V) (cs : List (List Int)) (H2 : Hp), LRw H2 v cs → cs.Perm rs → ExB p H H2 → BoxAt H2 p n → Q v H2
def sp__law_mixed : Sp := fun vs H Q _ => ∃ (p : Addr) (x : V) (rs : List (List Int)) (n : Nat), vs = [.ref p, x] ∧ LRw H x rs ∧ rs.length ≤ 60 ∧ BoxAt H p n ∧ n ≤ 90000 ∧ PermRes p (n + 100) H rs Q
theorem ok__law_mixed (T : All K mg a d tk) : FnOk P w K mg base CX0 2 (a 18) (d 18) ["box", "things"] sp__law_mixed := by
  refine T.F__law_mixed.fn.ok sc__law_mixed (fun vs H Q E h => ?_) (fun cdv A outer s H vs Q E hr h => ?_)
  · obtain ⟨p, x, rs, n, rfl, _⟩ := h
    rfl
  · obtain ⟨p, x, rs, n, rfl, ⟨xb, xs, rfl, hx, hxp⟩, h60, hB, hn, k⟩ := h
    have nd := sc__law_mixed.nd
    have hu0 := hr.units0
    refine ⟨_, (pss_cons (ps_par (i := 2) (j := 3) rfl nd rfl rfl (by decide) rfl rfl (pa_cons (pe_callTy call_list_of rfl T.n_list PyProof.Rows.boot_list (pa_cons (pv 1) pa_nil)) (pa_cons (pe_lst pa_nil) pa_nil)) (by rfl))
 (pss_cons (ps_while PassesOwn.never (pt_cmpR (op_neNil hu0) (pv 2) (pe_lst pa_nil) (nomark _))
 (pss_one (ps_expr (pe_bm PySem.F.plainAttrs_list PySem.F.slot_list_append PySem.F.type_list_append mt_append (pv 3) (pa_cons (pe_bm PySem.F.plainAttrs_list PySem.F.slot_list_pop PySem.F.type_list_pop mt_popAt (pv 2) (pa_cons (pe_call (ok__law_take T) (hr.mono (by decide)) rfl T.F__law_take.m T.F__law_take.kp T.F__law_take.b .nil pass0 (pa_cons (pv 0) (pa_cons (pe_callB call_len_seq (by rfl) T.n_len PySem.boot_len (pa_cons (pv 2) pa_nil)) pa_nil))) pa_nil)) pa_nil)))))
 (pss_one (ps_ret (pv 3))))), ?_⟩
    refine ⟨_, rfl, xb, xs, rfl, .inl (sq_of hx), fun lf hlf => ⟨Nat.zero_le _, fun fd hfd => ⟨_, _, rfl, ?_⟩⟩⟩
    have eL : Ex H (upd H lf (.lst xs)) := Ex.new hlf
    have nfd : H fd = none := fresh_back eL hfd
    have nlf : lf ≠ fd := fun z => by rw [← z, upd_same] at hfd; cases hfd
    have eF : Ex (upd H lf (.lst xs)) (upd (upd H lf (.lst xs)) fd (.lst [])) := Ex.new hfd
    have e0 := eL.trans eF
    have bl : p ≠ lf := hB.ne hlf
    have bf : p ≠ fd := hB.ne nfd
    let W : Nat → L2.St → Hp → Prop := fun m σ' H' => ExB p H H' ∧ ∃ (ls fs : List V) (cl cf : List (List Int)), σ' = [some (.ref p), some (.ref xb), some (.ref lf), some (.ref fd)] ∧ H' lf = some (.lst ls) ∧ H' fd = some (.lst fs) ∧ Paired (IsRow H') ls cl ∧ Paired (IsRow H') fs cf ∧ (cl ++ cf).Perm rs ∧ ls.length = m ∧ m ≤ rs.length ∧ BoxAt H' p (n + (rs.length - m))
    have lx : xs.length = rs.length := Paired.length hxp
    refine q_while W rs.length ⟨Ex.b e0, xs, [], rs, [], rfl, eF _ _ upd_same, upd_same, Paired.imp (fun _ _ h => h.ex e0) hxp, .nil, by rw [List.append_nil], lx, Nat.le_refl _, by rw [Nat.sub_self]; exact hB.ex e0⟩ ?_
    rintro m σ' H' ⟨e', ls, fs, cl, cf, rfl, hl, hf, hlp, hfp, pm, hlm, hmr, hBx⟩
    refine ⟨!ls.isEmpty, et_test (ev_neNil (ev_var rfl) (sq_of hl)), fun hb H1 e1 => ?_, fun hb H1 e1 => ?_⟩
    · have hne : ls ≠ [] := fun z => by rw [z] at hb; cases hb
      have hm : 0 < m := by rw [← hlm]; exact List.length_pos_iff.mpr hne
      have lenl : cl.length = ls.length := (Paired.length hlp).symm
      have lenf : fs.length ≤ 60 := by
        have a := Paired.length hfp
        have b := pm.length_eq
        rw [List.length_append] at b
        omega
      refine ⟨fun σ2 H2 => ∃ m', m' < m ∧ W m' σ2 H2, fun _ _ h => h, ?_⟩
      refine ⟨_, rfl, .inl ⟨rfl, fs, sq_of (e1 _ _ hf)⟩, _, rfl, .inl ⟨rfl, ls, sq_of (e1 _ _ hl)⟩, _, rfl, _, rfl, lf, ls, rfl, .inl (sq_of (e1 _ _ hl)), ?_⟩
      refine ⟨p, _, n + (rs.length - m), rfl, by omega, by omega, hBx.ex e1, by omega, fun i H2 i0 i1 e2 hB2 => ?_⟩
      have hl2 : H2 lf = some (.lst ls) := e2 _ _ (Ne.symm bl) (e1 _ _ hl)
      have hf2 : H2 fd = some (.lst fs) := e2 _ _ (Ne.symm bf) (e1 _ _ hf)
      have hBx1 := hBx.ex e1
      have hlp2 : Paired (IsRow H2) ls cl := Paired.imp (fun _ _ h => (h.ex e1).exB hBx1 e2) hlp
      have hfp2 : Paired (IsRow H2) fs cf := Paired.imp (fun _ _ h => (h.ex e1).exB hBx1 e2) hfp
      have hi : i.toNat < ls.length := by omega
      have gy := List.getElem?_eq_getElem hi
      obtain ⟨r, hr, hrow⟩ := Paired.at_l hlp2 _ _ gy
      have hrl : i.toNat < cl.length := by omega
      refine ⟨lf, ls, i, i.toNat, _, rfl, rfl, hl2, by omega, by omega, seqIndex_of i0 i1, gy, ?_⟩
      refine ⟨fd, fs, _, rfl, rfl, by rw [upd_ne (Ne.symm nlf)]; exact hf2, Nat.lt_of_le_of_lt lenf (show 60 < sizeLine by decide), ?_⟩
      have mv : ∀ {x : V} {q : List Int}, IsRow H2 x q → IsRow (upd (upd H2 lf (.lst (ls.eraseIdx i.toNat))) fd (.lst (fs ++ [ls[i.toNat]]))) x q := fun h => (h.upd hl2 (lst_ntup _)).upd (by rw [upd_ne (Ne.symm nlf)]; exact hf2) (lst_ntup fs)
      refine ⟨m - 1, by omega, (((e'.trans (Ex.b e1)).trans e2).mut hlf).mut nfd, ls.eraseIdx i.toNat, fs ++ [ls[i.toNat]], cl.eraseIdx i.toNat, cf ++ [r], rfl, by rw [upd_ne nlf, upd_same], upd_same, Paired.erase _ (Paired.imp (fun _ _ h => mv h) hlp2), Paired.append (Paired.imp (fun _ _ h => mv h) hfp2) (.cons (mv hrow) .nil), ?_, ?_, by omega, ?_⟩
      · have hr' : cl[i.toNat] = r := by
          rw [List.getElem?_eq_getElem hrl] at hr
          exact Option.some.inj hr
        have z := erase_perm hrl
        rw [hr'] at z
        have z2 : (cl.eraseIdx i.toNat ++ (cf ++ [r])).Perm ((r :: cl.eraseIdx i.toNat) ++ cf) := by
          rw [← List.append_assoc]
          refine (List.perm_append_comm).trans ?_
          rw [List.cons_append]
          exact List.Perm.refl _
        exact (z2.trans (z.append_right cf)).trans pm
      · rw [List.length_eraseIdx_of_lt hi]
        omega
      · have : n + (rs.length - (m - 1)) = n + (rs.length - m) + 1 := by omega
        rw [this]
        exact (hB2.upd bl).upd bf
    · have hls : ls = [] := by
        cases ls with
        | nil => rfl
        | cons _ _ => cases hb
      subst hls
      cases hlp
      refine s_ret (ev_var rfl) fun H2 e2 => ?_
      have e12 := e1.trans e2
      exact k _ cf H2 ⟨fd, fs, rfl, e12 _ _ hf, Paired.imp (fun _ _ h => h.ex e12) hfp⟩ pm (e'.trans (Ex.b e12)) ((hBx.ex e12).mono (by omega))
end
end Mv
/-! _law_rows, _law_other. -/
namespace Mv
open PySem PySem.Spec PyProof.Rows L2 Evl
theorem add_go {i w : Int} {Q : VK} {H : Hp} (e : 1 + i = w) (h : Q (.int w) H) : rI0 (fun i j => V.int (i + j)) (.int 1) (.int i) H Q := ⟨1, i, rfl, rfl, by
  show Q (.int (1 + i)) H
  rw [e]
  exact h⟩
theorem cutV_from (xs : List V) (n : Nat) (h : n ≤ xs.length) : cutV xs (some (n : Int)) none = xs.drop n := by
  unfold cutV
  rw [HT.sIx_nat, HT.sIx_none, Nat.min_eq_left h]
  exact List.take_of_length_le (by rw [List.length_drop]; omega)
theorem cutV_to (xs : List V) (n : Nat) (h : n ≤ xs.length) : cutV xs none (some (n : Int)) = xs.take n := by
  unfold cutV
  rw [HT.sIx_nat, HT.sIx_none, Nat.min_eq_left h, List.drop_zero, Nat.sub_zero]
section
variable {K : PySem.W.Frag} {σ : L2.St} {H H' : Hp} {ta tb tc te tl tx : TE} {t u : TT} {x y z v : V} {D : Ends}
/-- a new list of two new lists -/
theorem el_cat {xs ys : List V} (ha : EvL ta σ H xs) (hb : EvL tb σ H ys) (hz : xs.length + ys.length ≤ 100000) : EvL (tOp rCat ta tb) σ H (xs ++ ys) := fun H1 e Q q =>
  ha H1 e _ fun p1 H2 hp1 e2 h1 => hb H2 (e.trans e2) _ fun p2 H3 hp2 e3 h2 => ⟨p1, p2, xs, ys, rfl, rfl, e3 _ _ h1, h2, sz_of hz, fun p hp => q p _ (fresh_back (e2.trans e3) hp) ((e2.trans e3).trans (Ex.new hp)) upd_same⟩
theorem el_rev {xs : List V} (ha : EvL ta σ H xs) : EvL (tRevL K ta) σ H xs.reverse := fun H1 e Q q =>
  ha H1 e _ fun p1 H2 hp1 e2 h1 => ⟨p1, xs, rfl, sq_of h1, fun p hp => q p _ (fresh_back e2 hp) (e2.trans (Ex.new hp)) upd_same⟩
/-- a row in a list of rows -/
theorem rv_inRows {f : Addr} {ys : List V} {rs : List (List Int)} {r : List Int} (hf : H f = some (.lst ys)) (hp : Paired (IsRow H) ys rs) (hx : IsRow H x r) : RV (rInD K) x (.ref f) H (.bl (decide (r ∈ rs))) := fun H1 e Q q => by
  refine ⟨rd r, rs.map rd, (hx.ex e).dp, .lst (sq_of (e _ _ hf)) (dp_rows (Paired.imp (fun _ _ h => h.ex e) hp)), shaped_row r, shaped_rows rs, ?_⟩
  have ee : ((rs.map rd).any fun z => PyData.eqv z (rd r)) = decide (r ∈ rs) := by
    rw [List.any_map, Bool.eq_iff_iff, List.any_eq_true, decide_eq_true_eq]
    constructor
    · rintro ⟨q, hq, e⟩
      have e : PyData.eqv (rd q) (rd r) = true := e
      rw [eqv_row] at e
      rw [← of_decide_eq_true e]
      exact hq
    · intro h
      exact ⟨r, h, by show PyData.eqv (rd r) (rd r) = true; rw [eqv_row, decide_eq_true rfl]⟩
  rw [ee]
  exact q H1 (Ex.refl H1)
theorem rv_ninRows {f : Addr} {ys : List V} {rs : List (List Int)} {r : List Int} (hf : H f = some (.lst ys)) (hp : Paired (IsRow H) ys rs) (hx : IsRow H x r) : RV (rNotInD K) x (.ref f) H (.bl (!decide (r ∈ rs))) := fun H1 e Q q => by
  refine ⟨rd r, rs.map rd, (hx.ex e).dp, .lst (sq_of (e _ _ hf)) (dp_rows (Paired.imp (fun _ _ h => h.ex e) hp)), shaped_row r, shaped_rows rs, ?_⟩
  have ee : ((rs.map rd).any fun z => PyData.eqv z (rd r)) = decide (r ∈ rs) := by
    rw [List.any_map, Bool.eq_iff_iff, List.any_eq_true, decide_eq_true_eq]
    constructor
    · rintro ⟨q, hq, e⟩
      have e : PyData.eqv (rd q) (rd r) = true := e
      rw [eqv_row] at e
      rw [← of_decide_eq_true e]
      exact hq
    · intro h
      exact ⟨r, h, by show PyData.eqv (rd r) (rd r) = true; rw [eqv_row, decide_eq_true rfl]⟩
  rw [ee]
  exact q H1 (Ex.refl H1)
/-- (k,) * width -/
theorem ep_rep {i : Int} {w : Nat} (ha : Ev ta σ H (.int i)) (hb : Ev tb σ H (.int (w : Int))) (h1 : 1 ≤ w) (h5 : w ≤ 5) : EvP (tOp (rRepU K) (tTup (tCons ta tNil)) tb) σ H (fun v H2 => IsRow H2 v (List.replicate w i)) := fun H1 e Q q =>
  ha H1 e _ fun H2 e2 => ⟨sz_of (show 1 ≤ 100000 by decide), fun t ht => by
    have e3 : Ex H2 (upd H2 t (.tup [.int i])) := Ex.new ht
    refine hb _ ((e.trans e2).trans e3) _ fun H4 e4 => ?_
    have g := e4 _ _ (upd_same (H := H2) (a := t) (o := .tup [.int i]))
    refine ⟨t, (w : Int), [.int i], rfl, rfl, st_of g, by simp, by omega, by omega, show 1 ≤ 1000 by decide, fun hw => ?_, fun hw p hp => ?_⟩
    · have e1 : w = 1 := by omega
      subst e1
      exact q _ _ ((e2.trans e3).trans e4) ⟨t, rfl, g⟩
    · refine q _ _ (((e2.trans e3).trans e4).trans (Ex.new hp)) ⟨p, rfl, ?_⟩
      rw [upd_same, Int.toNat_natCast]
      congr 2
      clear q e4 g hw h1 h5 hb
      induction w with
      | zero => rfl
      | succ w ih =>
        rw [List.replicate_succ, List.flatten_cons, ih, List.replicate_succ, List.map_cons] <;> rfl⟩
end
section
variable {P : Program} {w : World} {K : PySem.W.Frag} {mg : Str → Option Value} {base : Heap} {a : Nat → Addr} {d : Nat → FuncData} {tk : Nat → Tok}
/-! _law_rows -/
def sp__law_rows : Sp := fun vs H Q _ => ∃ (p : Addr) (m : Nat) (n : Nat), vs = [.ref p, .int (m : Int)] ∧ m ≤ 60 ∧ BoxAt H p n ∧ n ≤ 80000 ∧ ∀ (v : V) (rs : List (List Int)) (w : Nat) (H2 : Hp), LRw H2 v rs → OkRows w rs → ExB p H H2 → BoxAt H2 p (n + 1000) → Q v H2
theorem ok__law_rows (T : All K mg a d tk) : FnOk P w K mg base CX0 2 (a 19) (d 19) ["box", "many"] sp__law_rows := by
  refine T.F__law_rows.fn.ok sc__law_rows (fun vs H Q E h => ?_) (fun cdv A outer s H vs Q E hr h => ?_)
  · obtain ⟨p, m, n, rfl, _⟩ := h
    rfl
  · obtain ⟨p, m, n, rfl, hm, hB, hn, k⟩ := h
    have nd := sc__law_rows.nd
    have hu65 := hu65_of hr
    refine ⟨_, (pss_cons (ps_asg (pe_tup (pa_cons (pe_op op_add pe_int (pe_call (ok__law_take T) (hr.mono (by decide)) rfl T.F__law_take.m T.F__law_take.kp T.F__law_take.b .nil pass0 (pa_cons (pv 0) (pa_cons pe_int pa_nil)))) (pa_cons (pe_ix ix_list (pe_lst (pa_cons pe_int (pa_cons pe_int (pa_cons pe_int pa_nil)))) (pe_call (ok__law_take T) (hr.mono (by decide)) rfl T.F__law_take.m T.F__law_take.kp T.F__law_take.b .nil pass0 (pa_cons (pv 0) (pa_cons pe_int pa_nil))) (fun _ _ => rfl)) pa_nil))) (pg_tup rfl (pgs_cons (pg_name (i := 2) nd rfl (Or.inl rfl)) (pgs_cons (pg_name (i := 3) nd rfl (Or.inr rfl)) pgs_nil))) (hw := by rfl))
 (pss_cons (ps_set (i := 4) nd rfl (Or.inl rfl) (pe_lst pa_nil))
 (pss_cons (ps_for PassesOwn.never rfl (pi_range1 rfl T.n_range (pa_cons (pv 1) pa_nil)) (pg_name (i := 5) nd rfl (Or.inl rfl))
 (pss_cons (ps_set (i := 6) nd rfl (Or.inl rfl) (pe_callTy call_tuple_of rfl T.n_tuple PyProof.Rows.boot_tuple (pa_cons (pe_lc (own := [("column", 7)]) (g := (gName 7)) rfl nd (pi_range1 rfl T.n_range (pa_cons (pv 2) pa_nil)) (blkOk_by (N := N__law_rows) (sc := defScope s__law_rows) (by decide +kernel)) (fun _ _ _ _ _ => (pg_name (i := 7) nd rfl (Or.inl rfl))) (fun _ _ _ _ _ => pts_nil) (fun _ _ _ _ _ => (pe_call (ok__law_take T) (hr.mono (by decide)) rfl T.F__law_take.m T.F__law_take.kp T.F__law_take.b .nil pass0 (pa_cons (pv 0) (pa_cons (pv 3) pa_nil))))) pa_nil)))
 (pss_cons (ps_if (pt_cmpR (op_inD hu65) (pv 6) (pv 4) rfl)
 (pss_one (ps_set (i := 6) nd rfl (Or.inl rfl) (pe_ifExp (pt_cmpR (op_notInD hu65) (pe_op op_repU (pe_tup (pa_cons (pv 5) pa_nil)) (pv 2)) (pv 4) rfl) (pe_op op_repU (pe_tup (pa_cons (pv 5) pa_nil)) (pv 2)) (pe_op op_repU (pe_tup (pa_cons (pe_op op_sub pe_int (pv 5)) pa_nil)) (pv 2)))))
 pss_nil)
 (pss_one (ps_if (pt_cmpR (op_notInD hu65) (pv 6) (pv 4) rfl)
 (pss_one (ps_expr (pe_bm PySem.F.plainAttrs_list PySem.F.slot_list_append PySem.F.type_list_append mt_append (pv 4) (pa_cons (pv 6) pa_nil))))
 pss_nil)))))
 (pss_one (ps_ret (pv 4)))))), ?_⟩
    refine ⟨_, rfl, p, 5, n, rfl, by decide, by decide, hB, by omega, fun i0 H1 i0a i0b e1 hB1 => ?_⟩
    obtain ⟨wd, hwd, w1, w5⟩ : ∃ wd : Nat, 1 + i0 = (wd : Int) ∧ 1 ≤ wd ∧ wd ≤ 5 := ⟨(1 + i0).toNat, by omega, by omega, by omega⟩
    refine add_go hwd ?_
    refine ⟨sz_of (show 3 ≤ 100000 by decide), fun tl htl => ?_⟩
    have hBl : BoxAt (upd H1 tl (.lst [V.int 8, .int 30, .int 1000])) p (n + 1) := hB1.upd (hB1.ne htl)
    refine ⟨_, rfl, p, 3, n + 1, rfl, by decide, by decide, hBl, by omega, fun i1 H2 i1a i1b e2 hB2 => ?_⟩
    have htl2 : H2 tl = some (.lst [V.int 8, .int 30, .int 1000]) := e2 _ _ (Ne.symm (hB1.ne htl)) upd_same
    obtain ⟨top, htop, t1, t2⟩ : ∃ top : Int, atI [V.int 8, .int 30, .int 1000] i1 = some (.int top) ∧ 1 ≤ top ∧ top ≤ 1000 := by
      have : i1 = 0 ∨ i1 = 1 ∨ i1 = 2 := by omega
      rcases this with z | z | z
      · subst z; exact ⟨8, rfl, by decide, by decide⟩
      · subst z; exact ⟨30, rfl, by decide, by decide⟩
      · subst z; exact ⟨1000, rfl, by decide, by decide⟩
    refine ⟨tl, _, i1, _, rfl, rfl, sq_of htl2, htop, ?_⟩
    refine ⟨sz_of (show 2 ≤ 100000 by decide), fun tt htt => ?_⟩
    refine ⟨tt, _, rfl, st_of upd_same, rfl, _, _, rfl, _, _, rfl, rfl, ?_⟩
    have hB3 : BoxAt (upd H2 tt (.tup [V.int (wd : Int), .int top])) p (n + 1 + 1) := hB2.upd (hB2.ne htt)
    have eB3 : ExB p H (upd H2 tt (.tup [V.int (wd : Int), .int top])) := (e1.trans ((Ex.b (Ex.new htl)).trans e2)).trans (Ex.b (Ex.new htt))
    generalize hH3 : upd H2 tt (HO.tup [V.int (wd : Int), V.int top]) = H3 at hB3 eB3
    refine q_asgL (el_lst ea_nil (Nat.zero_le _)) fun fd H4 hfd e4 hf4 => ?_
    have bf : p ≠ fd := hB3.ne hfd
    have nfd : H fd = none := eB3.back (Ne.symm bf) hfd
    have eB4 := eB3.trans (Ex.b e4)
    let Ov : Nat → L2.St → Hp → Prop := fun j σ' H' => ExB p H H' ∧ BoxAt H' p (n + 2 + 5 * j) ∧ ∃ (ys : List V) (rs : List (List Int)) (v5 v6 : Option V), σ' = [some (.ref p), some (.int (m : Int)), some (.int (wd : Int)), some (.int top), some (.ref fd), v5, v6, none] ∧
      H' fd = some (.lst ys) ∧ Paired (IsRow H') ys rs ∧ rs.Nodup ∧ (∀ r ∈ rs, OkRow wd r) ∧ rs.length ≤ j
    refine q_forR1 (ea_cons (ev_var rfl) ea_nil) ⟨by omega, by omega⟩ Ov (fun H5 e5 => ⟨eB4.trans (Ex.b e5), (hB3.ex (e4.trans e5)).mono (by omega), [], [], none, none, rfl, e5 _ _ hf4, .nil, List.nodup_nil, fun r hr => (by cases hr), Nat.le_refl _⟩) ?_ ?_
    · rintro j σ' H5 hj ⟨e5, hB5, ys, rs, v5, v6, rfl, hf, hfp, hnd, hok, hlen⟩
      have hj60 : j < 60 := by omega
      have l60 : ys.length ≤ 60 := by rw [Paired.length hfp]; omega
      refine ⟨_, rfl, (wd : Int), rfl, by omega, by omega, fun Dl hD => ?_⟩
      have bD : p ≠ Dl := hB5.ne hD
      rw [Int.toNat_natCast]
      refine lc_it (walk_range (lo := 0) (n := wd)) (fun i H' => ExB p H5 H' ∧ BoxAt H' p (n + 2 + 5 * j + i) ∧ ∃ is : List Int, H' Dl = some (.lst (is.map V.int)) ∧ is.length = i ∧ ∀ x ∈ is, 0 ≤ x ∧ x ≤ 999) ⟨Ex.b (Ex.new hD), hB5.upd bD, [], upd_same, rfl, fun x h => (by cases h)⟩ (fun _ _ _ _ => trivial) ?_ ?_
      · rintro i x H6 H6' hi ⟨e6, hB6, is, g1, g2, g3⟩ ⟨rfl, rfl⟩
        refine ⟨rfl, yes_go ?_⟩
        refine ⟨_, rfl, _, rfl, p, top, _, rfl, t1, by omega, hB6, by omega, fun c H7 c0 c1 e7 hB7 => ?_⟩
        have g7 : H7 Dl = some (.lst (is.map V.int)) := e7 _ _ (Ne.symm bD) g1
        refine ⟨_, g7, Nat.lt_of_le_of_lt (by rw [List.length_map, g2]; omega) (show 1000 < sizeLine by decide), (e6.trans e7).mut hD, (hB7.upd bD).mono (by omega), is ++ [c], by rw [upd_same, List.map_append] <;> rfl, by rw [List.length_append, g2] <;> rfl, fun x hx => ?_⟩
        rcases List.mem_append.mp hx with hx | hx
        · exact g3 x hx
        · rw [List.mem_singleton.mp hx]
          omega
      · rintro H6 ⟨e6, hB6, is, g1, g2, g3⟩
        refine ⟨Dl, _, rfl, .inl ⟨sq_of g1, fun tr htr => ?_⟩⟩
        have eR : Ex H6 (upd H6 tr (.tup (is.map V.int))) := Ex.new htr
        have hB7 := hB6.ex eR
        have e57 : ExB p H5 (upd H6 tr (.tup (is.map V.int))) := e6.trans (Ex.b eR)
        have f7 : upd H6 tr (.tup (is.map V.int)) fd = some (.lst ys) := e57 _ _ (Ne.symm bf) hf
        have p7 : Paired (IsRow (upd H6 tr (.tup (is.map V.int)))) ys rs := Paired.imp (fun _ _ h => h.exB hB5 e57) hfp
        have r7 : IsRow (upd H6 tr (.tup (is.map V.int))) (.ref tr) is := ⟨tr, rfl, upd_same⟩
        generalize hH7 : upd H6 tr (HO.tup (is.map V.int)) = H7 at eR hB7 e57 f7 p7 r7
        have okIs : OkRow wd is := ⟨g2, g3⟩
        have okRep : ∀ c : Int, 0 ≤ c → c ≤ 999 → OkRow wd (List.replicate wd c) := fun c c0 c1 => ⟨List.length_replicate, fun x hx => by rw [(List.mem_replicate.mp hx).2]; exact ⟨c0, c1⟩⟩
        have last : ∀ (x : V) (r : List Int) (H8 : Hp), Ex H7 H8 → IsRow H8 x r → OkRow wd r →
            tIfS (tTest (tOp (rNotInD K) (tVar 6) (tVar 4))) (tDrop (tBM K "list" rAppend (tVar 4) (tCons (tVar 6) tNil))) tNext { nx := Ov (j + 1), rt := Q, ct := Ov (j + 1), bk := fun σ' H' => tRet (tVar 4) { nx := fun _ H' => Q .non H', rt := Q } σ' H' }
              [some (.ref p), some (.int (m : Int)), some (.int (wd : Int)), some (.int top), some (.ref fd), some (.int (j : Int)), some x, none] H8 := by
          intro x r H8 e8 hx hro
          have p8 : Paired (IsRow H8) ys rs := Paired.imp (fun _ _ h => h.ex e8) p7
          refine s_when (et_test (ev_op (ev_var rfl) (ev_var rfl) (rv_ninRows (e8 _ _ f7) p8 hx))) (fun hb H9 e9 => ?_) fun hb H9 e9 => ?_
          · have hnr : r ∉ rs := fun z => by rw [decide_eq_true z] at hb; cases hb
            refine s_app ((e8.trans e9) _ _ f7) (ev_var rfl) (ev_var rfl) (by omega) fun H10 e10 => ?_
            have e710 := (e8.trans e9).trans e10
            have mv : ∀ {x : V} {q : List Int}, IsRow H8 x q → IsRow (upd H10 fd (.lst (ys ++ [x]))) x q := fun h => (h.ex (e9.trans e10)).upd (e710 _ _ f7) (lst_ntup ys)
            refine ⟨((e5.trans e57).trans (Ex.b e710)).mut nfd, ((hB7.ex e710).upd bf).mono (by omega), ys ++ [x], rs ++ [r], _, _, rfl, upd_same, Paired.append (Paired.imp (fun _ _ h => (h.ex (e9.trans e10)).upd (e710 _ _ f7) (lst_ntup ys)) p8) (.cons ((hx.ex (e9.trans e10)).upd (e710 _ _ f7) (lst_ntup ys)) .nil), ?_, fun q hq => ?_, by rw [List.length_append, List.length_singleton]; omega⟩
            · rw [List.nodup_append]
              refine ⟨hnd, List.nodup_cons.mpr ⟨by simp, List.nodup_nil⟩, fun z hz u hu' e3 => ?_⟩
              rw [List.mem_singleton.mp hu'] at e3
              exact hnr (e3 ▸ hz)
            · rcases List.mem_append.mp hq with hq | hq
              · exact hok q hq
              · rw [List.mem_singleton.mp hq]; exact hro
          · have e79 := e8.trans e9
            exact ⟨(e5.trans e57).trans (Ex.b e79), (hB7.ex e79).mono (by omega), ys, rs, _, _, rfl, e79 _ _ f7, Paired.imp (fun _ _ h => h.ex e9) p8, hnd, hok, by omega⟩
        refine q_when (et_test (ev_op (ev_var rfl) (ev_var rfl) (rv_inRows f7 p7 r7))) (fun _ H8 e8 => ?_) fun _ H8 e8 => last _ _ H8 e8 (r7.ex e8) okIs
        have p8 : Paired (IsRow H8) ys rs := Paired.imp (fun _ _ h => h.ex e8) p7
        refine ep_rep (K := K) (i := (j : Int)) (w := wd) (ev_var rfl) (ev_var rfl) w1 w5 H8 (Ex.refl H8) _ fun v1 H9 e9 hv1 => ?_
        refine ⟨_, rfl, ?_⟩
        have e89 := e8.trans e9
        have p9 : Paired (IsRow H9) ys rs := Paired.imp (fun _ _ h => h.ex e9) p8
        refine rv_ninRows (e89 _ _ f7) p9 hv1 H9 (Ex.refl H9) _ fun H10 e10 => ⟨_, rfl, ?_⟩
        have e810 := e89.trans e10
        refine ite2 (fun _ => ?_) fun _ => ?_
        · refine ep_rep (K := K) (i := (j : Int)) (w := wd) (ev_var rfl) (ev_var rfl) w1 w5 H10 (Ex.refl H10) _ fun v2 H11 e11 hv2 => ?_
          exact last v2 _ H11 (e810.trans e11) hv2 (okRep _ (by omega) (by omega))
        · refine ep_rep (K := K) (i := 999 - (j : Int)) (w := wd) (ev_I0 ev_c (ev_var rfl)) (ev_var rfl) w1 w5 H10 (Ex.refl H10) _ fun v2 H11 e11 hv2 => ?_
          exact last v2 _ H11 (e810.trans e11) hv2 (okRep _ (by omega) (by omega))
    · rintro σ' H5 ⟨e5, hB5, ys, rs, v5, v6, rfl, hf, hfp, hnd, hok, hlen⟩
      rw [Int.toNat_natCast] at hB5 hlen
      refine s_ret (ev_var rfl) fun H6 e6 => ?_
      exact k _ rs wd H6 ⟨fd, ys, rfl, e6 _ _ hf, Paired.imp (fun _ _ h => h.ex e6) hfp⟩ ⟨w1, w5, hnd, hok, by omega⟩ (e5.trans (Ex.b e6)) ((hB5.ex e6).mono (by omega))
/-! _law_other -/
def sp__law_other : Sp := fun vs H Q _ => ∃ (p : Addr) (x : V) (rs : List (List Int)) (n : Nat), vs = [.ref p, x] ∧ LRw H x rs ∧ rs.length ≤ 60 ∧ BoxAt H p n ∧ n ≤ 80000 ∧ PermRes p (n + 200) H rs Q
theorem ok__law_other (T : All K mg a d tk) : FnOk P w K mg base CX0 3 (a 20) (d 20) ["box", "rows"] sp__law_other := by
  refine T.F__law_other.fn.ok sc__law_other (fun vs H Q E h => ?_) (fun cdv A outer s H vs Q E hr h => ?_)
  · obtain ⟨p, x, rs, n, rfl, _⟩ := h
    rfl
  · obtain ⟨p, x, rs, n, rfl, hx, h60, hB, hn, k⟩ := h
    have nd := sc__law_other.nd
    refine ⟨_, (pss_cons (ps_par (i := 2) (j := 3) rfl nd rfl rfl (by decide) rfl rfl (pa_cons (pe_call (ok__law_take T) (hr.mono (by decide)) rfl T.F__law_take.m T.F__law_take.kp T.F__law_take.b .nil pass0 (pa_cons (pv 0) (pa_cons pe_int pa_nil))) (pa_cons (pe_callB call_len_seq (by rfl) T.n_len PySem.boot_len (pa_cons (pv 1) pa_nil)) pa_nil)) (by rfl))
 (pss_cons (ps_if (PW.pt (pw_or (pt_cmpR op_eq (pv 2) pe_int (nomark _)) (pw_or1 (pt_cmpR op_eq (pv 3) pe_int (nomark _)))))
 (pss_one (ps_ret (pe_call (ok__law_mixed T) (hr.mono (by decide)) rfl T.F__law_mixed.m T.F__law_mixed.kp T.F__law_mixed.b .nil pass0 (pa_cons (pv 0) (pa_cons (pv 1) pa_nil)))))
 pss_nil)
 (pss_cons (ps_set (i := 4) nd rfl (Or.inl rfl) (pe_call (ok__law_take T) (hr.mono (by decide)) rfl T.F__law_take.m T.F__law_take.kp T.F__law_take.b .nil pass0 (pa_cons (pv 0) (pa_cons (pv 3) pa_nil))))
 (pss_cons (ps_if (pt_cmpR op_eq (pv 2) pe_int (nomark _))
 (pss_one (ps_ret (pe_op op_cat (pe_slice sl_list (pv 1) (po_some (pv 4)) po_none) (pe_slice sl_list (pv 1) po_none (po_some (pv 4))))))
 pss_nil)
 (pss_cons (ps_if (pt_cmpR op_eq (pv 2) pe_int (nomark _))
 (pss_one (ps_ret (pe_op op_cat (pe_slice sl_list (pv 1) po_none (po_some (pv 4))) (pe_revL (pe_slice sl_list (pv 1) (po_some (pv 4)) po_none)))))
 pss_nil)
 (pss_cons (ps_set (i := 5) nd rfl (Or.inl rfl) (pe_callTy call_list_of rfl T.n_list PyProof.Rows.boot_list (pa_cons (pv 1) pa_nil)))
 (pss_cons (ps_for PassesOwn.never rfl (pi_range1 rfl T.n_range (pa_cons (pe_op op_add pe_int (pe_call (ok__law_take T) (hr.mono (by decide)) rfl T.F__law_take.m T.F__law_take.kp T.F__law_take.b .nil pass0 (pa_cons (pv 0) (pa_cons pe_int pa_nil)))) pa_nil)) (pg_name (i := 6) nd rfl (Or.inl rfl))
 (pss_cons (ps_set (i := 7) nd rfl (Or.inl rfl) (pe_bm PySem.F.plainAttrs_list PySem.F.slot_list_pop PySem.F.type_list_pop mt_popAt (pv 5) (pa_cons (pe_call (ok__law_take T) (hr.mono (by decide)) rfl T.F__law_take.m T.F__law_take.kp T.F__law_take.b .nil pass0 (pa_cons (pv 0) (pa_cons (pv 3) pa_nil))) pa_nil)))
 (pss_one (ps_expr (pe_bm PySem.F.plainAttrs_list PySem.F.slot_list_insert PySem.F.type_list_insert mt_insert (pv 5) (pa_cons (pe_call (ok__law_take T) (hr.mono (by decide)) rfl T.F__law_take.m T.F__law_take.kp T.F__law_take.b .nil pass0 (pa_cons (pv 0) (pa_cons (pv 3) pa_nil))) (pa_cons (pv 7) pa_nil)))))))
 (pss_one (ps_ret (pv 5)))))))))), ?_⟩
    refine ⟨_, rfl, p, 5, n, rfl, by decide, by decide, hB, by omega, fun way H1 wa wb e1 hB1 => ?_⟩
    have hx1 := hx.exB hB e1
    obtain ⟨xb, xs, rfl, hxs, hxp⟩ := id hx1
    have lx : xs.length = rs.length := Paired.length hxp
    refine ⟨_, rfl, xb, xs, rfl, .inl (sq_of hxs), _, _, rfl, ?_⟩
    rw [lx]
    refine q_when (et_or (et_test (ev_op (ev_var rfl) ev_c (rv_eq rfl))) fun _ => et_test (ev_op (ev_var rfl) ev_c (rv_eq rfl))) (fun _ H2 e2 => ?_) fun hb H2 e2 => ?_
    · refine ⟨_, rfl, _, rfl, p, .ref xb, rs, n + 1, rfl, hx1.ex e2, h60, hB1.ex e2, by omega, fun v cs H3 h1 h2 h3 h4 => ?_⟩
      exact k v cs H3 h1 h2 ((e1.trans (Ex.b e2)).trans h3) (h4.mono (by omega))
    · obtain ⟨hb1, hb2⟩ := Bool.or_eq_false_iff.mp hb
      have hne : rs.length ≠ 0 := fun z => by
        rw [z] at hb2
        exact absurd hb2 (by decide)
      have hB2 := hB1.ex e2
      refine ⟨_, rfl, _, rfl, p, (rs.length : Int), n + 1, rfl, by omega, by omega, hB2, by omega, fun at_ H3 a0 a1 e3 hB3 => ?_⟩
      have hx3 := (hx1.ex e2).exB hB2 e3
      have eB3 : ExB p H H3 := (e1.trans (Ex.b e2)).trans e3
      obtain ⟨atn, rfl, hat⟩ : ∃ atn : Nat, at_ = (atn : Int) ∧ atn < rs.length := ⟨at_.toNat, by omega, by omega⟩
      obtain ⟨xb3, xs3, exb, hxs3, hxp3⟩ := id hx3
      cases exb
      have lx3 : xs3.length = rs.length := Paired.length hxp3
      have done : ∀ (zs : List V) (cs : List (List Int)) (pz : Addr) (H5 : Hp), Ex H3 H5 → H5 pz = some (.lst zs) → Paired (IsRow H3) zs cs → cs.Perm rs → Q (.ref pz) H5 := fun zs cs pz H5 e5 hz hp pm =>
        k _ cs H5 ⟨pz, zs, rfl, hz, Paired.imp (fun _ _ h => h.ex e5) hp⟩ pm (eB3.trans (Ex.b e5)) ((hB3.ex e5).mono (by omega))
      have pdrop := Paired.drop atn hxp3
      have ptake := Paired.take atn hxp3
      have slF : ∀ {σ' : L2.St} {H5 : Hp}, Ex H3 H5 → σ'[1]? = some (some (.ref xb)) → σ'[4]? = some (some (.int (atn : Int))) → EvL (tSl (rSlL K) (tVar 1) (tPart (tVar 4)) tNoPart) σ' H5 (xs3.drop atn) := fun e5 h1 h4 => by
        have z := el_sl (K := K) (lo := some (atn : Int)) (hi := none) (ev_var h1) (eo_some (ev_var h4)) eo_none (sq_of (e5 _ _ hxs3))
        rwa [cutV_from _ _ (by omega)] at z
      have slT : ∀ {σ' : L2.St} {H5 : Hp}, Ex H3 H5 → σ'[1]? = some (some (.ref xb)) → σ'[4]? = some (some (.int (atn : Int))) → EvL (tSl (rSlL K) (tVar 1) tNoPart (tPart (tVar 4))) σ' H5 (xs3.take atn) := fun e5 h1 h4 => by
        have z := el_sl (K := K) (lo := none) (hi := some (atn : Int)) (ev_var h1) eo_none (eo_some (ev_var h4)) (sq_of (e5 _ _ hxs3))
        rwa [cutV_to _ _ (by omega)] at z
      have ltk : (xs3.take atn).length ≤ 60 := by rw [List.length_take]; omega
      have ldr : (xs3.drop atn).length ≤ 60 := by rw [List.length_drop]; omega
      refine q_when (et_test (ev_op (ev_var rfl) ev_c (rv_eq rfl))) (fun _ H4 e4 => ?_) fun _ H4 e4 => ?_
      · refine s_retL (el_cat (slF e4 rfl rfl) (slT e4 rfl rfl) (by omega)) fun pz H5 _ e5 hz => ?_
        refine done _ (rs.drop atn ++ rs.take atn) pz H5 (e4.trans e5) hz (Paired.append pdrop ptake) ?_
        have z := List.perm_append_comm (l₁ := rs.drop atn) (l₂ := rs.take atn)
        rwa [List.take_append_drop] at z
      refine q_when (et_test (ev_op (ev_var rfl) ev_c (rv_eq rfl))) (fun _ H5 e5 => ?_) fun _ H5 e5 => ?_
      · refine s_retL (el_cat (slT (e4.trans e5) rfl rfl) (el_rev (slF (e4.trans e5) rfl rfl)) (by rw [List.length_reverse]; omega)) fun pz H6 _ e6 hz => ?_
        refine done _ (rs.take atn ++ (rs.drop atn).reverse) pz H6 ((e4.trans e5).trans e6) hz (Paired.append ptake (Paired.rev pdrop)) ?_
        have z := (List.reverse_perm (rs.drop atn)).append_left (rs.take atn)
        rwa [List.take_append_drop] at z
      have e35 := e4.trans e5
      refine ⟨_, rfl, xb, xs3, rfl, .inl (sq_of (e35 _ _ hxs3)), fun fd hfd => ?_⟩
      have eF : Ex H5 (upd H5 fd (.lst xs3)) := Ex.new hfd
      have hB5 := hB3.ex e35
      have bf : p ≠ fd := hB5.ne hfd
      have nfd : H fd = none := (eB3.trans (Ex.b e35)).back (Ne.symm bf) hfd
      refine ⟨_, rfl, p, 3, n + 2, rfl, by decide, by decide, hB5.ex eF, by omega, fun lp H6 la lb e6 hB6 => ?_⟩
      refine ⟨1, lp, rfl, rfl, ?_⟩
      refine ⟨1 + lp, rfl, by omega, by omega, ?_⟩
      have eB6 : ExB p H H6 := ((eB3.trans (Ex.b e35)).trans (Ex.b eF)).trans e6
      have hf6 : H6 fd = some (.lst xs3) := e6 _ _ (Ne.symm bf) upd_same
      have hfp6 : Paired (IsRow H6) xs3 rs := Paired.imp (fun _ _ h => (h.ex (e35.trans eF)).exB (hB5.ex eF) e6) hxp3
      let Ov : Nat → L2.St → Hp → Prop := fun j σ' H' => ExB p H H' ∧ BoxAt H' p (n + 3 + 2 * j) ∧ ∃ (ys : List V) (cs : List (List Int)) (v6 v7 : Option V), σ' = [some (.ref p), some (.ref xb), some (.int way), some (.int (rs.length : Int)), some (.int (atn : Int)), some (.ref fd), v6, v7] ∧
        H' fd = some (.lst ys) ∧ Paired (IsRow H') ys cs ∧ cs.Perm rs
      refine for_range (lo := 0) (n := (1 + lp).toNat) Ov ⟨eB6, hB6, xs3, rs, _, _, rfl, hf6, hfp6, .refl _⟩ ?_ ?_
      · rintro j σ' H7 hj ⟨e7, hB7, ys, cs, v6, v7, rfl, hf7, hfp7, pm⟩
        have lcs : cs.length = rs.length := pm.length_eq
        have lys : ys.length = rs.length := by rw [Paired.length hfp7, lcs]
        refine ⟨_, rfl, .inl ⟨rfl, ys, sq_of hf7⟩, _, rfl, _, rfl, p, (rs.length : Int), _, rfl, by omega, by omega, hB7, by omega, fun i H8 i0 i1 e8 hB8 => ?_⟩
        have hf8 : H8 fd = some (.lst ys) := e8 _ _ (Ne.symm bf) hf7
        have hfp8 : Paired (IsRow H8) ys cs := Paired.imp (fun _ _ h => h.exB hB7 e8) hfp7
        have hi : i.toNat < ys.length := by omega
        have hic : i.toNat < cs.length := by omega
        have gy := List.getElem?_eq_getElem hi
        obtain ⟨r, hr, hrow⟩ := Paired.at_l hfp8 _ _ gy
        refine ⟨fd, ys, i, i.toNat, _, rfl, rfl, hf8, by omega, by omega, seqIndex_of i0 (by omega), gy, ?_⟩
        have eP : ∀ {x : V} {q : List Int}, IsRow H8 x q → IsRow (upd H8 fd (.lst (ys.eraseIdx i.toNat))) x q := fun h => h.upd hf8 (lst_ntup ys)
        have hB9 : BoxAt (upd H8 fd (.lst (ys.eraseIdx i.toNat))) p (n + 3 + 2 * j + 1) := hB8.upd bf
        refine ⟨_, rfl, .inl ⟨rfl, _, sq_of upd_same⟩, _, rfl, _, rfl, p, (rs.length : Int), _, rfl, by omega, by omega, hB9, by omega, fun i2 H10 i20 i21 e10 hB10 => ⟨_, rfl, ?_⟩⟩
        have hf10 : H10 fd = some (.lst (ys.eraseIdx i.toNat)) := e10 _ _ (Ne.symm bf) upd_same
        have hfp10 : Paired (IsRow H10) (ys.eraseIdx i.toNat) (cs.eraseIdx i.toNat) := Paired.erase _ (Paired.imp (fun _ _ h => (eP h).exB hB9 e10) hfp8)
        have hrow10 : IsRow H10 ys[i.toNat] r := (eP hrow).exB hB9 e10
        refine ⟨fd, _, i2, _, rfl, rfl, hf10, Nat.lt_of_le_of_lt (by rw [List.length_eraseIdx_of_lt hi]; omega) (show 1000 < sizeLine by decide), i20, by omega, ?_⟩
        have mv : ∀ {x : V} {q : List Int}, IsRow H10 x q → IsRow (upd H10 fd (.lst ((ys.eraseIdx i.toNat).take i2.toNat ++ [ys[i.toNat]] ++ (ys.eraseIdx i.toNat).drop i2.toNat))) x q := fun h => h.upd hf10 (lst_ntup _)
        refine ⟨((e7.trans e8).mut nfd |>.trans e10).mut nfd, (hB10.upd bf).mono (by omega), _, (cs.eraseIdx i.toNat).take i2.toNat ++ [r] ++ (cs.eraseIdx i.toNat).drop i2.toNat, _, _, rfl, upd_same, ?_, ?_⟩
        · exact Paired.append (Paired.append (Paired.take _ (Paired.imp (fun _ _ h => mv h) hfp10)) (.cons (mv hrow10) .nil)) (Paired.drop _ (Paired.imp (fun _ _ h => mv h) hfp10))
        · have hr' : cs[i.toNat] = r := by
            rw [List.getElem?_eq_getElem hic] at hr
            exact Option.some.inj hr
          have z := erase_perm hic
          rw [hr'] at z
          refine List.Perm.trans ?_ (z.trans pm)
          have z2 : ((cs.eraseIdx i.toNat).take i2.toNat ++ [r] ++ (cs.eraseIdx i.toNat).drop i2.toNat).Perm (r :: ((cs.eraseIdx i.toNat).take i2.toNat ++ (cs.eraseIdx i.toNat).drop i2.toNat)) := by
            rw [List.append_assoc]
            exact List.perm_middle
          rwa [List.take_append_drop] at z2
      · rintro σ' H7 ⟨e7, hB7, ys, cs, v6, v7, rfl, hf7, hfp7, pm⟩
        refine s_ret (ev_var rfl) fun H8 e8 => ?_
        exact k _ cs H8 ⟨fd, ys, rfl, e8 _ _ hf7, Paired.imp (fun _ _ h => h.ex e8) hfp7⟩ pm (e7.trans (Ex.b e8)) ((hB7.ex e8).mono (by omega))
end
end Mv
/-! _law_right. -/
namespace Mv
open PySem PySem.Spec PyProof.Rows L2 Evl
/-- the lists as data -/
def ld (Ls : List (List (List Int))) : PyData := .list (Ls.map fun rs => .list (rs.map rd))
theorem int_small {i : Int} (h : 0 ≤ i ∧ i ≤ 999) : i.natAbs.log2 ≤ 9 := by
  by_cases z : i.natAbs = 0
  · rw [z]; decide
  · have : i.natAbs.log2 < 10 := (Nat.log2_lt z).mpr (by omega)
    omega
theorem ints_w : ∀ r : List Int, (∀ i ∈ r, 0 ≤ i ∧ i ≤ 999) → PyData.weightAll (r.map PyData.int) ≤ 11 * r.length ∧ PyData.showableAll (r.map PyData.int) = true
  | [], _ => ⟨Nat.le_refl _, rfl⟩
  | i :: r, h => by
    obtain ⟨h1, h2⟩ := ints_w r fun j hj => h j (List.mem_cons_of_mem _ hj)
    have hi := int_small (h i List.mem_cons_self)
    refine ⟨?_, ?_⟩
    · simp only [List.map_cons, PyData.weightAll, PyData.weight, List.length_cons]
      split <;> omega
    · rw [List.map_cons, PyData.showableAll, h2, PyData.showable, decide_eq_true (by omega)] <;> rfl
theorem row_w {n : Nat} {r : List Int} (h : OkRow n r) (h5 : n ≤ 5) : (rd r).weight ≤ 55 ∧ (rd r).showable = true ∧ (rd r).intsShort 13 = true := by
  obtain ⟨a, b⟩ := ints_w r h.2
  have := h.1
  unfold rd
  refine ⟨?_, ?_, ?_⟩
  · simp only [PyData.weight]
    omega
  · rw [PyData.showable, b]
  · rw [PyData.intsShort]
    exact PyData.intsShortAll_ints r fun i hi => by
      have := h.2 i hi
      omega
theorem rows_w {n : Nat} (h5 : n ≤ 5) : ∀ rs : List (List Int), (∀ r ∈ rs, OkRow n r) → PyData.weightAll (rs.map rd) ≤ 56 * rs.length ∧ PyData.showableAll (rs.map rd) = true ∧ PyData.intsShortAll 13 (rs.map rd) = true
  | [], _ => ⟨Nat.le_refl _, rfl, rfl⟩
  | r :: rs, h => by
    obtain ⟨a, b, c⟩ := rows_w h5 rs fun q hq => h q (List.mem_cons_of_mem _ hq)
    obtain ⟨x, y, z⟩ := row_w (h r List.mem_cons_self) h5
    refine ⟨?_, ?_, ?_⟩
    · simp only [List.map_cons, PyData.weightAll, List.length_cons]
      omega
    · rw [List.map_cons, PyData.showableAll, b, y] <;> rfl
    · rw [List.map_cons, PyData.intsShortAll, c, z] <;> rfl
theorem lists_w {n : Nat} : ∀ Ls : List (List (List Int)), (∀ rs ∈ Ls, OkRows n rs) → PyData.weightAll (Ls.map fun rs => .list (rs.map rd)) ≤ 4000 * Ls.length ∧ PyData.showableAll (Ls.map fun rs => .list (rs.map rd)) = true ∧ PyData.intsShortAll 13 (Ls.map fun rs => .list (rs.map rd)) = true ∧
    PyData.canLayAll0 (Ls.map fun rs => .list (rs.map rd)) = true ∧ PyData.depthAll (Ls.map fun rs => .list (rs.map rd)) ≤ 5
  | [], _ => ⟨Nat.le_refl _, rfl, rfl, rfl, by simp [PyData.depthAll]⟩
  | rs :: Ls, h => by
    obtain ⟨a, b, c, d, e⟩ := lists_w Ls fun q hq => h q (List.mem_cons_of_mem _ hq)
    have o := h rs List.mem_cons_self
    obtain ⟨x, y, z⟩ := rows_w o.w5 rs o.row
    have := o.few
    have dr := deep_rows rs
    refine ⟨?_, ?_, ?_, ?_, ?_⟩
    · simp only [List.map_cons, PyData.weightAll, PyData.weight, List.length_cons]
      omega
    · rw [List.map_cons, PyData.showableAll, b, PyData.showable, y] <;> rfl
    · rw [List.map_cons, PyData.intsShortAll, c, PyData.intsShort, z] <;> rfl
    · rw [List.map_cons, PyData.canLayAll0, d, PyData.canLay0, lay_rows] <;> rfl
    · simp only [List.map_cons, PyData.depthAll, PyData.depth]
      omega
section
variable {K : PySem.W.Frag} {σ : L2.St} {H H' : Hp} {ta tb tc te tl tx : TE} {t u : TT} {x y z v : V} {D : Ends}
theorem lls_dp : ∀ {xs : List V} {Ls : List (List (List Int))}, Paired (LRw H) xs Ls → DpAll K H xs (Ls.map fun rs => .list (rs.map rd))
  | _, _, .nil => .nil
  | _, _, .cons ⟨b, ys, e, h1, h2⟩ t => by
    subst e
    exact .cons (.lst (sq_of h1) (dp_rows h2)) (lls_dp t)
/-- repr(many) -/
theorem ev_repr {n : Nat} {Ls : List (List (List Int))} (ha : Ev ta σ H x) (hx : LLs H x Ls) (ho : OkLists n Ls) : Ev (tCB (rRepr K) (tCons ta tNil)) σ H (.str (ld Ls).shown) := fun H1 e Q q =>
  ha H1 e _ fun H2 e2 => by
    obtain ⟨b, ys, rfl, h1, h2⟩ := hx.ex (e.trans e2)
    obtain ⟨w1, w2, w3, w4, w5⟩ := lists_w Ls ho.ok
    have h6 := ho.six
    have cl : (ld Ls).canLay0 = true := by unfold ld; rw [PyData.canLay0, w4]
    refine ⟨b, ld Ls, rfl, .lst (sq_of h1) (lls_dp h2), by unfold ld; rw [PyData.showable, w2], PyData.hasDict_of_canLay _ cl, ?_, ?_, q H2 e2⟩
    · unfold ld
      simp only [PyData.depth]
      omega
    · refine PyData.shown_fits (B := 13) (by decide) (by decide) (PyData.leavesShort_of_canLay0 13 _ cl (by unfold ld; rw [PyData.intsShort, w3])) ?_
      unfold ld
      simp only [PyData.weight]
      have : (2 : Nat) ^ 20 = 1048576 := by decide
      omega
end
theorem OkLists.take {n k : Nat} {Ls : List (List (List Int))} (h : OkLists n Ls) (hk : 0 < k) : OkLists n (Ls.take k) where
  ne := fun z => by
    have a := h.ne
    cases Ls with
    | nil => exact a rfl
    | cons _ _ =>
      cases k with
      | zero => omega
      | succ k => cases z
  six := by
    rw [List.length_take]
    have := h.six
    omega
  ok := fun rs hr => h.ok rs (List.mem_of_mem_take hr)
  pm := fun rs hr qs hq => h.pm rs (List.mem_of_mem_take hr) qs (List.mem_of_mem_take hq)
section
variable {P : Program} {w : World} {K : PySem.W.Frag} {mg : Str → Option Value} {base : Heap} {a : Nat → Addr} {d : Nat → FuncData} {tk : Nat → Tok}
theorem LevsRes.v {H H2 : Hp} {Ls : List (List (List Int))} {R : List (List Int)} {p : Addr} {lev : List Int → Nat} {ahd : List Int → Option (List Int)} {M : Nat} (h : LevsRes H Ls R p H2) (hR : R ∈ Ls) (L : LevOn Ls R lev ahd) (hM : IsCount R lev M) :
    LevV H2 (.ref p) R lev M ∧ ∃ ys, H2 p = some (.lst ys) ∧ ys.length = M ∧ ∀ (i : Nat) (z : V), ys[i]? = some z → ∃ q zs, z = .ref q ∧ H q = none ∧ q ≠ p ∧ H2 q = some (.lst zs) ∧ zs.length ≤ R.length := by
  obtain ⟨ys, lev', ahd', M', h1, h2, L', hM', h3⟩ := h
  have eM : M' = M := count_unique L' L hR hM' hM
  subst eM
  have el : ∀ r ∈ R, lev' r = lev r := fun r hr => lev_unique L' L hR _ r hr rfl
  have ef : ∀ i, (R.filter fun r => decide (lev' r = i)) = R.filter fun r => decide (lev r = i) := fun i => List.filter_congr fun r hr => by rw [el r hr]
  refine ⟨⟨p, ys, rfl, h1, h2, fun i z hz => ?_⟩, ys, h1, h2, fun i z hz => ?_⟩
  · obtain ⟨q, zs, z1, _, z3, z4⟩ := h3 i z hz
    rw [ef] at z4
    exact ⟨q, zs, z1, z3, z4⟩
  · obtain ⟨q, zs, z1, z2, z3, z4⟩ := h3 i z hz
    refine ⟨q, zs, z1, z2, fun e => ?_, z3, ?_⟩
    · rw [e, h1] at z3
      injection z3 with z3
      injection z3 with z3
      subst z3
      obtain ⟨r, _, hrow⟩ := Paired.mem_l z4 z (List.mem_of_getElem? hz)
      obtain ⟨b, eb, hb⟩ := hrow
      rw [z1] at eb
      cases eb
      rw [e, h1] at hb
      cases hb
    · rw [Paired.length z4]
      exact List.length_filter_le _ _
def sp__law_right : Sp := fun vs H Q _ => ∃ (x : V) (Ls : List (List (List Int))) (n : Nat), vs = [x] ∧ LLs H x Ls ∧ OkLists n Ls ∧ RetV (.bl true) H Q
theorem okG {x qual : Str} {st : Stmt} {f : Addr} {fd : FuncData} {N ps : List Str} {k : Nat} {sp : Sp} (F : Fun K x qual st f fd) (S : FnScope N ps (defScope st)) (len : ∀ vs H Q E, sp vs H Q E → vs.length = ps.length)
    (hbody : ∀ (cdv : Value) (A : Around) (outer : List Env) (s : Shared) (H : Hp) (vs : List V) (Q : VK) (E : XK), (A.deeper (envOfC qual (defScope st) s.heap.objs.size f cdv)).guards = some [] → Room k (A.deeper (envOfC qual (defScope st) s.heap.objs.size f cdv)) → sp vs H Q E →
      ∃ t, PSs (cxOf CX0 P w K mg base N qual (defScope st) f cdv A outer s H E).nox (defBody st) t ∧ t { nx := fun _ H' => Q .non H', rt := Q } (start N vs) H) : FnG P w K mg base CX0 (k + 1) f fd ps sp := by
  obtain ⟨oc, od, kV, doc, pm, an, cdv, ct, osl, rfl, lk, hcd⟩ := F.ex
  refine fn_ofG lk hcd S len fun A outer s H vs Q E hgd hr hsp => ?_
  obtain ⟨t, h, q⟩ := hbody cdv A outer s H vs Q E hgd hr hsp
  exact ⟨t, h.nox, q⟩
theorem ok__law_right (T : All K mg a d tk) : FnG P w K mg base CX0 8 (a 25) (d 25) ["many"] sp__law_right := by
  refine okG T.F__law_right.fn sc__law_right (fun vs H Q E h => ?_) (fun cdv A outer s H vs Q E hgd hr h => ?_)
  · obtain ⟨x, Ls, n, rfl, _⟩ := h
    rfl
  · obtain ⟨x, Ls, n, rfl, hx, ho, k⟩ := h
    have nd := sc__law_right.nd
    have hpos : 0 < Ls.length := List.length_pos_iff.mpr ho.ne
    obtain ⟨R, hR⟩ : ∃ R, Ls[0]? = some R := ⟨Ls[0], List.getElem?_eq_getElem hpos⟩
    have hRm : R ∈ Ls := List.mem_of_getElem? hR
    have oR : OkRows n R := ho.ok R hRm
    have hR60 := oR.few
    have hsix := ho.six
    obtain ⟨xb, xs, rfl, hxs, hxp⟩ := id hx
    have lxs : xs.length = Ls.length := Paired.length hxp
    refine ⟨_, (pss_cons (ps_par (i := 1) (j := 2) rfl nd rfl rfl (by decide) rfl rfl (pa_cons (pe_call (ok__law_most T) (hr.mono (by decide)) rfl T.F__law_most.m T.F__law_most.kp T.F__law_most.b .nil pass0 (pa_cons (pv 0) pa_nil)) (pa_cons (pe_callB (call_repr hgd hr.units) (by rfl) T.n_repr PyProof.Rows.boot_repr (pa_cons (pv 0) pa_nil)) pa_nil)) (by rfl))
 (pss_cons (ps_for PassesOwn.never rfl (pi_range1 rfl T.n_range (pa_cons pe_int pa_nil)) (pg_name (i := 3) nd rfl (Or.inl rfl))
 (pss_cons (ps_par (i := 4) (j := 5) rfl nd rfl rfl (by decide) rfl rfl (pa_cons (pe_call (ok_common_rows T) (hr.mono (by decide)) rfl T.F_common_rows.m T.F_common_rows.kp T.F_common_rows.b .nil pass0 (pa_cons (pv 0) pa_nil)) (pa_cons (pe_call (ok_common_levels T) (hr.mono (by decide)) rfl T.F_common_levels.m T.F_common_levels.kp T.F_common_levels.b .nil pass0 (pa_cons (pv 0) pa_nil)) pa_nil)) (by rfl))
 (pss_cons (ps_if (PW.pt (pw_or (pt_not (pt_val (pe_callB call_isi (by rfl) T.n_isinstance PyProof.Rows.boot_isinstance (pa_cons (pv 4) (pa_cons (pe_bltn (v := .ty "list") rfl T.n_list PyProof.Rows.boot_list rfl) pa_nil))))) (pw_or (pt_cmpR op_ne (pe_callB call_len_seq (by rfl) T.n_len PySem.boot_len (pa_cons (pv 4) pa_nil)) (pv 1) (nomark _)) (pw_or1 (pt_not (pt_val (pe_call (ok__law_are_right T) (hr.mono (by decide)) rfl T.F__law_are_right.m T.F__law_are_right.kp T.F__law_are_right.b .nil pass0 (pa_cons (pv 0) (pa_cons (pv 4) (pa_cons (pv 5) pa_nil))))))))))
 (pss_one (ps_ret pe_bl))
 pss_nil)
 (pss_cons (ps_for PassesOwn.never rfl (pi_list (pv 5)) (pg_name (i := 6) nd rfl (Or.inl rfl))
 (pss_one (ps_expr (pe_bm PySem.F.plainAttrs_list PySem.F.slot_list_append PySem.F.type_list_append mt_append (pv 6) (pa_cons pe_str pa_nil)))))
 (pss_cons (ps_expr (pe_bm PySem.F.plainAttrs_list PySem.F.slot_list_append PySem.F.type_list_append mt_append (pv 5) (pa_cons pe_str pa_nil)))
 (pss_one (ps_expr (pe_bm PySem.F.plainAttrs_list PySem.F.slot_list_append PySem.F.type_list_append mt_append (pv 4) (pa_cons pe_str pa_nil)))))))))
 (pss_cons (ps_set (i := 7) nd rfl (Or.inl rfl) (pe_callTy call_tuple_of rfl T.n_tuple PyProof.Rows.boot_tuple (pa_cons (pe_lc (own := [("rows", 6)]) (g := (gName 6)) rfl nd (pi_list (pv 0)) (blkOk_by (N := N__law_right) (sc := defScope s__law_right) (by decide +kernel)) (fun _ _ _ _ _ => (pg_name (i := 6) nd rfl (Or.inl rfl))) (fun _ _ _ _ _ => pts_nil) (fun _ _ _ _ _ => (pe_callTy (show CallR _ (.type "tuple") (rTupOf K) from call_tuple_of) rfl T.n_tuple PyProof.Rows.boot_tuple (pa_cons (pv 6) pa_nil)))) pa_nil)))
 (pss_cons (ps_set (i := 4) nd rfl (Or.inl rfl) (pe_callK1 (ok_common_rows T) (hr.mono (by decide)) rfl T.F_common_rows.m T.F_common_rows.kp T.K_common_rows pass0 (pv 7)))
 (pss_cons (ps_if (PW.pt (pw_or (pt_not (pt_val (pe_callB call_isi (by rfl) T.n_isinstance PyProof.Rows.boot_isinstance (pa_cons (pv 4) (pa_cons (pe_bltn (v := .ty "list") rfl T.n_list PyProof.Rows.boot_list rfl) pa_nil))))) (pw_or (pt_cmpR op_ne (pe_callB call_len_seq (by rfl) T.n_len PySem.boot_len (pa_cons (pv 4) pa_nil)) (pv 1) (nomark _)) (pw_or1 (pt_not (pt_val (pe_call (ok__law_are_right T) (hr.mono (by decide)) rfl T.F__law_are_right.m T.F__law_are_right.kp T.F__law_are_right.b .nil pass0 (pa_cons (pv 0) (pa_cons (pv 4) (pa_cons (pe_callK1 (ok_common_levels T) (hr.mono (by decide)) rfl T.F_common_levels.m T.F_common_levels.kp T.K_common_levels pass0 (pv 7)) pa_nil))))))))))
 (pss_one (ps_ret pe_bl))
 pss_nil)
 (pss_cons (ps_if (PW.pt (pw_and (pt_cmpR op_gt (pe_callB call_len_seq (by rfl) T.n_len PySem.boot_len (pa_cons (pv 0) pa_nil)) pe_int (nomark _)) (pw_and1 (pt_cmpR op_ne (pe_callB call_len_seq (by rfl) T.n_len PySem.boot_len (pa_cons (pe_call (ok_common_levels T) (hr.mono (by decide)) rfl T.F_common_levels.m T.F_common_levels.kp T.F_common_levels.b .nil pass0 (pa_cons (pe_slice sl_list (pv 0) po_none (po_some pe_int)) pa_nil)) pa_nil)) (pe_callB call_len_seq (by rfl) T.n_len PySem.boot_len (pa_cons (pe_call (ok_stays T) (hr.mono (by decide)) rfl T.F_stays.m T.F_stays.kp T.F_stays.b .nil pass0 (pa_cons (pe_ix ix_list (pv 0) pe_int (fun _ _ => rfl)) (pa_cons (pe_ix ix_list (pv 0) pe_int (fun _ _ => rfl)) pa_nil))) pa_nil)) (nomark _)))))
 (pss_one (ps_ret pe_bl))
 pss_nil)
 (pss_one (ps_ret (pe_cmpR op_eq (pe_callB (call_repr hgd hr.units) (by rfl) T.n_repr PyProof.Rows.boot_repr (pa_cons (pv 0) pa_nil)) (pv 2) (nomark _)))))))))), ?_⟩
    refine ⟨_, rfl, .ref xb, Ls, R, n, rfl, hx, ho, hR, fun lev ahd M H1 L hM e1 => ?_⟩
    refine ev_repr (K := K) (σ := start N__law_right [.ref xb]) (ta := tVar 0) (ev_var rfl) (hx.ex e1) ho H1 (Ex.refl H1) _ fun H2 e2 => ⟨_, _, rfl, ?_⟩
    have e12 := e1.trans e2
    have hMR := count_few L hRm hM
    let Lv : Nat → L2.St → Hp → Prop := fun _ σ' H' => Ex H H' ∧ ∃ v3 v4 v5 v6, σ' = [some (.ref xb), some (.int (M : Int)), some (.str (ld Ls).shown), v3, v4, v5, v6, none]
    refine q_forR1 (ea_cons ev_c ea_nil) ⟨by decide, by decide⟩ Lv (fun H3 e3 => ⟨e12.trans e3, _, _, _, _, rfl⟩) ?_ ?_
    · rintro i σ' H3 hi ⟨e3, v3, v4, v5, v6, rfl⟩
      have hx3 := hx.ex e3
      refine ⟨_, rfl, .ref xb, Ls, R, n, rfl, hx3.lss, ho, hR, fun pf H4 npf e4 ⟨ys, ds, lev1, ahd1, M1, hf4, hfp4, hch, hsub, L1, hM1, hdM⟩ => ?_⟩
      have eM1 : M1 = M := count_unique L1 L hRm hM1 hM
      refine ⟨_, rfl, .ref xb, Ls, R, n, rfl, (hx3.ex e4).lss, ho, hR, fun pl H5 npl e5 hres => ⟨_, _, rfl, ?_⟩⟩
      obtain ⟨hLv, ys5, hl5, hl5M, hl5i⟩ := hres.v hRm L1 hM1
      have e45 := e4.trans e5
      have lys : ys.length = M := by rw [Paired.length hfp4, hdM, eM1]
      refine q_when (et_or (et_not (et_B (ev_isi (ev_var rfl) (ty_lst (e5 _ _ hf4)) (kT (b := true) (by decide +kernel))))) fun _ => et_or (et_test (ev_op (ev_lenS (ev_var rfl) (.inl (e5 _ _ hf4))) (ev_var rfl) (rv_ne rfl))) fun _ => et_not (et_B (ev_call (ea_cons (ev_var rfl) (ea_cons (ev_var rfl) (ea_cons (ev_var rfl) ea_nil))) (spv__law_are_right (hx3.ex e45) ho hR (e5 _ _ hf4) (Paired.imp (fun _ _ h => h.ex e5) hfp4) hch hsub hdM L1 hM1 hLv)))) (fun h => ?_) fun _ H6 e6 => ?_
      · rw [lys] at h
        simp at h
      · have e56 := e5.trans e6
        have npl3 : H3 pl = none := fresh_back e4 npl
        let Av : Nat → L2.St → Hp → Prop := fun j σ' H' => Ex H4 H' ∧ H' pl = some (.lst ys5) ∧ (∀ (i : Nat) (z : V), ys5[i]? = some z → ∃ q zs, z = .ref q ∧ H4 q = none ∧ q ≠ pl ∧ H' q = some (.lst zs) ∧ zs.length ≤ R.length + j) ∧ ∃ v3 v6, σ' = [some (.ref xb), some (.int (M : Int)), some (.str (ld Ls).shown), v3, some (.ref pf), some (.ref pl), v6, none]
        refine q_forLn (a := pl) (xs := ys5) (ev_var rfl) (sq_of (e6 _ _ hl5)) Av (fun H7 e7 => ⟨e56.trans e7, (e6.trans e7) _ _ hl5, fun i z hz => ?_, _, _, rfl⟩) (fun j σ' H' _ ⟨_, h, _⟩ => sq_of h) ?_ ?_
        · obtain ⟨q, zs, z1, z2, z3, z4, z5⟩ := hl5i i z hz
          exact ⟨q, zs, z1, z2, z3, (e6.trans e7) _ _ z4, by omega⟩
        · rintro j z σ' H7 hz ⟨e7, g1, g2, v3, v6, rfl⟩
          obtain ⟨q, zs, rfl, z2, z3, z4, z5⟩ := g2 j z hz
          have hj : j < ys5.length := (List.getElem?_eq_some_iff.mp hz).1
          refine s_app z4 (ev_var rfl) ev_c (by omega) fun H8 e8 => ?_
          refine ⟨Ex.mut (e7.trans e8) z2, by rw [upd_ne (Ne.symm z3)]; exact e8 _ _ g1, fun i y hy => ?_, _, _, rfl⟩
          obtain ⟨q', zs', y1, y2, y3, y4, y5⟩ := g2 i y hy
          by_cases eq : q' = q
          · subst eq
            exact ⟨q', _, y1, y2, y3, upd_same, by rw [List.length_append, List.length_singleton]; omega⟩
          · exact ⟨q', zs', y1, y2, y3, by rw [upd_ne eq]; exact e8 _ _ y4, by omega⟩
        · rintro σ' H7 ⟨e7, g1, g2, v3, v6, rfl⟩
          have npf5 : pf ≠ pl := fun z => by
            rw [← z, hf4] at npl
            cases npl
          refine q_app g1 (ev_var rfl) ev_c (by rw [hl5M]; omega) fun H8 e8 => ?_
          refine s_app (by rw [upd_ne npf5]; exact e8 _ _ (e7 _ _ hf4)) (ev_var rfl) ev_c (by omega) fun H9 e9 => ?_
          have npl4 : H4 pl = none := npl
          have e49 : Ex H4 H9 := (Ex.mut (e7.trans e8) npl4).trans e9
          exact ⟨Ex.mut ((e3.trans e4).trans e49) (fresh_back e3 npf), _, _, _, _, rfl⟩
    · rintro σ' H3 ⟨e3, v3, v4, v5, v6, rfl⟩
      have hx3 := hx.ex e3
      have hxs3 := e3 _ _ hxs
      refine ⟨_, rfl, xb, rfl, ⟨xs, sq_of hxs3⟩, fun Dl hD => ?_⟩
      refine lc_fresh (fun i => xs.getD i .non) ((walk_list (K := K) (a := xb) (xs := xs)).mono (fun _ h => h) fun i H0 x H0' hi _ ⟨z1, z2⟩ => ⟨z1, by rw [List.getD_eq_getElem?_getD, z2] <;> rfl⟩) hD (by omega) (fun H' e' => sq_of (e' _ _ hxs3)) (fun _ => rfl)
        (fun i o => ∃ zs L, o = .tup zs ∧ Ls[i]? = some L ∧ Paired (IsRow H3) zs L) (fun i hi H' e' Q' q' => ?_) fun H4 ts e4 h1 h2 h3 => ?_
      · obtain ⟨L0, hL0, b, zs, eb, hb, hzs⟩ := Paired.at_l hxp i xs[i] (List.getElem?_eq_getElem hi)
        have eg : xs.getD i .non = .ref b := by rw [List.getD_eq_getElem?_getD, List.getElem?_eq_getElem hi, eb] <;> rfl
        refine ⟨_, rfl, b, zs, by rw [eg], .inl ⟨sq_of ((e3.trans e') _ _ hb), fun l hl => ?_⟩⟩
        exact q' l _ hl (Ex.new hl) ⟨_, upd_same, zs, L0, rfl, hL0, Paired.imp (fun _ _ h => h.ex e3) hzs⟩
      · refine ⟨Dl, ts, rfl, .inl ⟨sq_of h1, fun rg hrg => ?_⟩⟩
        have eR : Ex H4 (upd H4 rg (.tup ts)) := Ex.new hrg
        have hrig : Lss (upd H4 rg (.tup ts)) (.ref rg) Ls := by
          refine ⟨rg, ts, rfl, .inr upd_same, paired_of (by rw [h2, lxs]) fun i y L0 hy hL0 => ?_⟩
          obtain ⟨q, o, z1, _, _, z4, zs, L', z5, z6, z7⟩ := h3 i y hy
          rw [hL0] at z6
          cases z6
          exact ⟨q, zs, z1, .inr (by rw [← z5]; exact eR _ _ z4), Paired.imp (fun _ _ h => h.ex (e4.trans eR)) z7⟩
        have e35 : Ex H3 (upd H4 rg (.tup ts)) := e4.trans eR
        generalize hH5 : upd H4 rg (HO.tup ts) = H5 at hrig e35
        have eH5 := e3.trans e35
        refine ⟨_, rfl, .ref rg, Ls, R, n, rfl, hrig, ho, hR, fun pf H6 npf e6 ⟨ys, ds, lev1, ahd1, M1, hf6, hfp6, hch, hsub, L1, hM1, hdM⟩ => ?_⟩
        have eM1 : M1 = M := count_unique L1 L hRm hM1 hM
        have lys : ys.length = M := by rw [Paired.length hfp6, hdM, eM1]
        have eH6 := eH5.trans e6
        have right : ∀ H7, Ex H6 H7 → Ev (tCall sp__law_are_right [] E0 (tCons (tVar 0) (tCons (tVar 4) (tCons (fun σ H Q => tVar 7 σ H fun v H1 => sp_common_levels [v] H1 Q E0) tNil)))) [some (.ref xb), some (.int (M : Int)), some (.str (ld Ls).shown), v3, some (.ref pf), v5, v6, some (.ref rg)] H7 (.bl true) := fun H7 e7 H8 e8 Q' q' => by
          have e68 := e7.trans e8
          refine ⟨_, rfl, _, rfl, _, rfl, .ref rg, Ls, R, n, rfl, hrig.ex (e6.trans e68), ho, hR, fun pl H9 npl e9 hres => ?_⟩
          obtain ⟨hLv, _⟩ := hres.v hRm L1 hM1
          exact spv__law_are_right (hx.ex (eH6.trans (e68.trans e9))) ho hR ((e68.trans e9) _ _ hf6) (Paired.imp (fun _ _ h => h.ex (e68.trans e9)) hfp6) hch hsub hdM L1 hM1 hLv H9 (Ex.refl H9) Q' (fun H10 e10 => q' H10 (e9.trans e10)) E0
        refine q_when (et_or (et_not (et_B (ev_isi (ev_var rfl) (ty_lst hf6) (kT (b := true) (by decide +kernel))))) fun _ => et_or (et_test (ev_op (ev_lenS (ev_var rfl) (.inl hf6)) (ev_var rfl) (rv_ne rfl))) fun _ => et_not (et_B (right H6 (Ex.refl H6)))) (fun h => ?_) fun _ H7 e7 => ?_
        · rw [lys] at h
          simp at h
        · have eH7 := eH6.trans e7
          have hx7 := hx.ex eH7
          have hxs7 := eH7 _ _ hxs
          refine q_when (b := decide ((1 : Int) < (xs.length : Int)) && false) (et_and (et_I0 (ev_lenS (ev_var rfl) (.inl hxs7)) ev_c) fun hb => ?_) (fun h => ?_) fun _ H8 e8 => ?_
          · have h2 : 2 ≤ Ls.length := by have := of_decide_eq_true hb; omega
            obtain ⟨S, hS⟩ : ∃ S, Ls[1]? = some S := ⟨Ls[1], List.getElem?_eq_getElem (by omega)⟩
            have eT : Ls.take 2 = [R, S] := by
              match Ls, hR, hS with
              | _ :: _ :: _, hR, hS =>
                cases (Option.some.inj (show some _ = some R from hR))
                cases (Option.some.inj (show some _ = some S from hS))
                rfl
            have hoT := ho.take (k := 2) (by decide)
            intro H8 e8 Q' q'
            have e8' := eH7.trans e8
            have hx8 := hx.ex e8'
            refine el_sl (K := K) (σ := [some (.ref xb), some (.int (M : Int)), some (.str (ld Ls).shown), v3, some (.ref pf), v5, v6, some (.ref rg)]) (te := tVar 0) (lo := none) (hi := some ((2 : Nat) : Int)) (ev_var rfl) eo_none (eo_some ev_c) (sq_of (e8' _ _ hxs)) H8 (Ex.refl H8) _ fun ps H9 _ e9 hps => ?_
            rw [cutV_to _ _ (by omega)] at hps
            have hL9 : Lss H9 (.ref ps) (Ls.take 2) := ⟨ps, _, rfl, .inl hps, Paired.take 2 (Paired.imp (fun _ _ h => (LRw.rws h).ex (e8'.trans e9)) hxp)⟩
            refine ⟨_, Ls.take 2, R, n, rfl, hL9, hoT, by rw [eT] <;> rfl, fun pl H10 npl e10 ⟨ysl, levl, ahdl, Ml, g1, g2, g3, g4, _⟩ => ?_⟩
            have lenl : Ev (tCB (rLenS K) (tCons (tC (.ref pl)) tNil)) [] H10 (.int (ysl.length : Int)) := ev_lenS ev_c (.inl g1)
            refine ⟨pl, ysl, rfl, .inl (sq_of g1), ?_⟩
            have e10' := (e8'.trans e9).trans e10
            obtain ⟨x0, hx0, hr0⟩ := Paired.at_r hxp 0 R hR
            obtain ⟨x1, hx1, hr1⟩ := Paired.at_r hxp 1 S hS
            refine ev_ixL (K := K) (σ := [some (.ref xb), some (.int (M : Int)), some (.str (ld Ls).shown), v3, some (.ref pf), v5, v6, some (.ref rg)]) (ta := tVar 0) (tb := tC (.int 0)) (i := 0) (ev_var rfl) ev_c (sq_of (e10' _ _ hxs)) (atI_nat (j := 0) hx0) H10 (Ex.refl H10) _ fun H11 e11 => ?_
            refine ev_ixL (K := K) (σ := [some (.ref xb), some (.int (M : Int)), some (.str (ld Ls).shown), v3, some (.ref pf), v5, v6, some (.ref rg)]) (ta := tVar 0) (tb := tC (.int 1)) (i := 1) (ev_var rfl) ev_c (sq_of ((e10'.trans e11) _ _ hxs)) (atI_nat (j := 1) hx1) H11 (Ex.refl H11) _ fun H12 e12' => ?_
            have e12'' := (e10'.trans e11).trans e12'
            refine ⟨_, _, R, S, n, rfl, (hr0.ex e12'').rws, (hr1.ex e12'').rws, oR, ho.pm R hRm S (List.mem_of_getElem? hS), fun pq H13 e13 ⟨ysq, levq, ahdq, Mq, w1, w2, w3, w4⟩ => ?_⟩
            refine ⟨pq, ysq, rfl, .inl (sq_of w1), ?_⟩
            have eqM : Ml = Mq := count_unique (Ls := [R, S]) (R0 := R) (by rw [← eT]; exact g3) w3 List.mem_cons_self g4 w4
            refine ⟨rfl, false, ?_, q' H13 (((e9.trans e10).trans e11).trans (e12'.trans e13))⟩
            rw [g2, w2, eqM, decide_eq_true rfl] <;> rfl
          · rw [Bool.and_false] at h
            cases h
          · refine s_ret (ev_is (ev_op (ev_repr (K := K) (ev_var rfl) (hx7.ex e8) ho) (ev_var rfl) (rv_eq rfl)) (by rw [decide_eq_true rfl])) fun H9 e9 => k H9 (eH7.trans (e8.trans e9))
end
end Mv
/-! law. -/
namespace Mv
open PySem PySem.Spec PyProof.Rows L2 Evl
theorem ev_min2 {σ : L2.St} {H : Hp} {ta tb : TE} {i j : Int} (ha : Ev ta σ H (.int i)) (hb : Ev tb σ H (.int j)) : Ev (tCB (fun xs H Q => ∃ i j, xs = [V.int i, .int j] ∧ Q (.int (if j < i then j else i)) H) (tCons ta (tCons tb tNil))) σ H (.int (if j < i then j else i)) := fun H1 e Q q =>
  ha H1 e _ fun H2 e2 => hb H2 (e.trans e2) _ fun H3 e3 => ⟨i, j, rfl, q H3 (e2.trans e3)⟩
theorem ne_many {H : Hp} {mb : Addr} {ys : List V} {Ls : List (List (List Int))} {x : V} {rs : List (List Int)} (h : H mb = some (.lst ys)) (hp : Paired (LRw H) ys Ls) (hne : ys ≠ []) (hx : LRw H x rs) : x ≠ .ref mb := fun z => by
  obtain ⟨b, zs, rfl, h1, h2⟩ := hx
  cases z
  rw [h] at h1
  injection h1 with h1
  injection h1 with h1
  subst h1
  cases ys with
  | nil => exact hne rfl
  | cons y l =>
    obtain ⟨L, _, b, _, e, g1, _⟩ := Paired.mem_l hp y List.mem_cons_self
    obtain ⟨r, _, c, e2, g2⟩ := Paired.mem_l h2 y List.mem_cons_self
    rw [e] at e2
    cases e2
    rw [g1] at g2
    cases g2
theorem OkLists.one {w : Nat} {rs : List (List Int)} (h : OkRows w rs) : OkLists w [rs] where
  ne := fun z => nomatch z
  six := show 1 ≤ 6 by decide
  ok := fun q hq => by rw [List.mem_singleton.mp hq]; exact h
  pm := fun q hq s hs => by rw [List.mem_singleton.mp hq, List.mem_singleton.mp hs]
theorem OkLists.snoc {w : Nat} {Ls : List (List (List Int))} {L cs : List (List Int)} (h : OkLists w Ls) (hL : L ∈ Ls) (pm : cs.Perm L) (h6 : Ls.length ≤ 5) : OkLists w (Ls ++ [cs]) where
  ne := fun z => by
    have := congrArg List.length z
    rw [List.length_append, List.length_singleton] at this
    exact absurd this (by simp)
  six := by rw [List.length_append, List.length_singleton]; omega
  ok := fun q hq => by
    rcases List.mem_append.mp hq with hq | hq
    · exact h.ok q hq
    · rw [List.mem_singleton.mp hq]
      exact (h.ok L hL).perm pm
  pm := fun q hq s hs => by
    have to : ∀ z ∈ Ls ++ [cs], z.Perm L := fun z hz => by
      rcases List.mem_append.mp hz with hz | hz
      · exact h.pm L hL z hz
      · rw [List.mem_singleton.mp hz]; exact pm
    exact (to s hs).trans (to q hq).symm
theorem OkLists.rev {w : Nat} {Ls : List (List (List Int))} (h : OkLists w Ls) : OkLists w Ls.reverse where
  ne := fun z => h.ne (List.reverse_eq_nil_iff.mp z)
  six := by rw [List.length_reverse]; exact h.six
  ok := fun q hq => h.ok q (List.mem_reverse.mp hq)
  pm := fun q hq s hs => h.pm q (List.mem_reverse.mp hq) s (List.mem_reverse.mp hs)
section
variable {P : Program} {w : World} {K : PySem.W.Frag} {mg : Str → Option Value} {base : Heap} {a : Nat → Addr} {d : Nat → FuncData} {tk : Nat → Tok}
def sp_law (K : PySem.W.Frag) : Sp := fun vs H Q _ => ∃ (p : Addr) (ns : List Int), vs = [.ref p] ∧ SqL K H p (ns.map V.int) ∧ ns.length ≤ 63 ∧ ∀ H', Q (.bl true) H'
theorem ok_law (T : All K mg a d tk) : FnG P w K mg base CX0 9 (a 26) (d 26) ["script"] (sp_law K) := by
  refine okG T.F_law.fn sc_law (fun vs H Q E h => ?_) (fun cdv A outer s H vs Q E hgd hr h => ?_)
  · obtain ⟨p, ns, rfl, _⟩ := h
    rfl
  · obtain ⟨sc, ns, rfl, hs, h63, k⟩ := h
    have nd := sc_law.nd
    refine ⟨_, (pss_cons (ps_for PassesOwn.never rfl (pi_range1 rfl T.n_range (pa_cons (pe_callB (call_max2 rfl) (by rfl) T.n_max PyProof.Rows.boot_max (pa_cons pe_int (pa_cons (pe_callB (call_min2 rfl) (by rfl) T.n_min PyProof.Rows.boot_min (pa_cons pe_int (pa_cons (pe_callB call_len_seq (by rfl) T.n_len PySem.boot_len (pa_cons (pv 0) pa_nil)) pa_nil))) pa_nil))) pa_nil)) (pg_name (i := 1) nd rfl (Or.inl rfl))
 (pss_cons (ps_set (i := 2) nd rfl (Or.inl rfl) (pe_call (ok__law_box T) (hr.mono (by decide)) rfl T.F__law_box.m T.F__law_box.kp T.F__law_box.b .nil pass0 (pa_cons (pe_call (ok__law_cell T) (hr.mono (by decide)) rfl T.F__law_cell.m T.F__law_cell.kp T.F__law_cell.b .nil pass0 (pa_cons (pv 0) (pa_cons (pv 1) pa_nil))) pa_nil)))
 (pss_cons (ps_set (i := 3) nd rfl (Or.inl rfl) (pe_call (ok__law_rows T) (hr.mono (by decide)) rfl T.F__law_rows.m T.F__law_rows.kp T.F__law_rows.b .nil pass0 (pa_cons (pv 2) (pa_cons (pe_call (ok__law_take T) (hr.mono (by decide)) rfl T.F__law_take.m T.F__law_take.kp T.F__law_take.b .nil pass0 (pa_cons (pv 2) (pa_cons (pe_ix ix_list (pe_lst (pa_cons pe_int (pa_cons pe_int (pa_cons pe_int (pa_cons pe_int pa_nil))))) (pe_call (ok__law_take T) (hr.mono (by decide)) rfl T.F__law_take.m T.F__law_take.kp T.F__law_take.b .nil pass0 (pa_cons (pv 2) (pa_cons pe_int pa_nil))) (fun _ _ => rfl)) pa_nil))) pa_nil))))
 (pss_cons (ps_set (i := 4) nd rfl (Or.inl rfl) (pe_lst (pa_cons (pv 3) pa_nil)))
 (pss_cons (ps_for PassesOwn.never rfl (pi_range1 rfl T.n_range (pa_cons (pe_call (ok__law_take T) (hr.mono (by decide)) rfl T.F__law_take.m T.F__law_take.kp T.F__law_take.b .nil pass0 (pa_cons (pv 2) (pa_cons pe_int pa_nil))) pa_nil)) (pg_name (i := 5) nd rfl (Or.inl rfl))
 (pss_one (ps_expr (pe_bm PySem.F.plainAttrs_list PySem.F.slot_list_append PySem.F.type_list_append mt_append (pv 4) (pa_cons (pe_call (ok__law_other T) (hr.mono (by decide)) rfl T.F__law_other.m T.F__law_other.kp T.F__law_other.b .nil pass0 (pa_cons (pv 2) (pa_cons (pe_ix ix_list (pv 4) (pe_call (ok__law_take T) (hr.mono (by decide)) rfl T.F__law_take.m T.F__law_take.kp T.F__law_take.b .nil pass0 (pa_cons (pv 2) (pa_cons (pe_callB call_len_seq (by rfl) T.n_len PySem.boot_len (pa_cons (pv 4) pa_nil)) pa_nil))) (fun _ _ => rfl)) pa_nil))) pa_nil)))))
 (pss_one (ps_if (PW.pt (pw_or (pt_not (pt_val (pe_callG (ok__law_right T) hgd (hr.mono (by decide)) rfl T.F__law_right.m T.F__law_right.kp T.F__law_right.b .nil pass0 (pa_cons (pv 4) pa_nil)))) (pw_or1 (pt_not (pt_val (pe_callG (ok__law_right T) hgd (hr.mono (by decide)) rfl T.F__law_right.m T.F__law_right.kp T.F__law_right.b .nil pass0 (pa_cons (pe_revL (pv 4)) pa_nil)))))))
 (pss_one (ps_ret pe_bl))
 pss_nil)))))))
 (pss_one (ps_ret pe_bl))), ?_⟩
    let Ov : Nat → L2.St → Hp → Prop := fun _ σ' H' => Ex H H' ∧ ∃ v1 v2 v3 v4 v5, σ' = [some (.ref sc), v1, v2, v3, v4, v5]
    have nn : ∀ l : Nat, 0 ≤ (if (if (l : Int) < 5 then (l : Int) else 5) > 2 then (if (l : Int) < 5 then (l : Int) else 5) else (2 : Int)) ∧ (if (if (l : Int) < 5 then (l : Int) else 5) > 2 then (if (l : Int) < 5 then (l : Int) else 5) else (2 : Int)) ≤ 5 := fun l => by
      split <;> split <;> omega
    have n1 := nn (ns.map V.int).length
    refine q_forR1 (ea_cons (ev_max2 ev_c (ev_min2 ev_c (ev_len (ev_var rfl) hs))) ea_nil) ⟨n1.1, by omega⟩ Ov (fun H1 e1 => ⟨e1, _, _, _, _, _, rfl⟩) ?_ fun σ' H' ⟨_, v1, v2, v3, v4, v5, hσ⟩ => ?_
    · rintro i σ' H1 hi ⟨e1, v1, v2, v3, v4, v5, rfl⟩
      have hi5 : i ≤ 100 := by omega
      refine ⟨_, rfl, _, rfl, sc, ns, i, rfl, ex_l e1 hs, hi5, fun c H2 e2 => ⟨c, rfl, fun p H3 np e3 hB => ?_⟩⟩
      have np1 : H1 p = none := fresh_back e2 np
      have e13 := e2.trans e3
      refine ⟨_, rfl, _, rfl, sz_of (show 4 ≤ 100000 by decide), fun tl htl => ?_⟩
      have btl : p ≠ tl := hB.ne htl
      refine ⟨_, rfl, p, 4, 0, rfl, by decide, by decide, hB.upd btl, by decide, fun i0 H4 i0a i0b e4 hB4 => ?_⟩
      have htl4 : H4 tl = some (.lst [V.int 5, .int 12, .int 12, .int 61]) := e4 _ _ (Ne.symm btl) upd_same
      obtain ⟨top, htop, t1, t2⟩ : ∃ top : Int, atI [V.int 5, .int 12, .int 12, .int 61] i0 = some (.int top) ∧ 1 ≤ top ∧ top ≤ 61 := by
        have : i0 = 0 ∨ i0 = 1 ∨ i0 = 2 ∨ i0 = 3 := by omega
        rcases this with z | z | z | z
        · subst z; exact ⟨5, rfl, by decide, by decide⟩
        · subst z; exact ⟨12, rfl, by decide, by decide⟩
        · subst z; exact ⟨12, rfl, by decide, by decide⟩
        · subst z; exact ⟨61, rfl, by decide, by decide⟩
      refine ⟨tl, _, i0, _, rfl, rfl, sq_of htl4, htop, ?_⟩
      refine ⟨p, top, 1, rfl, t1, by omega, hB4, by decide, fun i1 H5 i1a i1b e5 hB5 => ?_⟩
      have eB5 : ExB p H1 H5 := ((Ex.b e13).trans (Ex.b (Ex.new htl))).trans (e4.trans e5)
      obtain ⟨m, rfl, hm60⟩ : ∃ m : Nat, i1 = (m : Int) ∧ m ≤ 60 := ⟨i1.toNat, by omega, by omega⟩
      refine ⟨p, m, 2, rfl, hm60, hB5, by decide, fun vr rs wd H6 hrs hok e6 hB6 => ?_⟩
      have eB6 : ExB p H1 H6 := eB5.trans e6
      refine ⟨_, rfl, sz_of (show 1 ≤ 100000 by decide), fun mb hmb => ?_⟩
      have bmb : p ≠ mb := hB6.ne hmb
      have nmb1 : H1 mb = none := eB6.back (Ne.symm bmb) hmb
      have eM : Ex H6 (upd H6 mb (.lst [vr])) := Ex.new hmb
      have hB7 := hB6.ex eM
      refine ⟨_, rfl, p, 6, _, rfl, by decide, by decide, hB7, by decide, fun lp H8 l0 l1 e8 hB8 => ?_⟩
      refine ⟨lp, rfl, by omega, by omega, ?_⟩
      have hmb8 : H8 mb = some (.lst [vr]) := e8 _ _ (Ne.symm bmb) upd_same
      have eB8 : ExB p H1 H8 := (eB6.trans (Ex.b eM)).trans e8
      let Lv : Nat → L2.St → Hp → Prop := fun j σ' H' => ExB p H1 H' ∧ BoxAt H' p (2000 + 300 * j) ∧ ∃ (ys : List V) (Ls : List (List (List Int))) (v5 : Option V), σ' = [some (.ref sc), some (.int (i : Int)), some (.ref p), some vr, some (.ref mb), v5] ∧
        H' mb = some (.lst ys) ∧ Paired (LRw H') ys Ls ∧ OkLists wd Ls ∧ Ls.length ≤ j + 1
      refine for_range (lo := 0) (n := lp.toNat) Lv ⟨eB8, hB8.mono (by omega), [vr], [rs], _, rfl, hmb8, .cons ((hrs.ex eM).exB hB7 e8) .nil, .one hok, Nat.le_refl _⟩ ?_ ?_
      · rintro j σ' H9 hj ⟨e9, hB9, ys, Ls, v5, rfl, hmb9, hp9, ho9, hl9⟩
        have hj5 : j < 5 := by omega
        have lys : ys.length = Ls.length := Paired.length hp9
        have hpos : 0 < Ls.length := List.length_pos_iff.mpr ho9.ne
        have hne : ys ≠ [] := fun z => by rw [z] at lys; simp at lys; omega
        refine ⟨_, rfl, .inl ⟨rfl, ys, sq_of hmb9⟩, _, rfl, _, rfl, _, rfl, _, rfl, mb, ys, rfl, .inl (sq_of hmb9), ?_⟩
        refine ⟨p, (ys.length : Int), _, rfl, by omega, by omega, hB9, by omega, fun c H10 c0 c1 e10 hB10 => ?_⟩
        have hmb10 : H10 mb = some (.lst ys) := e10 _ _ (Ne.symm bmb) hmb9
        have hp10 : Paired (LRw H10) ys Ls := Paired.imp (fun _ _ h => LRw.exB h hB9 e10) hp9
        obtain ⟨cn, rfl, hcn⟩ : ∃ cn : Nat, c = (cn : Int) ∧ cn < ys.length := ⟨c.toNat, by omega, by omega⟩
        have gy := List.getElem?_eq_getElem hcn
        obtain ⟨L, hL, hrow⟩ := Paired.at_l hp10 _ _ gy
        have mL := List.mem_of_getElem? hL
        refine ⟨mb, ys, (cn : Int), _, rfl, rfl, sq_of hmb10, atI_nat gy, ?_⟩
        refine ⟨p, ys[cn], L, _, rfl, hrow, (ho9.ok L mL).few, hB10, by omega, fun v cs H11 hv pm e11 hB11 => ?_⟩
        have hmb11 : H11 mb = some (.lst ys) := e11 _ _ (Ne.symm bmb) hmb10
        have hp11 : Paired (LRw H11) ys Ls := Paired.imp (fun _ _ h => LRw.exB h hB10 e11) hp10
        have nv := ne_many hmb11 hp11 hne hv
        refine ⟨mb, ys, v, rfl, rfl, hmb11, Nat.lt_of_le_of_lt (by omega) (show 1000 < sizeLine by decide), ?_⟩
        refine ⟨((e9.trans e10).trans e11).mut nmb1, (hB11.upd bmb).mono (by omega), ys ++ [v], Ls ++ [cs], _, rfl, upd_same, ?_, ho9.snoc mL pm (by omega), by rw [List.length_append, List.length_singleton]; omega⟩
        refine Paired.append ?_ (.cons (LRw.upd hv hmb11 (lst_ntup ys) nv) .nil)
        refine paired_of lys fun i2 y L2' hy hL2 => ?_
        obtain ⟨L3, hL3, hz⟩ := Paired.at_l hp11 i2 y hy
        rw [hL2] at hL3
        cases hL3
        exact LRw.upd hz hmb11 (lst_ntup ys) (ne_many hmb11 hp11 hne hz)
      · rintro σ' H9 ⟨e9, hB9, ys, Ls, v5, rfl, hmb9, hp9, ho9, hl9⟩
        have e19 : Ex H1 H9 := fun b o h => e9 b o (fun z => by rw [z, np1] at h; cases h) h
        have hll : LLs H9 (.ref mb) Ls := ⟨mb, ys, rfl, hmb9, hp9⟩
        have r1 : ∀ H10, Ex H9 H10 → Ev (tCall sp__law_right [] E0 (tCons (tVar 4) tNil)) [some (.ref sc), some (.int (i : Int)), some (.ref p), some vr, some (.ref mb), v5] H10 (.bl true) := fun H10 e10 H11 e11 Q' q' => ⟨_, rfl, _, Ls, wd, rfl, hll.ex (e10.trans e11), ho9, q'⟩
        have r2 : ∀ H10, Ex H9 H10 → Ev (tCall sp__law_right [] E0 (tCons (tRevL K (tVar 4)) tNil)) [some (.ref sc), some (.int (i : Int)), some (.ref p), some vr, some (.ref mb), v5] H10 (.bl true) := fun H10 e10 H11 e11 Q' q' => by
          have e9' := e10.trans e11
          refine ⟨_, rfl, mb, ys, rfl, sq_of (e9' _ _ hmb9), fun pr hpr => ?_⟩
          have eN : Ex H11 (upd H11 pr (.lst ys.reverse)) := Ex.new hpr
          exact ⟨_, Ls.reverse, wd, rfl, ⟨pr, _, rfl, upd_same, Paired.rev (Paired.imp (fun _ _ h => LRw.ex h (e9'.trans eN)) hp9)⟩, ho9.rev, fun H12 e12 => q' H12 (eN.trans e12)⟩
        refine s_when (et_or (et_not (et_B (r1 H9 (Ex.refl H9)))) fun _ => et_not (et_B (r2 H9 (Ex.refl H9)))) (fun h => nomatch h) fun _ H10 e10 => ⟨e1.trans (e19.trans e10), _, _, _, _, _, rfl⟩
    · subst hσ
      exact s_ret ev_c fun H2 e2 => k H2
end
/-! ### what the top has written -/
def FE (K : PySem.W.Frag) (mg : Str → Option Value) (x : Str) (st : Stmt) (ps : List Str) : Prop := ∃ f fd, FD K mg x st f fd ps
theorem fe_mk {K : PySem.W.Frag} {h : Heap} {mg : Str → Option Value} {x : Str} {st : Stmt} {ps : List Str} (X : K.In h) (G : h.Ns mainGlobals mg) {f : Addr} {oc : Value} {od an : Option Addr} {osl : Array (Option Value)} {kV doc pm cdv ct : Value}
    (hn : PySem.W.nsIn K mainGlobals x = some (some (.ref f))) (l : K.lookup f = some ⟨oc, od, .func (PySem.W.fnOf x x (defArgs st) (defBody st) (defScope st) .none kV doc pm an cdv ct), osl⟩) (c : PySem.W.codeIn K cdv x = true) (k : PySem.W.keepIn K (.ref f) = true)
    (b : ∀ (kV doc pm : Value) (an : Option Addr) (cdv ct : Value) (us : List Value), us.length = ps.length → bindArgs (PySem.W.fnOf x x (defArgs st) (defBody st) (defScope st) .none kV doc pm an cdv ct) ⟨us, []⟩ = pure (ps.zip us)) : FE K mg x st ps :=
  ⟨f, _, fun_mk (st := st) l c k, PySem.W.mg_of X G hn, k, (fun_mk (st := st) l c k).binds b⟩
theorem all_mk {K : PySem.W.Frag} {h : Heap} {mg : Str → Option Value} (X : K.In h) (G : h.Ns mainGlobals mg) (h0 : FE K mg "is_integer" s_is_integer ["value", "low", "high"]) (h1 : FE K mg "is_list" s_is_list ["value"]) (h2 : FE K mg "is_row" s_is_row ["value", "width"]) (h3 : FE K mg "is_any_row" s_is_any_row ["value"]) (h4 : FE K mg "are_rows" s_are_rows ["value"]) (h5 : FE K mg "need_rows" s_need_rows ["value"]) (h6 : FE K mg "need_pair" s_need_pair ["one", "other"]) (h7 : FE K mg "places_of" s_places_of ["rows"]) (h8 : FE K mg "piles_of" s_piles_of ["one", "other"]) (h9 : FE K mg "longest_of" s_longest_of ["one", "other"]) (h10 : FE K mg "stays" s_stays ["one", "other"]) (h11 : FE K mg "need_lists" s_need_lists ["lists"]) (h12 : FE K mg "levels_of" s_levels_of ["lists"]) (h13 : FE K mg "common_rows" s_common_rows ["lists"]) (h14 : FE K mg "common_levels" s_common_levels ["lists"]) (h15 : FE K mg "_law_cell" s__law_cell ["script", "k"]) (h16 : FE K mg "_law_box" s__law_box ["cell"]) (h17 : FE K mg "_law_take" s__law_take ["box", "many"]) (h18 : FE K mg "_law_mixed" s__law_mixed ["box", "things"]) (h19 : FE K mg "_law_rows" s__law_rows ["box", "many"]) (h20 : FE K mg "_law_other" s__law_other ["box", "rows"]) (h21 : FE K mg "_law_places" s__law_places ["many"]) (h22 : FE K mg "_law_ahead" s__law_ahead ["places", "one", "other"]) (h23 : FE K mg "_law_most" s__law_most ["many"]) (h24 : FE K mg "_law_are_right" s__law_are_right ["many", "found", "levels"]) (h25 : FE K mg "_law_right" s__law_right ["many"]) (h26 : FE K mg "law" s_law ["script"]) (z_bool : PySem.W.nsIn K mainGlobals "bool" = some none) (z_int : PySem.W.nsIn K mainGlobals "int" = some none) (z_list : PySem.W.nsIn K mainGlobals "list" = some none) (z_tuple : PySem.W.nsIn K mainGlobals "tuple" = some none) (z_dict : PySem.W.nsIn K mainGlobals "dict" = some none) (z_set : PySem.W.nsIn K mainGlobals "set" = some none) (z_len : PySem.W.nsIn K mainGlobals "len" = some none) (z_isinstance : PySem.W.nsIn K mainGlobals "isinstance" = some none) (z_all : PySem.W.nsIn K mainGlobals "all" = some none) (z_sorted : PySem.W.nsIn K mainGlobals "sorted" = some none) (z_enumerate : PySem.W.nsIn K mainGlobals "enumerate" = some none) (z_zip : PySem.W.nsIn K mainGlobals "zip" = some none) (z_max : PySem.W.nsIn K mainGlobals "max" = some none) (z_min : PySem.W.nsIn K mainGlobals "min" = some none) (z_range : PySem.W.nsIn K mainGlobals "range" = some none) (z_sum : PySem.W.nsIn K mainGlobals "sum" = some none) (z_repr : PySem.W.nsIn K mainGlobals "repr" = some none) {t0 : Tok} (c_MOST_VALUE : PySem.W.nsIn K mainGlobals "MOST_VALUE" = some (some (.int 999 t0))) {t1 : Tok} (c_MOST_ROWS : PySem.W.nsIn K mainGlobals "MOST_ROWS" = some (some (.int 60 t1))) {t2 : Tok} (c_MOST_LISTS : PySem.W.nsIn K mainGlobals "MOST_LISTS" = some (some (.int 6 t2))) {t3 : Tok} (c_WIDEST : PySem.W.nsIn K mainGlobals "WIDEST" = some (some (.int 5 t3))) : ∃ (a : Nat → Addr) (d : Nat → FuncData) (tk : Nat → Tok), All K mg a d tk := by
  obtain ⟨f0, d0, g0⟩ := h0
  obtain ⟨f1, d1, g1⟩ := h1
  obtain ⟨f2, d2, g2⟩ := h2
  obtain ⟨f3, d3, g3⟩ := h3
  obtain ⟨f4, d4, g4⟩ := h4
  obtain ⟨f5, d5, g5⟩ := h5
  obtain ⟨f6, d6, g6⟩ := h6
  obtain ⟨f7, d7, g7⟩ := h7
  obtain ⟨f8, d8, g8⟩ := h8
  obtain ⟨f9, d9, g9⟩ := h9
  obtain ⟨f10, d10, g10⟩ := h10
  obtain ⟨f11, d11, g11⟩ := h11
  obtain ⟨f12, d12, g12⟩ := h12
  obtain ⟨f13, d13, g13⟩ := h13
  obtain ⟨f14, d14, g14⟩ := h14
  obtain ⟨f15, d15, g15⟩ := h15
  obtain ⟨f16, d16, g16⟩ := h16
  obtain ⟨f17, d17, g17⟩ := h17
  obtain ⟨f18, d18, g18⟩ := h18
  obtain ⟨f19, d19, g19⟩ := h19
  obtain ⟨f20, d20, g20⟩ := h20
  obtain ⟨f21, d21, g21⟩ := h21
  obtain ⟨f22, d22, g22⟩ := h22
  obtain ⟨f23, d23, g23⟩ := h23
  obtain ⟨f24, d24, g24⟩ := h24
  obtain ⟨f25, d25, g25⟩ := h25
  obtain ⟨f26, d26, g26⟩ := h26
  refine ⟨fun i => match i with | 0 => f0 | 1 => f1 | 2 => f2 | 3 => f3 | 4 => f4 | 5 => f5 | 6 => f6 | 7 => f7 | 8 => f8 | 9 => f9 | 10 => f10 | 11 => f11 | 12 => f12 | 13 => f13 | 14 => f14 | 15 => f15 | 16 => f16 | 17 => f17 | 18 => f18 | 19 => f19 | 20 => f20 | 21 => f21 | 22 => f22 | 23 => f23 | 24 => f24 | 25 => f25 | 26 => f26 | _ => f0, fun i => match i with | 0 => d0 | 1 => d1 | 2 => d2 | 3 => d3 | 4 => d4 | 5 => d5 | 6 => d6 | 7 => d7 | 8 => d8 | 9 => d9 | 10 => d10 | 11 => d11 | 12 => d12 | 13 => d13 | 14 => d14 | 15 => d15 | 16 => d16 | 17 => d17 | 18 => d18 | 19 => d19 | 20 => d20 | 21 => d21 | 22 => d22 | 23 => d23 | 24 => d24 | 25 => d25 | 26 => d26 | _ => d0, fun i => match i with | 0 => t0 | 1 => t1 | 2 => t2 | _ => t3, ?_⟩
  exact {
    n_bool := PySem.W.mg_none_of X G z_bool
    n_int := PySem.W.mg_none_of X G z_int
    n_list := PySem.W.mg_none_of X G z_list
    n_tuple := PySem.W.mg_none_of X G z_tuple
    n_dict := PySem.W.mg_none_of X G z_dict
    n_set := PySem.W.mg_none_of X G z_set
    n_len := PySem.W.mg_none_of X G z_len
    n_isinstance := PySem.W.mg_none_of X G z_isinstance
    n_all := PySem.W.mg_none_of X G z_all
    n_sorted := PySem.W.mg_none_of X G z_sorted
    n_enumerate := PySem.W.mg_none_of X G z_enumerate
    n_zip := PySem.W.mg_none_of X G z_zip
    n_max := PySem.W.mg_none_of X G z_max
    n_min := PySem.W.mg_none_of X G z_min
    n_range := PySem.W.mg_none_of X G z_range
    n_sum := PySem.W.mg_none_of X G z_sum
    n_repr := PySem.W.mg_none_of X G z_repr
    c_MOST_VALUE := PySem.W.mg_of X G c_MOST_VALUE
    c_MOST_ROWS := PySem.W.mg_of X G c_MOST_ROWS
    c_MOST_LISTS := PySem.W.mg_of X G c_MOST_LISTS
    c_WIDEST := PySem.W.mg_of X G c_WIDEST
    F_is_integer := g0
    F_is_list := g1
    F_is_row := g2
    F_is_any_row := g3
    F_are_rows := g4
    F_need_rows := g5
    F_need_pair := g6
    F_places_of := g7
    F_piles_of := g8
    F_longest_of := g9
    F_stays := g10
    F_need_lists := g11
    F_levels_of := g12
    F_common_rows := g13
    F_common_levels := g14
    F__law_cell := g15
    F__law_box := g16
    F__law_take := g17
    F__law_mixed := g18
    F__law_rows := g19
    F__law_other := g20
    F__law_places := g21
    F__law_ahead := g22
    F__law_most := g23
    F__law_are_right := g24
    F__law_right := g25
    F_law := g26
    K_common_rows := fun s u => by
      obtain ⟨oc, od, kV, doc, pm, an, cdv, ct, osl, h1, _, _⟩ := g13.fn.ex
      show BindsTo s d13 _ _
      rw [h1]
      exact .of_eq rfl
    K_common_levels := fun s u => by
      obtain ⟨oc, od, kV, doc, pm, an, cdv, ct, osl, h1, _, _⟩ := g14.fn.ex
      show BindsTo s d14 _ _
      rw [h1]
      exact .of_eq rfl
  }
theorem walk {l : PySem.W.OpenLaw} {q : Program} {loose : List Str} {XP : (Str → Option Value) → Heap → Prop} {YP : World → Heap → Prop} {d : DefRec} {K : Params → PySem.W.Frag} (hn : l.most = some 63) (hdf : d.params.defaults = []) (hd : d.name = "law")
    (hY : ∀ (w : World) (h : Heap), YP w h → (K w.params).In h)
    (F : ∀ (w : World) (mg : Str → Option Value) (h : Heap), (K w.params).In h → h.Ns mainGlobals mg → ∃ (a : Nat → Addr) (d : Nat → FuncData) (tk : Nat → Tok), All (K w.params) mg a d tk) :
    PySem.W.WalkO q loose XP YP l.row.toRowW d [] (fun f vs => PySem.call f vs) := by
  refine walk_ofG (n := 63) (k := 9) (x := "script") (CX := fun _ => CX0) (sp := fun w => sp_law (K w.params)) hn (by decide) hdf ⟨rfl, by decide, by decide⟩ hY (fun w mg fa h KX G hmg => ?_) (fun _ _ a ns hl _ hS => ⟨a, ns, rfl, hS, hl, fun _ => rfl⟩) fun _ _ _ _ _ z => z
  obtain ⟨a, d', tk, T⟩ := F w mg h KX G
  rw [hd] at hmg
  have e := hmg.symm.trans T.F_law.m
  cases e
  refine ⟨d' 26, fun s u => ?_, fun base _ _ => ok_law T⟩
  obtain ⟨oc, od, kV, doc, pm, an, cdv, ct, osl, h1, _, _⟩ := T.F_law.fn.ex
  rw [h1]
  exact .of_eq rfl
end Mv
set_option maxHeartbeats 200000
open PySem PySem.W PyProof.Rows in
set_option maxRecDepth 100000 in
set_option maxHeartbeats 0 in
theorem PySem.Challenge.cw_orderwide_k50_rows_common_to_many_lists_holds : PySem.Challenge.rw_orderwide_k50_rows_common_to_many_lists.Holds := by
  w_on; o_law; k_head; (case hw => w_witness2)
  k_fill
  refine Mv.walk (l := PySem.Challenge.rw_orderwide_k50_rows_common_to_many_lists) rfl rfl rfl (fun w h Y => PySem.W.kIn_of Y) ?F
  case F =>
    intro w mg h KX G
    refine' Mv.all_mk KX G ?h0 ?h1 ?h2 ?h3 ?h4 ?h5 ?h6 ?h7 ?h8 ?h9 ?h10 ?h11 ?h12 ?h13 ?h14 ?h15 ?h16 ?h17 ?h18 ?h19 ?h20 ?h21 ?h22 ?h23 ?h24 ?h25 ?h26 ?z0 ?z1 ?z2 ?z3 ?z4 ?z5 ?z6 ?z7 ?z8 ?z9 ?z10 ?z11 ?z12 ?z13 ?z14 ?z15 ?z16 ?c0 ?c1 ?c2 ?c3
    case h0 =>
      refine' Mv.fe_mk KX G ?a ?l ?c ?k ?b
      (case a => k_is)
      (case l => k_is)
      (case c => k_is)
      (case k => k_is)
      (case b => exact fun _ _ _ _ _ _ us hl => match us, hl with | [_, _, _], _ => rfl)
    case h1 =>
      refine' Mv.fe_mk KX G ?a ?l ?c ?k ?b
      (case a => k_is)
      (case l => k_is)
      (case c => k_is)
      (case k => k_is)
      (case b => exact fun _ _ _ _ _ _ us hl => match us, hl with | [_], _ => rfl)
    case h2 =>
      refine' Mv.fe_mk KX G ?a ?l ?c ?k ?b
      (case a => k_is)
      (case l => k_is)
      (case c => k_is)
      (case k => k_is)
      (case b => exact fun _ _ _ _ _ _ us hl => match us, hl with | [_, _], _ => rfl)
    case h3 =>
      refine' Mv.fe_mk KX G ?a ?l ?c ?k ?b
      (case a => k_is)
      (case l => k_is)
      (case c => k_is)
      (case k => k_is)
      (case b => exact fun _ _ _ _ _ _ us hl => match us, hl with | [_], _ => rfl)
    case h4 =>
      refine' Mv.fe_mk KX G ?a ?l ?c ?k ?b
      (case a => k_is)
      (case l => k_is)
      (case c => k_is)
      (case k => k_is)
      (case b => exact fun _ _ _ _ _ _ us hl => match us, hl with | [_], _ => rfl)
    case h5 =>
      refine' Mv.fe_mk KX G ?a ?l ?c ?k ?b
      (case a => k_is)
      (case l => k_is)
      (case c => k_is)
      (case k => k_is)
      (case b => exact fun _ _ _ _ _ _ us hl => match us, hl with | [_], _ => rfl)
    case h6 =>
      refine' Mv.fe_mk KX G ?a ?l ?c ?k ?b
      (case a => k_is)
      (case l => k_is)
      (case c => k_is)
      (case k => k_is)
      (case b => exact fun _ _ _ _ _ _ us hl => match us, hl with | [_, _], _ => rfl)
    case h7 =>
      refine' Mv.fe_mk KX G ?a ?l ?c ?k ?b
      (case a => k_is)
      (case l => k_is)
      (case c => k_is)
      (case k => k_is)
      (case b => exact fun _ _ _ _ _ _ us hl => match us, hl with | [_], _ => rfl)
    case h8 =>
      refine' Mv.fe_mk KX G ?a ?l ?c ?k ?b
      (case a => k_is)
      (case l => k_is)
      (case c => k_is)
      (case k => k_is)
      (case b => exact fun _ _ _ _ _ _ us hl => match us, hl with | [_, _], _ => rfl)
    case h9 =>
      refine' Mv.fe_mk KX G ?a ?l ?c ?k ?b
      (case a => k_is)
      (case l => k_is)
      (case c => k_is)
      (case k => k_is)
      (case b => exact fun _ _ _ _ _ _ us hl => match us, hl with | [_, _], _ => rfl)
    case h10 =>
      refine' Mv.fe_mk KX G ?a ?l ?c ?k ?b
      (case a => k_is)
      (case l => k_is)
      (case c => k_is)
      (case k => k_is)
      (case b => exact fun _ _ _ _ _ _ us hl => match us, hl with | [_, _], _ => rfl)
    case h11 =>
      refine' Mv.fe_mk KX G ?a ?l ?c ?k ?b
      (case a => k_is)
      (case l => k_is)
      (case c => k_is)
      (case k => k_is)
      (case b => exact fun _ _ _ _ _ _ us hl => match us, hl with | [_], _ => rfl)
    case h12 =>
      refine' Mv.fe_mk KX G ?a ?l ?c ?k ?b
      (case a => k_is)
      (case l => k_is)
      (case c => k_is)
      (case k => k_is)
      (case b => exact fun _ _ _ _ _ _ us hl => match us, hl with | [_], _ => rfl)
    case h13 =>
      refine' Mv.fe_mk KX G ?a ?l ?c ?k ?b
      (case a => k_is)
      (case l => k_is)
      (case c => k_is)
      (case k => k_is)
      (case b => exact fun _ _ _ _ _ _ us hl => match us, hl with | [_], _ => rfl)
    case h14 =>
      refine' Mv.fe_mk KX G ?a ?l ?c ?k ?b
      (case a => k_is)
      (case l => k_is)
      (case c => k_is)
      (case k => k_is)
      (case b => exact fun _ _ _ _ _ _ us hl => match us, hl with | [_], _ => rfl)
    case h15 =>
      refine' Mv.fe_mk KX G ?a ?l ?c ?k ?b
      (case a => k_is)
      (case l => k_is)
      (case c => k_is)
      (case k => k_is)
      (case b => exact fun _ _ _ _ _ _ us hl => match us, hl with | [_, _], _ => rfl)
    case h16 =>
      refine' Mv.fe_mk KX G ?a ?l ?c ?k ?b
      (case a => k_is)
      (case l => k_is)
      (case c => k_is)
      (case k => k_is)
      (case b => exact fun _ _ _ _ _ _ us hl => match us, hl with | [_], _ => rfl)
    case h17 =>
      refine' Mv.fe_mk KX G ?a ?l ?c ?k ?b
      (case a => k_is)
      (case l => k_is)
      (case c => k_is)
      (case k => k_is)
      (case b => exact fun _ _ _ _ _ _ us hl => match us, hl with | [_, _], _ => rfl)
    case h18 =>
      refine' Mv.fe_mk KX G ?a ?l ?c ?k ?b
      (case a => k_is)
      (case l => k_is)
      (case c => k_is)
      (case k => k_is)
      (case b => exact fun _ _ _ _ _ _ us hl => match us, hl with | [_, _], _ => rfl)
    case h19 =>
      refine' Mv.fe_mk KX G ?a ?l ?c ?k ?b
      (case a => k_is)
      (case l => k_is)
      (case c => k_is)
      (case k => k_is)
      (case b => exact fun _ _ _ _ _ _ us hl => match us, hl with | [_, _], _ => rfl)
    case h20 =>
      refine' Mv.fe_mk KX G ?a ?l ?c ?k ?b
      (case a => k_is)
      (case l => k_is)
      (case c => k_is)
      (case k => k_is)
      (case b => exact fun _ _ _ _ _ _ us hl => match us, hl with | [_, _], _ => rfl)
    case h21 =>
      refine' Mv.fe_mk KX G ?a ?l ?c ?k ?b
      (case a => k_is)
      (case l => k_is)
      (case c => k_is)
      (case k => k_is)
      (case b => exact fun _ _ _ _ _ _ us hl => match us, hl with | [_], _ => rfl)
    case h22 =>
      refine' Mv.fe_mk KX G ?a ?l ?c ?k ?b
      (case a => k_is)
      (case l => k_is)
      (case c => k_is)
      (case k => k_is)
      (case b => exact fun _ _ _ _ _ _ us hl => match us, hl with | [_, _, _], _ => rfl)
    case h23 =>
      refine' Mv.fe_mk KX G ?a ?l ?c ?k ?b
      (case a => k_is)
      (case l => k_is)
      (case c => k_is)
      (case k => k_is)
      (case b => exact fun _ _ _ _ _ _ us hl => match us, hl with | [_], _ => rfl)
    case h24 =>
      refine' Mv.fe_mk KX G ?a ?l ?c ?k ?b
      (case a => k_is)
      (case l => k_is)
      (case c => k_is)
      (case k => k_is)
      (case b => exact fun _ _ _ _ _ _ us hl => match us, hl with | [_, _, _], _ => rfl)
    case h25 =>
      refine' Mv.fe_mk KX G ?a ?l ?c ?k ?b
      (case a => k_is)
      (case l => k_is)
      (case c => k_is)
      (case k => k_is)
      (case b => exact fun _ _ _ _ _ _ us hl => match us, hl with | [_], _ => rfl)
    case h26 =>
      refine' Mv.fe_mk KX G ?a ?l ?c ?k ?b
      (case a => k_is)
      (case l => k_is)
      (case c => k_is)
      (case k => k_is)
      (case b => exact fun _ _ _ _ _ _ us hl => match us, hl with | [_], _ => rfl)
    (case z0 => k_is)
    (case z1 => k_is)
    (case z2 => k_is)
    (case z3 => k_is)
    (case z4 => k_is)
    (case z5 => k_is)
    (case z6 => k_is)
    (case z7 => k_is)
    (case z8 => k_is)
    (case z9 => k_is)
    (case z10 => k_is)
    (case z11 => k_is)
    (case z12 => k_is)
    (case z13 => k_is)
    (case z14 => k_is)
    (case z15 => k_is)
    (case z16 => k_is)
    (case c0 => k_is)
    (case c1 => k_is)
    (case c2 => k_is)
    (case c3 => k_is)
#print axioms PySem.Challenge.cw_orderwide_k50_rows_common_to_many_lists_holds
