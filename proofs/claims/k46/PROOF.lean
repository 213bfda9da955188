import PyProof.Rows.All
import Wide.All
import OpenK.AllK
import Wide.FinOn
import PyProof.NeKinds
import PyProof.ReprRoads
import HandS.ForMost
import HandS.Deep
import HandS.TupSets
import KE.GoesEnum
import KE.GoesMore
import HandS.Walk
import PyProof.DictCompW
import HandS.DictComp
import HandS.SetBool
import HandS.Strs
import KE.KMinKey
import KE.KDictWalk
import HandS.TupMul
import HandS.SortKw
import Wide.Seal
import PyProof.Rows.SortShell
import PyProof.Rows.SortKey
import KE.KSortTup
import PyProof.IsInstanceT
import PyProof.IsiTuple
import PyProof.MinMaxWalk
import PyProof.DictWalks
import PyProof.DictRoads
import PyProof.DictStraight
import PyProof.WalksMore
import PyProof.ListOps
import KE.KDictPairs
import KE.KDictKeyed
import HandS.Conv
import PyProof.TupleCall
import HandS.Ends
import HandS.Evl
import HandS.IsInst
import HandS.Wide
import HandS.Style
import HandS.TryOnly
import HandS.Star
import HandS.TupLe
import HandS.Defaults
import HandS.GenCall
import PyProof.P3Eq
import PyProof.ReprLen
import KE.KRevSl
import HandS.GenList
import HandS.RaiseMore
import PySem.Challenge.RW_orderwide_k46_moves_planned_and_rows_tha
set_option Elab.async false
set_option linter.all false
set_option maxRecDepth 100000
set_option maxHeartbeats 4000000
/-! Further rules over the hand layer: either of two walks, lists held against [], the texts of nested data. -/
namespace Mv
open PySem PySem.Spec PyProof.Rows L2
section
variable {X : Cx}
/-- either of two ways to walk one thing -/
theorem pi_either {tg it : Expr} {w1 w2 : TI} (a : PI X tg it w1) (b : PI X tg it w2) : PI X tg it (fun σ H R => w1 σ H R ∨ w2 σ H R) :=
  ⟨fun pins s σ H R I h => h.elim (a.run pins s σ H R I) (b.run pins s σ H R I)⟩
theorem pe_either {e : Expr} {t1 t2 : TE} (a : PE X e t1) (b : PE X e t2) : PE X e (fun σ H Q => t1 σ H Q ∨ t2 σ H Q) :=
  ⟨fun pins s σ H Q I h => h.elim (a.run pins s σ H Q I) (b.run pins s σ H Q I)⟩
/-- a list or a tuple, walked -/
def iSeq (K : PySem.W.Frag) (tl : TE) : TI := fun σ H R => iList K tl σ H R ∨ iTup K tl σ H R
theorem pi_seq {tg l : Expr} {tl : TE} (h : PE X l tl) : PI X tg l (iSeq X.K tl) := pi_either (pi_list h) (pi_tup h)

/-! ### a list against an empty one -/
def rNilEq (K : PySem.W.Frag) (neg : Bool) : R2 := fun x y H Q => ∃ (a b : Addr) (xs : List V), x = .ref a ∧ y = .ref b ∧ SqL K H a xs ∧ SqL K H b [] ∧ Q (.bl (if neg = true then !xs.isEmpty else xs.isEmpty)) H
theorem nil_raw {pins : List (Addr × Obj)} {σ : L2.St} {H : Hp} {s : Shared} {a : Addr} {xs : List V} (I : Inv X pins σ H s) (h : SqL X.K H a xs) :
    ∃ its : Array Value, s.heap.IsList a its ∧ its.size = xs.length := by
  obtain ⟨its, r, p, _⟩ := I.list h
  exact ⟨its.toArray, p.isList, by rw [List.size_toArray]; exact r.length.symm⟩
theorem op_eqNil (hu : X.A.units < cLine) : OpR X (compareOp .Eq) (rNilEq X.K false) := by
  intro pins s σ H x y v u Q I rx ry h
  obtain ⟨a, b, xs, rfl, rfl, ha, hb, q⟩ := h
  cases rx
  cases ry
  obtain ⟨i1, l1, z1⟩ := nil_raw I ha
  obtain ⟨i2, l2, z2⟩ := nil_raw I hb
  have z2 : i2.size = 0 := z2
  cases xs with
  | nil =>
    have z1 : i1.size = 0 := z1
    refine PySem.SeqAt.eq_listAt (e := fun _ => true) l1 l2 (z1.trans z2.symm) hu (fun j h1 _ => absurd h1 (by omega)) ⟨.bl _, H, I, rfl, ?_⟩
    have e : ((List.range i1.size).all fun _ => true) = true := by simp
    rw [e]
    exact q
  | cons x r =>
    have z1 : i1.size = r.length + 1 := z1
    exact PySem.SeqAt.eq_list_lengthsAt l1 l2 (by rw [bne_iff_ne]; omega) hu ⟨.bl _, H, I, rfl, q⟩
theorem op_neNil (hu : X.A.units < cLine) : OpR X (compareOp .NotEq) (rNilEq X.K true) := by
  intro pins s σ H x y v u Q I rx ry h
  obtain ⟨a, b, xs, rfl, rfl, ha, hb, q⟩ := h
  cases rx
  cases ry
  obtain ⟨i1, l1, z1⟩ := nil_raw I ha
  obtain ⟨i2, l2, z2⟩ := nil_raw I hb
  have z2 : i2.size = 0 := z2
  cases xs with
  | nil =>
    have z1 : i1.size = 0 := z1
    have e : ((List.range i1.size).all fun _ => true) = true := by simp
    refine PySem.SeqAt.RcNeAt.lists (e := fun _ => true) l1 l2 (z1.trans z2.symm) hu (fun j h1 _ => absurd h1 (by omega)) _ _ _ _ ⟨.bl _, H, I, rfl, ?_⟩
    rw [e]
    exact q
  | cons x r =>
    have z1 : i1.size = r.length + 1 := z1
    exact PySem.SeqAt.RcNeAt.lists_lengths l1 l2 (by rw [bne_iff_ne]; omega) hu _ _ _ _ ⟨.bl _, H, I, rfl, q⟩

/-! ### the text of nested data (nothing else is being written out) -/
def rRepr (K : PySem.W.Frag) : List V → Hp → VK → Prop := fun xs H Q => ∃ (a : Addr) (d : PyData), xs = [.ref a] ∧ Dp K H (.ref a) d ∧ d.showable = true ∧ d.hasDict = false ∧ d.depth ≤ 60 ∧ d.shown.length ≤ sizeLine ∧ Q (.str d.shown) H
theorem call_repr (hg : X.A.guards = some []) (hu : X.A.units + 64 < cLine) : CallR X (.builtin "repr") (rRepr X.K) := by
  intro pins s σ H xs us Q I r h
  obtain ⟨a, d, rfl, hd, hs, hn, hz, hl, q⟩ := h
  cases r with
  | cons ra rt =>
    cases rt
    cases ra
    obtain ⟨as, rd⟩ := Dp.reads I d _ _ hd rfl
    exact repr_of_reads' rd hs (fun z => by rw [hn] at z; cases z) hg (by omega) (fun b o e => e) (fun h' u tk k => ⟨.str d.shown, H, I.kept k, ⟨u, rfl⟩, q⟩) hl
end
end Mv
/-! enumerate of a tuple that stays. -/
namespace Mv
open PySem PySem.Spec PyProof.Rows L2
open AutoSeq1 (wpAny_loadPart')
/-- what enumerate(a tuple) makes: its own record behind the tuple's iterator -/
theorem enum_new_tup (l : Addr) (items : Array Value) :
    Meets (Builtin.«enumerate.__new__» ⟨[.type "enumerate", .ref l], []⟩) (fun _ R s => s.heap.IsTuple l items ∧
      R (.ok (.ret (.ref (s.heap.push { cls := .type "tuple_iterator", data := .fields #[.ref l, .int 0 0] }).objs.size)))
        { s with heap := (s.heap.push { cls := .type "tuple_iterator", data := .fields #[.ref l, .int 0 0] }).push { cls := .type "enumerate", data := .fields #[.none, .bool false, .ref s.heap.objs.size, rawInt 0, .none, .none] } }) :=
  .of_wp fun prog w A R s h => by
    obtain ⟨hp, g, d, tk, os⟩ := s
    obtain ⟨hl, h⟩ := h
    have hsub := sub_enumerate
    have q1 : ∀ {A' : Around} {E : Value → Shared → Prop} {Q : Value → Shared → Prop}, Q (.ref hp.objs.size) ⟨hp.push { cls := .type "tuple_iterator", data := .fields #[.ref l, .int 0 0] }, g, d, tk, os⟩ →
        wpAny (model prog w) A' (pyIter (.ref l)) Q E ⟨hp, g, d, tk, os⟩ := fun q => (begins_tuple l items).iter prog w _ _ ⟨hp, g, d, tk, os⟩ _ hl q
    wp_walk using q1
    refine wpAny_stack_any fun st => wpAny_pure ?_
    split
    · rename_i c _ _ _ _ _
      cases (c == Value.type "enumerate") <;> (wp_walk using q1; exact ⟨_, rfl, h⟩)
    · wp_walk using q1
      exact ⟨_, rfl, h⟩
theorem enum_call_tup {prog : Program} {w : World} {A : Around} {E : Value → Shared → Prop} {s : Shared} {l : Addr} {items : Array Value} {Q : Value → Shared → Prop} (hL : s.heap.IsTuple l items)
    (h : ∀ h', IsEnum h' (s.heap.objs.size + 1) s.heap.objs.size 0 .none → h'.IsTupleIter s.heap.objs.size l 0 → (∀ b o, s.heap.get? b = some o → h'.get? b = some o) → Q (.ref (s.heap.objs.size + 1)) { s with heap := h' }) :
    wpAny (model prog w) A (call (.type "enumerate") [.ref l]) Q E s := by
  refine callType_new F.called_enumerate (by decide) (F.typeCall_enumerate_1 _) (F.newCall_enumerate_1 _) (fun obj => F.args_object_init_2 obj _) F.entry_enumerate_new (enum_new_tup l items) ⟨hL, ?_⟩
  generalize ho1 : ({ cls := .type "tuple_iterator", data := .fields #[.ref l, .int 0 0] } : Obj) = o1
  generalize ho2 : ({ cls := .type "enumerate", data := .fields #[.none, .bool false, .ref s.heap.objs.size, rawInt 0, .none, .none] } : Obj) = o2
  have hz : (s.heap.push o1).objs.size = s.heap.objs.size + 1 := Heap.size_push ..
  show _ ∧ _
  rw [hz]
  have g2 : ((s.heap.push o1).push o2).get? (s.heap.objs.size + 1) = some o2 := by
    rw [← hz]
    exact Heap.get?_push_size _ (by rw [← ho2] <;> rfl)
  have g1 : ((s.heap.push o1).push o2).get? s.heap.objs.size = some o1 := Heap.get?_push_of_some _ (Heap.get?_push_size _ (by rw [← ho1] <;> rfl))
  have he : IsEnum ((s.heap.push o1).push o2) (s.heap.objs.size + 1) s.heap.objs.size 0 .none := by
    rw [← ho2] at g2 ⊢
    exact g2
  exact ⟨⟨_, he, rfl⟩, h _ he ⟨o1, g1, by rw [← ho1], by rw [← ho1] <;> rfl⟩ fun b o x => Heap.get?_push_of_some _ (Heap.get?_push_of_some _ x)⟩

/-- turn i gives out a new pair of i and the i-th item -/
def ItU (K : PySem.W.Frag) (a : Addr) : It where
  go i H := ∃ (xs : List V) (x : V), SqT K H a xs ∧ xs[i]? = some x
  yld i H v H' := ∃ (T : Addr) (x : V), v = .ref T ∧ H T = none ∧ H' = upd H T (.tup [.int (i : Nat), x]) ∧ ∀ xs, SqT K H a xs → xs[i]? = some x
  stop i H := ∃ xs : List V, SqT K H a xs ∧ xs.length = i
structure EnSt (a e it : Addr) (i : Nat) (h : Heap) : Prop where
  en : ∃ old, IsEnum h e it (i : Nat) old
  ti : h.IsTupleIter it a i
  n1 : e ≠ it
  n2 : a ≠ it
  n3 : a ≠ e
theorem turn_enumU {P : Program} {w : World} {K : PySem.W.Frag} {elts : List Expr} {kk : Nat} {tpos : Pos} (a e it : Addr) : Turn P w K (.Tuple elts kk tpos) (ItU K a) [e, it] e (EnSt a e it) where
  mem := List.mem_cons_self
  obj i h st b hb := by
    obtain ⟨old, he⟩ := st.en
    rcases List.mem_cons.mp hb with z | z
    · rw [z]
      exact ⟨_, he, fun v q => nomatch q⟩
    · rw [List.mem_singleton.mp z]
      obtain ⟨o, ho, _, hd⟩ := st.ti
      exact ⟨o, ho, fun v q => by rw [hd] at q; cases q⟩
  keep i h h' st k := by
    obtain ⟨old, he⟩ := st.en
    exact ⟨⟨old, k e List.mem_cons_self _ he⟩, st.ti.at fun o q => k it (by simp) o q, st.n1, st.n2, st.n3⟩
  item := by
    intro X hP hw hK hc i pins s σ H E I hf st hg
    subst hP hw hK
    obtain ⟨old, he⟩ := st.en
    obtain ⟨xs, x, hq, hx⟩ := hg
    obtain ⟨its, rv, p, hz⟩ := I.tuple hq
    obtain ⟨u, hu, ru⟩ := rv.get hx
    have p : s.heap.IsTuple a its.toArray := p
    have hin : i < its.toArray.size := by
      rw [List.size_toArray]
      exact (List.getElem?_eq_some_iff.mp hu).1
    have lt1 : e < s.heap.objs.size := Heap.lt_size he
    have lt2 : it < s.heap.objs.size := let ⟨_, q, _⟩ := st.ti; Heap.lt_size q
    have nfp : e ∉ [it, a] := by
      intro z
      rcases List.mem_cons.mp z with z | z
      · exact st.n1 z
      · exact st.n3 (List.mem_singleton.mp z).symm
    refine wpAny_pyNext_enum_itemC (Draws.tuple (prog := X.prog) (w := X.w) (A := X.A.in1) (show X.A.in1.handled = none from I.ok.hd hc) it a st.n2 its.toArray) he ⟨st.ti, p⟩ hin st.n1 nfp fun y h' tk hy ho hst hT hsz hk => ?_
    have ey : y = u := by
      have hy' : its[i]? = some y := by simpa using hy
      rw [hu] at hy'
      exact (Option.some.inj hy').symm
    subst ey
    refine ⟨_, rfl, wpAny_letOwnedTupleGo_enum (s := { s with heap := h', toks := tk + 1 }) ho fun h'' he' sb => ?_⟩
    have far : ∀ b o, b ∉ [e, it] → s.heap.get? b = some o → h''.get? b = some o := fun b o hb q =>
      (sb.2 b fun z => hb (by simp [z])).trans (hk b o (fun z => hb (by simp [z])) (fun z => hb (by simp [z])) q)
    have hT2 := (sb.2 _ (Nat.ne_of_gt lt1)).trans hT
    have I1 : Inv X pins σ (upd H s.heap.objs.size (.tup [.int (i : Nat), x])) { s with heap := h'', toks := tk + 1 } :=
      I.turnedNew far hf (Nat.le_refl _) ⟨by show 2 ≤ sizeLine; decide, [.int i tk, y], .cons ⟨tk, rfl⟩ (.cons ru .nil), ⟨_, hT2, rfl, _, rfl⟩⟩
    refine ⟨.ref s.heap.objs.size, _, I1, rfl, ⟨_, x, rfl, I.hok.fresh (Nat.le_refl _), rfl, fun ys hy => by rw [I.tuple_inj hy hq]; exact hx⟩, ⟨⟨y, ?_⟩, hst.1.at fun o q => (sb.2 it st.n1.symm).trans q, st.n1, st.n2, st.n3⟩, fun b hb => ?_⟩
    · have e1 : ((i + 1 : Nat) : Int) = (i : Int) + 1 := Int.natCast_succ i
      rw [e1]
      exact he'
    · have : b < s.heap.objs.size := by
        rcases List.mem_cons.mp hb with z | z
        · rw [z]; exact lt1
        · rw [List.mem_singleton.mp z]; exact lt2
      rw [upd_ne (Nat.ne_of_lt this)]
      exact (hf b hb).1
  done := by
    intro X hP hw hK hc i pins s σ H E I hf st hg
    subst hP hw hK
    obtain ⟨old, he⟩ := st.en
    obtain ⟨xs, hq, hx⟩ := hg
    obtain ⟨its, rv, p, hz⟩ := I.tuple hq
    obtain ⟨f0, f1, f2, f3, f4, f5⟩ := hf it (by simp)
    have hn : its.toArray.size = i := by rw [List.size_toArray, ← rv.length, hx]
    have hst : s.heap.IsTupleIter it a its.toArray.size ∧ s.heap.IsTuple a its.toArray := by
      rw [hn]
      exact ⟨st.ti, p⟩
    exact wpAny_pyNext_enum_endD (Draws.tuple (prog := X.prog) (w := X.w) (A := X.A.in1) (show X.A.in1.handled = none from I.ok.hd hc) it a st.n2 its.toArray) he hst fun h' eb => ⟨rfl, I.turned (t' := s.toks) (fun b o hb q => eb b o hb q) f0 f1 f3 f4 f5⟩
  self := fun A i s Q E st h => let ⟨_, he⟩ := st.en; wpAny_pyIter_enum he h
def iEnumU (K : PySem.W.Frag) (ta : TA) : TI := fun σ H R => ta σ H fun vs H1 => ∃ a xs, vs = [.ref a] ∧ SqT K H1 a xs ∧ R (ItU K a) H1
theorem pi_enumU {X : Cx} {e : Expr} {ta : TA} {p pos tpos : Pos} {elts : List Expr} {kk : Nat} (hg : Gl X "enumerate") (hm : X.mg "enumerate" = none) (ha : PA X [e] ta) (hs : starEach [e] X.env = [(false, eval e X.env)] := by rfl) :
    PI X (.Tuple elts kk tpos) (.Call (.Name "enumerate" p) [e] [] pos) (iEnumU X.K ta) where
  run pins s σ H R I h := by
    refine Call_ (ld_blt I hg hm boot_enumerate (PyProof.Rows.callWith_type1 (thn (ha.run pos pins s σ H _ I h) fun us s1 ⟨vs, H1, I1, r1, a, xs, ex, hq, q⟩ => ?_) hs rfl))
    subst ex
    cases r1 with
    | cons r rr =>
      cases rr
      cases r
      obtain ⟨its, rv, p', hz⟩ := I1.tuple hq
      have p' : s1.heap.IsTuple a its.toArray := p'
      have la : a < s1.heap.objs.size := let ⟨_, o, _⟩ := p'; Heap.lt_size o
      refine enum_call_tup p' fun h' he hit hk => wpAny_pyIter_enum he ?_
      have I2 : Inv X pins σ H1 { s1 with heap := h' } := I1.kept (t' := s1.toks) hk
      refine ⟨_, [s1.heap.objs.size + 1, s1.heap.objs.size], _, _, H1, rfl, I2, turn_enumU a (s1.heap.objs.size + 1) s1.heap.objs.size,
        ⟨⟨.none, he⟩, hit, Nat.succ_ne_self _, Nat.ne_of_lt la, Nat.ne_of_lt (Nat.lt_succ_of_lt la)⟩, fun b hb => ?_, q⟩
      have hle : s1.heap.objs.size ≤ b := by
        rcases List.mem_cons.mp hb with z | z
        · rw [z]; exact Nat.le_succ _
        · rw [List.mem_singleton.mp z]; exact Nat.le_refl _
      exact I1.fpOk hle (I1.hok.fresh hle)
theorem walk_enumU {K : PySem.W.Frag} {a : Addr} {xs : List V} : Walk (ItU K a) xs.length (fun H => SqT K H a xs) (YPair (fun i => some (.int (i : Nat))) (fun i => xs[i]?)) where
  goes i _ hi q := ⟨xs, xs[i], q, by simp [hi]⟩
  stops _ q := ⟨xs, q, rfl⟩
  yields i H v H' _ q y := let ⟨T, x, h1, h2, h3, h4⟩ := y; ⟨T, .int (i : Nat), x, h1, h2, h3, rfl, h4 xs q⟩
end Mv
/-! Comprehensions that fill a dict (any keys that the layer tracks) or a set of ints: one walk for both, the sink left open. -/
namespace Mv
open PySem PySem.Spec PyProof.Rows L2
/-- what an element does to the thing that is made, in a block: Nx is wanted of the heap behind it -/
abbrev TK := Addr → L2.St → Hp → (Hp → Prop) → Prop
/-- {.. for tg in iter if ..}: ob0 D the empty thing at D -/
def tCm (ob0 : Addr → HO) (wi : TI) (g : TG) (tt : TT) (tk : TK) (vs : List Nat) : TE := fun σ H Q => wi σ H fun J H1 => ∀ D, H1 D = none → ∃ W : Nat → Nat → Hp → Prop, (∃ m, W 0 m (upd H1 D (ob0 D))) ∧
  ∀ i m H, W i m H → (J.stop i H ∧ Q (.ref D) H) ∨ (J.go i H ∧ ∃ Nx : Hp → Prop, (∀ H', Nx H' → ∃ m', m' < m ∧ W (i + 1) m' H') ∧
    ∀ x H', J.yld i H x H' → g x (wipe σ vs) H' fun σ2 H2 => wipe σ2 vs = wipe σ vs ∧ tt σ2 H2 fun b H3 => if b = true then tk D σ2 H3 Nx else Nx H3)
abbrev Stp := Env → Addr → (Shared → Prop) → (Value → Shared → Prop) → Shared → Prop
/-- the model's own turn of such a comprehension c over one clause, its element's effect as stp -/
structure CmRun (P : Program) (w : World) (A : Around) (c tg : Expr) (ifs : List Expr) (stp : Stp) : Prop where
  loop : ∀ (R : Result → Shared → Prop) (s : Shared) (it : Value) (D : Addr) (env : Env) (In : Nat → Shared → Prop),
    (∀ n s, In n s → wpAny (model P w) A (pyNext it) (fun r s₁ => match r with
      | none => R (.ok .next) s₁
      | some v => wpAny (model P w) A (letOwnedTupleGo tg it v) (fun _ s₁' => wpAny (model P w) A (assign tg env v) (fun _ s₂ =>
          wpAny (model P w) A (forIn ifs true fun c r => if r = true then do let ok ← isTrue c env (eval c env); pure (ForInStep.yield ok) else pure (ForInStep.yield r)) (fun ok s₃ =>
            if ok = true then stp env D (fun s₆ => ∃ m, m < n ∧ In m s₆) (notedBy (model P w) A env fun e s' => R (.error e) s') s₃
            else ∃ m, m < n ∧ In m s₃) (notedBy (model P w) A env fun e s' => R (.error e) s') s₂) (notedBy (model P w) A env fun e s' => R (.error e) s') s₁') (notedBy (model P w) A env fun e s' => R (.error e) s') s₁) (notedBy (model P w) A env fun e s' => R (.error e) s') s) →
    ∀ n, In n s → codeAny (model P w) A (.compLoop c 0 it (.ref D) env) R s
  start : ∀ (R : Result → Shared → Prop) (s : Shared) (it acc : Value) (env : Env), codeAny (model P w) A (.compLoop c 0 it acc env) R s →
    wpAny (model P w) A (pyIter it) (fun it' s' => codeAny (model P w) A (.compLoop c 0 it' acc env) R s') (notedBy (model P w) A env fun x s' => R (.error x) s') s → codeAny (model P w) A (.compStart c 0 it acc env) R s
section
variable {X : Cx}
theorem cm_core {pins : List (Addr × Obj)} {s : Shared} {σ : L2.St} {H : Hp} {Q : VK} {c tg iter : Expr} {ifs : List Expr} {scope : Scope} {own : List (Str × Nat)} {pos' : Pos} {wi : TI} {g : TG} {tt : TT} {tk : TK}
    {ob0 : Addr → HO} {obj : Obj} {new : Sem Value} {stp : Stp} {Qf : Value → Shared → Prop} (hcl : clausesOf c = [⟨tg, iter, ifs, 0⟩])
    (hc : X.calm = true) (hN : X.N.Nodup) (I : Inv X pins σ H s) (hi : PI X tg iter wi) (ok : BlkOk X.N X.env.scope scope own)
    (hnew : ∀ (s : Shared) (Q : Value → Shared → Prop) (E : Value → Shared → Prop), Q (.ref s.heap.objs.size) { s with heap := s.heap.push obj } → wpAny (model X.prog X.w) X.A new Q E s) (hfr : obj.isFreed = false)
    (hob : ∀ (H : Hp) (h : Heap), sysModules < h.objs.size → ObjOk X.prog X.w H (h.push obj) h.objs.size (ob0 h.objs.size))
    (run : CmRun X.prog X.w X.A c tg ifs stp)
    (hg : ∀ (s : Shared) (H : Hp) (C : Addr) (cl : List (Str × Addr)) (fp : List Addr), PG (X.blk s H scope (compEnvC scope cl C X.env) fp) tg g)
    (ht : ∀ (s : Shared) (H : Hp) (C : Addr) (cl : List (Str × Addr)) (fp : List Addr), PTs (X.blk s H scope (compEnvC scope cl C X.env) fp) ifs tt)
    (hk : ∀ (s : Shared) (H : Hp) (C : Addr) (cl : List (Str × Addr)) (fp : List Addr) (pn : List (Addr × Obj)) (s2 : Shared) (σ2 : L2.St) (H2 : Hp) (D : Addr) (Nx : Hp → Prop) (Pq : Shared → Prop) (E : Value → Shared → Prop),
      Inv (X.blk s H scope (compEnvC scope cl C X.env) fp) pn σ2 H2 s2 → tk D σ2 H2 Nx → (∀ s' H', Inv (X.blk s H scope (compEnvC scope cl C X.env) fp) pn σ2 H' s' → Nx H' → Pq s') → stp (compEnvC scope cl C X.env) D Pq E s2)
    (hs : ∀ x, foldedSetIterable iter X.env x = pure x) (h : tCm ob0 wi g tt tk (own.map (·.2)) σ H Q)
    (back : ∀ D C s' m H', Inv X pins σ H' s' → Q (.ref D) H' → s'.heap.Ns C m → FpOk X pins H' C → compPost (model X.prog X.w) X.A X.xe none Qf (.ref D) C (.ok .next) s') :
    wpAny (model X.prog X.w) X.A (comprehension c scope X.env pos' new false (eval iter X.env) none) Qf X.xe s := by
  have hfree : ∀ y ∈ scope.names, y.2 = .free → ∃ a, X.env.cells.lookup y.1 = some a := fun y hy e => (ok.free y hy e).elim (fun k => I.ok.has _ (.inl k)) fun k => I.ok.has _ (.inr k)
  refine wpAny_comprehension_free (use := none) hcl hs (closure_ok hfree) ok.kind (fun y hy e => by rw [ok.uniq y hy, e]) (thn (hi.run pins s σ H _ I h) fun xv s1 hx => thn hx fun itv s2 h2 => ?_)
  obtain ⟨it, fp, tn, J, H2, rfl, I2, T, st2, f2, q⟩ := h2
  refine hnew s2 _ _ (newEnv_comp ?_)
  generalize hD : s2.heap.objs.size = D
  obtain ⟨W, ⟨m0, w0⟩, turn⟩ := q D (I2.hok.fresh (Nat.le_of_eq hD))
  generalize hs3 : ({ s2 with heap := s2.heap.push obj } : Shared) = s3
  have h3 : s3.heap = s2.heap.push obj := by rw [← hs3]
  have up : ∀ b o, s2.heap.get? b = some o → s3.heap.get? b = some o := fun b o e => by
    rw [h3]
    exact Heap.get?_push_of_some _ e
  have I3 : Inv X pins σ (upd H2 D (ob0 D)) s3 := by
    rw [← hs3]
    refine I2.laid (t' := s2.toks) (fun b o e => Heap.get?_push_of_some _ e) (Nat.le_of_eq hD) ?_
    rw [← hD]
    exact hob _ s2.heap I2.big
  have f3 : ∀ b ∈ fp, FpOk X pins (upd H2 D (ob0 D)) b ∧ b < s3.heap.objs.size := fun b hb => by
    obtain ⟨o, e, _⟩ := T.obj _ _ st2 b hb
    have lt : b < s2.heap.objs.size := Heap.lt_size e
    have ne : b ≠ D := hD ▸ Nat.ne_of_lt lt
    exact ⟨⟨(upd_ne ne).trans (f2 b hb).1, (f2 b hb).2⟩, by rw [h3, Heap.size_push]; exact Nat.lt_succ_of_lt lt⟩
  have st3 : tn 0 s3.heap := T.keep _ _ _ st2 fun b _ => up b
  have I4 := block_start I3 ok hN f3
  show codeAny _ _ (.compStart c 0 (.ref it) (.ref D) (compEnvC scope (cellsFrom (s3.heap.objs.size + 1) scope.names (cloFrom X.env.cells scope.names [])) s3.heap.objs.size X.env)) (compPost (model X.prog X.w) X.A X.xe none Qf (.ref D) s3.heap.objs.size)
    { s3 with heap := pushCells (s3.heap.push { cls := .type "dict", data := .dict #[] }) scope.names }
  generalize hcl : cellsFrom (s3.heap.objs.size + 1) scope.names (cloFrom X.env.cells scope.names []) = cells at I4 ⊢
  generalize hH3 : upd H2 D (ob0 D) = H3 at I3 I4 w0 f3
  have pg := hg s3 H3 s3.heap.objs.size cells fp
  have pt := ht s3 H3 s3.heap.objs.size cells fp
  have pk := hk s3 H3 s3.heap.objs.size cells fp
  generalize hce : compEnvC scope cells s3.heap.objs.size X.env = ce at I4 pg pt pk ⊢
  have cL : ce.locals = s3.heap.objs.size := by rw [← hce] <;> rfl
  generalize hs4 : ({ s3 with heap := pushCells (s3.heap.push { cls := .type "dict", data := .dict #[] }) scope.names } : Shared) = s4 at I4 ⊢
  have st4 : tn 0 s4.heap := T.keep _ _ _ st3 fun b _ o e => by
    rw [← hs4]
    exact pushCells_keeps _ _ _ _ (Heap.get?_push_of_some _ e)
  have stat : ∀ {σ' : L2.St} {H' : Hp} {s' : Shared}, Inv (X.blk s3 H3 scope ce fp) [] σ' H' s' → (∀ b ∈ fp, H' b = none) → ∀ b ∈ fp, FpOk (X.blk s3 H3 scope ce fp) [] H' b := fun I' hn b hb =>
    ⟨hn b hb, (I'.ok.exf b hb).1, I'.ok.exfs b hb, .inl hb, fun x a e => (I'.ok.exf b hb).2 x a e, fun p hp => nomatch (show p ∈ ([] : List (Addr × Obj)) from hp)⟩
  have loop : codeAny (model X.prog X.w) X.A (.compLoop c 0 (.ref it) (.ref D) ce) (compPost (model X.prog X.w) X.A X.xe none Qf (.ref D) s3.heap.objs.size) s4 := by
    refine run.loop _ s4 _ D ce (fun n s' => ∃ i H', Inv (X.blk s3 H3 scope ce fp) [] (wipe σ (own.map (·.2))) H' s' ∧ tn i s'.heap ∧ (∀ b ∈ fp, H' b = none) ∧ W i n H') ?_ m0 ⟨0, H3, I4, st4, fun b hb => (f3 b hb).1.1, w0⟩
    rintro n s5 ⟨i, H5, I5, st5, n5, w5⟩
    rcases turn i n H5 w5 with ⟨stop, qq⟩ | ⟨go, Nx, hNx, step⟩
    · refine thnF (T.done (X.blk s3 H3 scope ce fp) rfl rfl rfl hc i [] s5 _ H5 (fun _ _ => False) I5 (stat I5 n5) st5 stop) fun r s6 ⟨hr, I6⟩ => ?_
      subst hr
      have I7 : Inv X pins σ H5 s6 := I3.call' (ch := fp) I6.os I6.base I6.hok I6.bare fun b hb => let f := (f3 b hb).1; ⟨f.2.2.2.1, f.2.1, f.2.2.2.2.1, f.2.2.2.2.2⟩
      have nC : H5 ce.locals = none := I6.free
      obtain ⟨m, hn, _⟩ := I6.loc
      have hn : s6.heap.Ns ce.locals m := hn
      rw [cL] at nC hn
      exact back D _ s6 m H5 I7 qq hn (I3.fpOk (Nat.le_refl _) nC)
    · refine thnF (T.item (X.blk s3 H3 scope ce fp) rfl rfl rfl hc i [] s5 _ H5 (fun _ _ => False) I5 (stat I5 n5) st5 go) fun r s6 ⟨u, hr, h6⟩ => ?_
      subst hr
      refine thnF h6 fun _ s7 ⟨x, H7, I7, r7, y7, st7, n7⟩ => ?_
      refine thnF (pg.run _ s7 _ H7 x u _ (I7.pinned (stat I7 n7) (T.obj _ _ st7)) r7 (step x H7 y7)) fun _ s8 ⟨σ8, H8, I8, hw8, q8⟩ => ?_
      refine thnF (pt.run _ s8 σ8 H8 _ I8 q8) fun b s9 ⟨H9, I9, q9⟩ => ?_
      have fin : ∀ (s' : Shared) (H' : Hp), Inv (X.blk s3 H3 scope ce fp) ([] ++ pinsAt fp s7.heap) σ8 H' s' → Nx H' → ∃ m, m < n ∧ ∃ i H', Inv (X.blk s3 H3 scope ce fp) [] (wipe σ (own.map (·.2))) H' s' ∧ tn i s'.heap ∧ (∀ b ∈ fp, H' b = none) ∧ W i m H' := fun s' H' I' nx => by
        obtain ⟨m', hm, w'⟩ := hNx H' nx
        have pin : ∀ b ∈ fp, ∀ o, s7.heap.get? b = some o → s'.heap.get? b = some o ∧ H' b = none := fun b hb o e =>
          let z := I'.pin (b, o) (List.mem_append_right _ (List.mem_append_right _ (mem_pinsAt hb e))); ⟨z.1, z.2.1⟩
        refine ⟨m', hm, i + 1, H', (I'.unpinned (pins := [])).weak (by rw [← hw8, wipe_length]) (fun j v e => ?_), T.keep _ _ _ st7 fun b hb o e => (pin b hb o e).1, fun b hb => ?_, w'⟩
        · rw [← hw8] at e
          exact (wipe_some e).1
        · obtain ⟨o, e, _⟩ := T.obj _ _ st7 b hb
          exact (pin b hb o e).2
      cases b with
      | false => exact fin s9 H9 I9 q9
      | true => exact pk _ s9 σ8 H9 D Nx _ _ I9 q9 fin
  exact run.start _ _ _ _ _ loop (T.self X.A 0 _ _ _ st4 loop)
end
end Mv
namespace Mv
open PySem PySem.Spec PyProof.Rows L2
section
variable {X : Cx}
/-! ### a dict by a comprehension -/
theorem dictSet_put {pins : List (Addr × Obj)} {σ : L2.St} {H H' : Hp} {s : Shared} {E : Value → Shared → Prop} {D : Addr} {y v : V} {u r : Value} {Q : Unit → Shared → Prop} (hu : X.A.units < cLine) (I : Inv X pins σ H s) (g : DPut H D y v H') (ry : RelV y u) (rv : RelV v r)
    (h : ∀ s', Inv X pins σ H' s' → Q () s') : wpAny (model X.prog X.w) X.A (dictSet D u r) Q E s := by
  rcases g with ⟨kvs, k, e, rfl, l, rfl⟩ | ⟨kvs, k, b, e, rfl, eb, l, rfl⟩
  · exact d_dictSet I e l ry rv h
  · cases (show u = Value.ref b from ry)
    obtain ⟨z, hd, xs, rel, dd⟩ := dt_of I.hok e
    have hz : xs.length ≤ sizeLine := Paired.length rel ▸ z
    have hl : (putK kvs k v).length ≤ sizeLine := Nat.le_trans (length_putK kvs k v) l
    refine wpAny_dictSet_heap (hsz := hz) (knd := tupleKind (mixKind X.prog X.w)) hu (key_of I.hok eb) dd fun h' dd' hs => h _ ?_
    obtain ⟨q, es, ep, hq, h2, h3, h4, _, h5⟩ := dd'
    refine d_write I (by rw [e]; exact True.intro) hs ⟨q, hq⟩ ⟨hl, hd, _, (rel.put k eb rv).keeps fun c ys ec => ?_, q, es, ep, hq, h2, h3, h4, h5⟩
    exact (upd_ne (ne_of ec e (fun z => nomatch z))).trans ec
def kDict (tk tv : TE) : TK := fun D σ H Nx => tk σ H fun y H1 => tv σ H1 fun z H2 => ∃ H3, DPut H2 D y z H3 ∧ Nx H3
/-- {k: v for ..} whose keys are tuples -/
theorem pe_dcT {kx vx tg iter : Expr} {ifs : List Expr} {scope : Scope} {own : List (Str × Nat)} {pos : Pos} {wi : TI} {g : TG} {tt : TT} {tk tv : TE} (hu : X.A.units < cLine) (hc : X.calm = true) (hN : X.N.Nodup) (hi : PI X tg iter wi) (ok : BlkOk X.N X.env.scope scope own)
    (hg : ∀ (s : Shared) (H : Hp) (C : Addr) (cl : List (Str × Addr)) (fp : List Addr), PG (X.blk s H scope (compEnvC scope cl C X.env) fp) tg g)
    (ht : ∀ (s : Shared) (H : Hp) (C : Addr) (cl : List (Str × Addr)) (fp : List Addr), PTs (X.blk s H scope (compEnvC scope cl C X.env) fp) ifs tt)
    (hk : ∀ (s : Shared) (H : Hp) (C : Addr) (cl : List (Str × Addr)) (fp : List Addr), PE (X.blk s H scope (compEnvC scope cl C X.env) fp) kx tk)
    (he : ∀ (s : Shared) (H : Hp) (C : Addr) (cl : List (Str × Addr)) (fp : List Addr), PE (X.blk s H scope (compEnvC scope cl C X.env) fp) vx tv) (hs : ∀ x, foldedSetIterable iter X.env x = pure x := by intro _; rfl) :
    PE X (.DictComp kx vx [⟨tg, iter, ifs, 0⟩] scope pos) (tCm (fun _ => .dT []) wi g tt (kDict tk tv) (own.map (·.2))) where
  run pins s σ H Q I h := by
    rw [arm_eval_DictComp]
    refine cm_core (obj := { cls := .type "dict", data := .dict #[] }) (stp := fun env D Pq E s => wpAny (model X.prog X.w) X.A (eval kx env) (fun kv s₄ => wpAny (model X.prog X.w) X.A (eval vx env) (fun vv s₅ => wpAny (model X.prog X.w) X.A (dictSet D kv vv) (fun _ => Pq) E s₅) E s₄) E s)
      rfl hc hN I hi ok (fun s Q E q => wpAny_newObj_type q) rfl (fun H h hb => dt_empty h hb) ⟨fun R s it D env In turn n hn => compLoop_anyD In turn n hn, fun R s it acc env a b => codeAny_compStart_dict a b⟩ hg ht
      (fun s1 H1 C cl fp pn s2 σ2 H2 D Nx Pq E I2 q k => ?_) hs h fun D C s' m H' I' q hn f => ⟨m, hn, fun h'' sb => ?_⟩
    · refine thnF ((hk s1 H1 C cl fp).run _ s2 σ2 H2 _ I2 q |> fun z => wpAny_mono z (fun _ _ z => z) fun _ _ z => z) fun u s3 ⟨y, H3, I3, r3, q3⟩ => ?_
      refine thnF ((he s1 H1 C cl fp).run _ s3 σ2 H3 _ I3 q3) fun u2 s4 ⟨z, H4, I4, r4, H5, put, nx⟩ => ?_
      exact dictSet_put (X := X.blk s1 H1 scope (compEnvC scope cl C X.env) fp) hu I4 put r3 r4 fun s5 I5 => k s5 H5 I5 nx
    · obtain ⟨f0, f1, f2, f3, f4, f5⟩ := f
      exact ⟨.ref D, H', I'.turned (t' := s'.toks) (fun b o hb e => (sb.2 b hb).trans e) f0 f1 f3 f4 f5, rfl, q⟩

/-! ### a set of ints by a comprehension -/
def kSetI (w : World) (te : TE) : TK := fun D σ H Nx => te σ H fun y H1 => ∃ (k : Int) (S : Int → Bool) (n : Nat), y = .int k ∧ H1 D = some (SetO w D S n) ∧ n + 1 < scanBound ∧
  Nx (upd H1 D (SetO w D (fun j => S j || decide (j = k)) (if S k = true then n else n + 1)))
theorem pe_scI {elt tg iter : Expr} {ifs : List Expr} {scope : Scope} {own : List (Str × Nat)} {pos : Pos} {wi : TI} {g : TG} {tt : TT} {te : TE} (hc : X.calm = true) (hN : X.N.Nodup) (hi : PI X tg iter wi) (ok : BlkOk X.N X.env.scope scope own)
    (hg : ∀ (s : Shared) (H : Hp) (C : Addr) (cl : List (Str × Addr)) (fp : List Addr), PG (X.blk s H scope (compEnvC scope cl C X.env) fp) tg g)
    (ht : ∀ (s : Shared) (H : Hp) (C : Addr) (cl : List (Str × Addr)) (fp : List Addr), PTs (X.blk s H scope (compEnvC scope cl C X.env) fp) ifs tt)
    (he : ∀ (s : Shared) (H : Hp) (C : Addr) (cl : List (Str × Addr)) (fp : List Addr), PE (X.blk s H scope (compEnvC scope cl C X.env) fp) elt te) (hs : ∀ x, foldedSetIterable iter X.env x = pure x := by intro _; rfl) :
    PE X (.SetComp elt [⟨tg, iter, ifs, 0⟩] scope pos) (tCm (fun D => SetO X.w D (fun _ => false) 0) wi g tt (kSetI X.w te) (own.map (·.2))) where
  run pins s σ H Q I h := by
    rw [PpSet.eval_SetComp]
    refine cm_core (obj := { cls := .type "set", dict := none, data := .set #[] 0 (.fresh 0 0 (!X.w.params.followText "set-order")) }) (stp := fun env D Pq E s => wpAny (model X.prog X.w) X.A (eval elt env) (fun v s₄ => wpAny (model X.prog X.w) X.A (call (.builtin "set.add") [.ref D, v]) (fun _ => Pq) E s₄) E s)
      rfl hc hN I hi ok (fun s Q E q => PpSet.newSet_ok q) rfl (fun H h _ => setO_new (setR_fresh X.w)) ⟨fun R s it D env In turn n hn => PpSet.compLoopS_any In turn n hn, fun R s it acc env a b => PpSet.codeAny_compStart_set a b⟩ hg ht
      (fun s1 H1 C cl fp pn s2 σ2 H2 D Nx Pq E I2 q k => ?_) hs h fun D C s' m H' I' q hn f => ⟨m, hn, fun h'' sb => ?_⟩
    · refine thnF ((he s1 H1 C cl fp).run _ s2 σ2 H2 _ I2 q) fun u s3 ⟨y, H3, I3, r3, j, S, n, ey, hD, room, nx⟩ => ?_
      subst ey
      obtain ⟨tk, rfl⟩ := r3
      refine setR_add (setO_get (X := X.blk s1 H1 scope (compEnvC scope cl C X.env) fp) I3 hD) room fun h' sb new => k _ _ (I3.write (e := D) (t' := s3.toks + 1) (by rw [hD]; trivial) (.inl rfl) (fun b u hb hu => (sb.2 b hb).trans hu) ?_ (setO_new new)) nx
      obtain ⟨o, _, _, _, ho, _⟩ := new
      exact ⟨o, ho⟩
    · obtain ⟨f0, f1, f2, f3, f4, f5⟩ := f
      exact ⟨.ref D, H', I'.turned (t' := s'.toks) (fun b o hb e => (sb.2 b hb).trans e) f0 f1 f3 f4 f5, rfl, q⟩

/-! ### how many a set holds -/
def rLenSetI (w : World) : List V → Hp → VK → Prop := fun xs H Q => ∃ (a : Addr) (S : Int → Bool) (n : Nat), xs = [.ref a] ∧ H a = some (SetO w a S n) ∧ Q (.int n) H
theorem call_lenSetI : CallR X (.builtin "len") (rLenSetI X.w) := by
  intro pins s σ H xs us Q I r h
  obtain ⟨a, S, n, rfl, ha, q⟩ := h
  rw [Vals.ref1 r]
  obtain ⟨o, es, ep, t, ho, hex, hd, _, _, _, hz, hf, hn, _⟩ := setO_get I ha
  have hb : es.size < 2 ^ 63 := Nat.lt_trans hz (by decide)
  refine call_len_set ho hex hd hf (by omega) ⟨.int n, H, I.tok _, ⟨_, by rw [hn]⟩, q⟩
def rLenSetT (P : Program) (w : World) : List V → Hp → VK → Prop := fun xs H Q => ∃ (a : Addr) (L : List (Addr × List Int)), xs = [.ref a] ∧ H a = some (SetTO P w a L) ∧ (∀ p ∈ L, H p.1 = some (.tup (p.2.map V.int))) ∧ ((L.map (·.2)).Nodup → Q (.int L.length) H)
theorem call_lenSetT : CallR X (.builtin "len") (rLenSetT X.prog X.w) := by
  intro pins s σ H xs us Q I r h
  obtain ⟨a, L, rfl, ha, ht, q⟩ := h
  rw [Vals.ref1 r]
  obtain ⟨es, ep, t, R⟩ := SetT0.full (I.hok a _ ha).1 fun p hp => I.isT (SqT.of (ht p hp))
  obtain ⟨o, ho, hex, hd⟩ := R.ob
  have hn := R.size
  have hf := R.few
  refine call_len_set ho hex hd R.fits (by omega) ⟨.int L.length, H, I.tok _, ⟨_, by rw [hn]⟩, q R.nd⟩
end
end Mv
namespace Mv
open PySem PySem.Spec PyProof.Rows L2
/-! ### the greatest of a walk's ints, or what is handed in for none -/
def mxOf (f : Nat → Int) : Nat → Option Int
  | 0 => none
  | n + 1 => some (match mxOf f n with | none => f n | some m => if f n > m then f n else m)
theorem mxOf_spec (f : Nat → Int) : ∀ n, (n = 0 ∧ mxOf f n = none) ∨ ∃ m, mxOf f n = some m ∧ (∃ i, i < n ∧ f i = m) ∧ ∀ i, i < n → f i ≤ m
  | 0 => .inl ⟨rfl, rfl⟩
  | n + 1 => by
    right
    rcases mxOf_spec f n with ⟨rfl, e⟩ | ⟨m, e, ⟨i, hi, hm⟩, hb⟩
    · refine ⟨f 0, by simp [mxOf], ⟨0, by omega, rfl⟩, fun i hi => ?_⟩
      obtain rfl : i = 0 := by omega
      exact Int.le_refl _
    · by_cases c : f n > m
      · refine ⟨f n, by simp [mxOf, e, c], ⟨n, by omega, rfl⟩, fun j hj => ?_⟩
        rcases Nat.lt_or_ge j n with h | h
        · have := hb j h; omega
        · obtain rfl : j = n := by omega
          exact Int.le_refl _
      · refine ⟨m, by simp [mxOf, e, c], ⟨i, by omega, hm⟩, fun j hj => ?_⟩
        rcases Nat.lt_or_ge j n with h | h
        · exact hb j h
        · obtain rfl : j = n := by omega
          omega
/-- what the loop's state list holds -/
def MxSt (h : Heap) (S : Addr) (o : Option Int) : Prop := ∃ c, (o = none ∧ h.get? S = some { cls := .type "list", dict := none, data := .seq #[] c, slots := #[] }) ∨
  ∃ m t, o = some m ∧ h.get? S = some { cls := .type "list", dict := none, data := .seq #[.int m t, .int m t] c, slots := #[] }
section
variable {prog : Program} {w : World} {A : Around} {R : Result → Shared → Prop} {I : Addr} {fp wr : List Addr} {n : Nat} {P : Nat → Value → Prop} {St : Nat → Heap → Prop}
theorem int_gt {i j : Int} {t u : Tok} {s : Shared} {Q E : Value → Shared → Prop} (h : Q (.bool (decide (i > j))) s) : wpAny (model prog w) A (richCompare .Gt (.int i t) (.int j u)) Q E s :=
  CmpOf.ints_gt (prog := prog) (w := w) (A := A) (P := fun k v => (k = 0 ∧ v = .int i t) ∨ (k = 1 ∧ v = .int j u)) (fun k => if k = 0 then i else j)
    (fun k v hv => by rcases hv with ⟨rfl, rfl⟩ | ⟨rfl, rfl⟩ <;> exact ⟨_, rfl⟩) 0 1 _ _ s Q E (.inl ⟨rfl, rfl⟩) (.inr ⟨rfl, rfl⟩) (by simpa using h)
theorem max_loop (W : Walks prog w A.in1 I fp wr n P St) (f : Nat → Int) (hv : ∀ i v, P i v → ∃ t, v = .int (f i) t) (kw : List (Str × Value)) (hkw : ∃ nm d, kw = [(nm, d)]) (S : Addr) (hSf : S ∉ fp) :
    ∀ (k i : Nat) (s : Shared), n - i = k → i ≤ n → St i s.heap → MxSt s.heap S (mxOf f i) →
    (∀ v h' tk, (match mxOf f n with | none => ∃ nm, kw = [(nm, v)] | some m => ∃ t, v = .int m t) → (∀ b o, b ∉ wr → b ≠ S → s.heap.get? b = some o → h'.get? b = some o) → R (.ok (.ret v)) { s with heap := h', toks := tk }) →
    codeAny (model prog w) A (.builtin "max.loop" ⟨[.ref I, .none, .ref S], kw⟩) R s := by
  have hSw : S ∉ wr := fun h => hSf (W.sub _ h)
  obtain ⟨nm, dflt, rfl⟩ := hkw
  have hname : (toString "max" ++ toString ".loop" : String) = "max.loop" := by decide
  intro k
  induction k with
  | zero =>
    intro i s hk hi hst hS hR
    obtain rfl : i = n := by omega
    refine codeAny_builtin PySem.F.entry_max_loop ?_
    rw [Around.under_plainId PySem.F.plain_max_loop _]
    obtain ⟨c, ⟨em, hS⟩ | ⟨m, t, em, hS⟩⟩ := hS
    · show wpAny _ A.in1 (seqItems? (.ref S) >>= _) _ _ s
      refine wpAny_bind (wpAny_seqItems hS rfl ?_)
      show wpAny _ A.in1 (tryCatch (pyNext (.ref I)) _ >>= _) _ _ s
      refine wpAny_bind (wpAny_tryCatch (W.done s _ _ hst fun h' tk hk' => ?_))
      show wpAny _ A.in1 (rule _ >>= _) _ _ _
      refine wpAny_bind (wpAny_rule (wpAny_pure (hR dflt h' tk ?_ fun b o hbw _ e => hk' b o hbw e)))
      rw [em]
      exact ⟨nm, rfl⟩
    · show wpAny _ A.in1 (seqItems? (.ref S) >>= _) _ _ s
      refine wpAny_bind (wpAny_seqItems hS rfl ?_)
      show wpAny _ A.in1 (tryCatch (pyNext (.ref I)) _ >>= _) _ _ s
      refine wpAny_bind (wpAny_tryCatch (W.done s _ _ hst fun h' tk hk' => ?_))
      have hS' := hk' S _ hSw hS
      show wpAny _ A.in1 (updateSeq S (fun _ => #[]) >>= _) _ _ _
      refine wpAny_bind (wpAny_updateSeq hS' rfl (wpAny_bind (wpAny_letGo (wpAny_pure (hR _ _ tk ?_ fun b o hbw hbS e => ?_)))))
      · rw [em]
        exact ⟨t, rfl⟩
      · exact (Heap.get?_update_other _ _ (Ne.symm hbS)).trans (hk' b o hbw e)
  | succ k ih =>
    intro i s hk hi hst hS hR
    have hlt : i < n := by omega
    refine codeAny_builtin PySem.F.entry_max_loop ?_
    rw [Around.under_plainId PySem.F.plain_max_loop _]
    obtain ⟨c, ⟨em, hS⟩ | ⟨m, t, em, hS⟩⟩ := hS
    · show wpAny _ A.in1 (seqItems? (.ref S) >>= _) _ _ s
      refine wpAny_bind (wpAny_seqItems hS rfl ?_)
      show wpAny _ A.in1 (tryCatch (pyNext (.ref I)) _ >>= _) _ _ s
      refine wpAny_bind (wpAny_tryCatch (W.item i s _ _ hlt hst fun v h' tk hP hst' hk' => ?_))
      have hS' := hk' S _ hSw hS
      obtain ⟨tv, rfl⟩ := hv i v hP
      show wpAny _ A.in1 (updateSeq S (fun _ => #[_, _]) >>= _) _ _ _
      refine wpAny_bind (wpAny_updateSeq hS' rfl ?_)
      rw [hname]
      refine wpAny_pure ⟨plainId_quiet PySem.F.plain_max_loop _, ih (i + 1) _ (by omega) hlt (W.frame _ _ _ hst' fun b hbf o e => ?_) ⟨_, .inr ⟨f i, tv, by simp [mxOf, em], Heap.get?_update_self _ hS' rfl⟩⟩ fun v' h'' tk'' hv' hk'' => ?_⟩
      · exact (Heap.get?_update_other _ _ (fun h : S = b => hSf (by rw [h]; exact hbf))).trans e
      · exact hR v' h'' tk'' hv' fun b o hbw hbS e => hk'' b o hbw hbS ((Heap.get?_update_other _ _ (Ne.symm hbS)).trans (hk' b o hbw e))
    · show wpAny _ A.in1 (seqItems? (.ref S) >>= _) _ _ s
      refine wpAny_bind (wpAny_seqItems hS rfl ?_)
      show wpAny _ A.in1 (tryCatch (pyNext (.ref I)) _ >>= _) _ _ s
      refine wpAny_bind (wpAny_tryCatch (W.item i s _ _ hlt hst fun v h' tk hP hst' hk' => ?_))
      have hS' := hk' S _ hSw hS
      obtain ⟨tv, rfl⟩ := hv i v hP
      show wpAny _ A.in1 (tryCatch (holding [_, _] (richCompare .Gt _ _ >>= _)) _ >>= _) _ _ _
      refine wpAny_bind (wpAny_tryCatch (wpAny_holding (wpAny_bind (int_gt ?_))))
      refine wpAny_bind (wpAny_holding (wpAny_truthy_bool ?_))
      refine wpAny_bind (wpAny_letGo (wpAny_pure ?_))
      by_cases hb : f i > m
      · rw [decide_eq_true hb]
        simp only [if_true]
        refine wpAny_bind (wpAny_updateSeq hS' rfl (wpAny_bind (wpAny_letGo ?_)))
        rw [hname]
        refine wpAny_pure ⟨plainId_quiet PySem.F.plain_max_loop _, ih (i + 1) _ (by omega) hlt (W.frame _ _ _ hst' fun b hbf o e => ?_) ⟨_, .inr ⟨f i, tv, by simp [mxOf, em, hb], Heap.get?_update_self _ hS' rfl⟩⟩ fun v' h'' tk'' hv' hk'' => ?_⟩
        · exact (Heap.get?_update_other _ _ (fun h : S = b => hSf (by rw [h]; exact hbf))).trans e
        · exact hR v' h'' tk'' hv' fun b o hbw hbS e => hk'' b o hbw hbS ((Heap.get?_update_other _ _ (Ne.symm hbS)).trans (hk' b o hbw e))
      · rw [decide_eq_false hb]
        simp only [Bool.false_eq_true, if_false]
        refine wpAny_bind (wpAny_letGo ?_)
        rw [hname]
        refine wpAny_pure ⟨plainId_quiet PySem.F.plain_max_loop _, ih (i + 1) _ (by omega) hlt hst' ⟨_, .inr ⟨m, t, by simp [mxOf, em, hb], hS'⟩⟩ fun v' h'' tk'' hv' hk'' => ?_⟩
        exact hR v' h'' tk'' hv' fun b o hbw hbS e => hk'' b o hbw hbS (hk' b o hbw e)
end
section
variable {prog : Program} {w : World} {A : Around} {E : Value → Shared → Prop} {s : Shared}
theorem args_max_dflt (a v : Value) : argsOk "max" ⟨[a], [(Str.ofString "default", v)]⟩ := by unfold argsOk; kernel_rfl
theorem call_max_dflt {x dv : Value} {Q : Value → Shared → Prop}
    (h : wpAny (model prog w) A.in1 (pyIter x) (fun it s₂ => ∃ I fp wr n P St f, it = .ref I ∧ Walks prog w A.in1 I fp wr n P St ∧ St 0 s₂.heap ∧ (∀ b ∈ fp, b < s₂.heap.objs.size) ∧ (∀ i v, P i v → ∃ t, v = .int (f i) t) ∧
      ∀ v h' tk, (match mxOf f n with | none => v = dv | some m => ∃ t, v = .int m t) → (∀ b o, b ∉ wr → s₂.heap.get? b = some o → h'.get? b = some o) → Q v { s₂ with heap := h', toks := tk }) E s) :
    wpAny (model prog w) A (call (.builtin "max") [x] [(Str.ofString "default", dv)]) Q E s := by
  have hname : (toString "max" ++ toString ".loop" : String) = "max.loop" := by decide
  refine PyProof.Rows.kmk_tree PySem.F.kind_max PySem.F.plain_max PySem.F.entry_max (args_max_dflt _ _) ?_
  show wpAny _ A.in1 (Builtin.Builtins.bindParams "max" ["key", "default"] 0 ⟨[], [(Str.ofString "default", dv)]⟩ >>= _) _ _ s
  refine wpAny_bind (wpAny_of_eq (show Builtin.Builtins.bindParams "max" ["key", "default"] 0 ⟨[], [(Str.ofString "default", dv)]⟩ = pure [none, some dv] from rfl) ?_)
  refine wpAny_bind (wpAny_pure ?_)
  refine wpAny_bind (wpAny_mono h (fun it s₂ h₂ => ?_) fun _ _ e => e)
  obtain ⟨I, fp, wr, n, P, St, f, rfl, W, hst, hfp, hv, hQ⟩ := h₂
  refine wpAny_bind (wpAny_newObj_type ?_)
  have hSf : s₂.heap.objs.size ∉ fp := fun hm => Nat.lt_irrefl _ (hfp _ hm)
  rw [hname]
  refine wpAny_pure ⟨plainId_quiet PySem.F.plain_max_loop _, max_loop W f hv _ ⟨_, dv, rfl⟩ s₂.heap.objs.size hSf n 0 _ (Nat.sub_zero _) (Nat.zero_le _) (W.frame _ _ _ hst fun b _ o e => Heap.get?_push_of_some _ e) ⟨_, .inl ⟨rfl, Heap.get?_push_size _ rfl⟩⟩ fun v h' tk hP hk => ?_⟩
  refine hQ v h' tk ?_ fun b o hbw e => hk b o hbw (Nat.ne_of_lt (Heap.lt_size e)) (Heap.get?_push_of_some _ e)
  cases em : mxOf f n with
  | none =>
    rw [em] at hP
    obtain ⟨nm, e⟩ := hP
    simp only [Option.toList, List.map_cons, List.map_nil, List.cons.injEq, Prod.mk.injEq, and_true] at e
    exact e.2.symm
  | some m =>
    rw [em] at hP
    exact hP
end

/-! ### d.values() of a dict with tuple keys; its greatest -/
def valuesO (p d : Addr) : HO := .ext fun h => h.IsValuesView p d
theorem valuesO_ok {P : Program} {w : World} {H : Hp} {h : Heap} {p d : Addr} (e : h.get? p = some { cls := .type "dict_values", data := .fields #[.ref d] }) : ObjOk P w H h p (valuesO p d) :=
  ⟨⟨_, e, rfl, rfl⟩, ⟨_, e⟩, fun h1 h2 x k => let ⟨o, ho, r⟩ := x; ⟨o, k o ho, r⟩⟩
section
variable {X : Cx}
theorem raw_of {pins : List (Addr × Obj)} {σ : L2.St} {H : Hp} {s : Shared} {a : Addr} {kvs : List (List Key × V)} (I : Inv X pins σ H s) (ha : H a = some (.dT kvs)) :
    (a == sysModules) = false ∧ ∃ (es : Array DictEntry) (ep : Nat), s.heap.DictRaw a es ep ∧ es.size = kvs.length ∧ ∀ (i : Nat) (hi : i < es.size), ∃ k v, kvs[i]? = some (k, v) ∧ RelV v es[i].val := by
  obtain ⟨z, hd, xs, rel, o, es, ep, ho, hx, hdat, hes, _, _⟩ := dt_of I.hok ha
  have hl : es.size = xs.length := by
    have q := congrArg List.length hes
    rw [Array.length_toList, List.length_map] at q
    exact q
  have hl2 : kvs.length = xs.length := Paired.length rel
  refine ⟨hd, es, ep, ⟨o, ho, hx, hdat⟩, hl.trans hl2.symm, fun i hi => ?_⟩
  have get : ∀ {kvs : List (List Key × V)} {xs : List (List Key × Addr × Value)} (_ : KT H kvs xs) (i : Nat) (y : List Key × Addr × Value), xs[i]? = some y → ∃ v, kvs[i]? = some (y.1, v) ∧ RelV v y.2.2 := by
    intro kvs xs r
    induction r with
    | nil => intro i y e; simp at e
    | cons hh t ih =>
      intro i y e
      cases i with
      | zero =>
        cases (Option.some.inj (show some _ = some y from e))
        exact ⟨_, congrArg some (Prod.ext hh.1 rfl), hh.2.2⟩
      | succ i => exact ih i y e
  have hx' : i < xs.length := hl ▸ hi
  obtain ⟨v, e1, e2⟩ := get rel i xs[i] (List.getElem?_eq_getElem hx')
  have ev : es[i].val = (xs[i]).2.2 := by
    have q : es.toList[i]? = (xs.map (entryOfKey (tupleKind (mixKind X.prog X.w))))[i]? := by rw [hes]
    rw [Array.getElem?_toList, List.getElem?_map, List.getElem?_eq_getElem hx', Array.getElem?_eq_getElem hi] at q
    have q := Option.some.inj q
    rw [q] <;> rfl
  exact ⟨_, v, e1, by rw [ev]; exact e2⟩
def rValuesT : V → List V → Hp → VK → Prop := fun x xs H Q => ∃ (a : Addr) (kvs : List (List Key × V)), x = .ref a ∧ xs = [] ∧ H a = some (.dT kvs) ∧ ∀ p, H p = none → Q (.ref p) (upd H p (valuesO p a))
theorem mt_valuesT : MtR X "dict.values" rValuesT := by
  intro pins s σ H x xs v us Q I rx rxs h
  obtain ⟨a, kvs, rfl, rfl, ha, q⟩ := h
  cases rx
  cases rxs
  obtain ⟨hd, es, ep, hr, _⟩ := raw_of I ha
  refine call_meetsIn F.slot_dict_values hr.typeIs F.entry_dict_values (F.args_dict_values_1 _) (meets_dict_values_raw a hd) ⟨⟨es, ep, hr⟩, ?_⟩
  exact ⟨.ref s.heap.objs.size, upd H s.heap.objs.size (valuesO s.heap.objs.size a), I.laid (t' := s.toks) (fun b u e => Heap.get?_push_of_some _ e) (Nat.le_refl _) (valuesO_ok (Heap.get?_push_size _ rfl)), rfl, q _ (I.hok.fresh (Nat.le_refl _))⟩
/-- what a view's walk asks and gives -/
theorem view_walk {pins : List (Addr × Obj)} {σ : L2.St} {H : Hp} {s : Shared} {p a : Addr} {kvs : List (List Key × V)} {is : List Int} {A : Around} {E : Value → Shared → Prop} (hh : A.handled = none) (I : Inv X pins σ H s) (hp : H p = some (valuesO p a)) (ha : H a = some (.dT kvs))
    (hi : kvs.map (·.2) = is.map V.int) {Q : Value → Shared → Prop}
    (h : ∀ I fp wr P St s₂ n, n = is.length → Walks X.prog X.w A I fp wr n P St → St 0 s₂.heap → (∀ b ∈ fp, b < s₂.heap.objs.size) → (∀ i v, P i v → ∃ t, v = .int (is.getD i 0) t) → (∀ b o, s.heap.get? b = some o → s₂.heap.get? b = some o ∧ b ∉ wr) →
      (∃ h₂, s₂ = { s with heap := h₂ }) → Q (.ref I) s₂) : wpAny (model X.prog X.w) A (pyIter (.ref p)) Q E s := by
  obtain ⟨hd, es, ep, hr, hz, hv⟩ := raw_of I ha
  have hpv : s.heap.IsValuesView p a := (I.hok p _ hp).1
  have hlt : a < s.heap.objs.size := let ⟨_, o, _⟩ := hr; Heap.lt_size o
  have hlen : kvs.length = is.length := by
    have q := congrArg List.length hi
    rwa [List.length_map, List.length_map] at q
  refine wpAny_pyIter_values_raw hpv hr ?_
  generalize ho : ({ cls := .type "dict_valueiterator", data := .fields #[.ref a, .int 0 0, .int es.size 0, .int ep 0] } : Obj) = o1
  have W := Walks.rawValues (prog := X.prog) (w := X.w) hh s.heap.objs.size a (Nat.ne_of_lt hlt) es ep
  have g1 : (s.heap.push o1).get? s.heap.objs.size = some o1 := Heap.get?_push_size _ (by rw [← ho] <;> rfl)
  refine h s.heap.objs.size [s.heap.objs.size, a] [s.heap.objs.size] _ _ _ _ (hz.trans hlen) W ⟨?_, hr.at fun o e => Heap.get?_push_of_some _ e⟩ (fun b hb => ?_) (fun i v hP => ?_) (fun b o e => ⟨Heap.get?_push_of_some _ e, fun z => ?_⟩) ⟨_, rfl⟩
  · exact ⟨o1, g1, by rw [← ho] <;> rfl, by rw [← ho] <;> rfl⟩
  · show b < (s.heap.push o1).objs.size
    rw [Heap.size_push]
    rcases List.mem_cons.mp hb with z | z
    · rw [z]; exact Nat.lt_succ_self _
    · rw [List.mem_singleton.mp z]; exact Nat.lt_succ_of_lt hlt
  · obtain ⟨hi', rfl⟩ := hP
    obtain ⟨k, v, e1, e2⟩ := hv i hi'
    have e3 : (kvs.map (·.2))[i]? = some v := by rw [List.getElem?_map, e1] <;> rfl
    rw [hi, List.getElem?_map] at e3
    obtain ⟨j, hj, e4⟩ := Option.map_eq_some_iff.mp e3
    subst e4
    obtain ⟨t, e5⟩ := e2
    exact ⟨t, by rw [e5, List.getD_eq_getElem?_getD, hj] <;> rfl⟩
  · exact absurd (Heap.lt_size e) (by rw [List.mem_singleton.mp z]; exact Nat.lt_irrefl _)
def IsMax (is : List Int) (m : Int) : Prop := m ∈ is ∧ ∀ j ∈ is, j ≤ m
def rMaxV : List V → Hp → VK → Prop := fun vs H Q => ∃ (p a : Addr) (kvs : List (List Key × V)) (is : List Int), vs = [.ref p] ∧ H p = some (valuesO p a) ∧ H a = some (.dT kvs) ∧ kvs.map (·.2) = is.map V.int ∧ is ≠ [] ∧ ∀ m, IsMax is m → Q (.int m) H
theorem cr_maxV (hc : X.calm = true) : CallR X (.builtin "max") rMaxV := by
  intro pins s σ H vs us Q I r h
  obtain ⟨p, a, kvs, is, rfl, hp, ha, hi, hne, q⟩ := h
  rw [Vals.ref1 r]
  refine call_max_walk (view_walk (A := X.A.in1) (show X.A.in1.handled = none from I.ok.hd hc) I hp ha hi fun It fp wr P St s₂ n en W st hfp hv k es2 => ?_)
  have hl : 0 < is.length := List.length_pos_iff.mpr hne
  subst en
  refine ⟨It, fp, wr, is.length, P, St, _, rfl, W, st, hfp, hl, CmpOf.ints_gt (fun i => is.getD i 0) hv, fun v h' tk hP hk => ?_⟩
  obtain ⟨t, rfl⟩ := hv _ v hP
  obtain ⟨h₂, rfl⟩ := es2
  obtain ⟨b1, b2⟩ := argBest_gt (fun i => is.getD i 0) (is.length - 1)
  have hb : argBest (fun i j => decide (is.getD i 0 > is.getD j 0)) (is.length - 1) < is.length := by omega
  refine ⟨.int _, H, I.kept (t' := tk) fun b u e => hk b u (k b u e).2 (k b u e).1, ⟨t, rfl⟩, q _ ⟨?_, fun j hj => ?_⟩⟩
  · rw [List.getD_eq_getElem?_getD, List.getElem?_eq_getElem hb]
    exact List.getElem_mem hb
  · obtain ⟨i, hi, e⟩ := List.mem_iff_getElem.mp hj
    have e2 : is.getD i 0 = j := by rw [List.getD_eq_getElem?_getD, List.getElem?_eq_getElem hi, ← e] <;> rfl
    rw [← e2]
    exact b2 i (by omega)
/-- max(d.values(), default=e) -/
def rMaxVD : List V → List V → Hp → VK → Prop := fun vs zs H Q => ∃ (p a : Addr) (kvs : List (List Key × V)) (is : List Int) (d : V), vs = [.ref p] ∧ zs = [d] ∧ H p = some (valuesO p a) ∧ H a = some (.dT kvs) ∧ kvs.map (·.2) = is.map V.int ∧ (is = [] → Q d H) ∧ ∀ m, IsMax is m → Q (.int m) H
theorem crk_maxV (hc : X.calm = true) : CallRK X (.builtin "max") [Str.ofString "default"] rMaxVD := by
  intro pins s σ H vs zs us ws Q I r rz h
  obtain ⟨p, a, kvs, is, d, rfl, rfl, hp, ha, hi, q0, q⟩ := h
  rw [Vals.ref1 r]
  cases rz with
  | cons rd rt =>
    cases rt
    rename_i dv
    refine call_max_dflt (view_walk (A := X.A.in1) (show X.A.in1.handled = none from I.ok.hd hc) I hp ha hi fun It fp wr P St s₂ n en W st hfp hv k es2 => ?_)
    subst en
    refine ⟨It, fp, wr, is.length, P, St, fun i => is.getD i 0, rfl, W, st, hfp, hv, fun v h' tk hP hk => ?_⟩
    obtain ⟨h₂, rfl⟩ := es2
    have J : Inv X pins σ H { s with heap := h', toks := tk } := I.kept (t' := tk) fun b u e => hk b u (k b u e).2 (k b u e).1
    rcases mxOf_spec (fun i => is.getD i 0) is.length with ⟨e0, em⟩ | ⟨m, em, ⟨i, hi', ei⟩, hb⟩
    · rw [em] at hP
      subst hP
      exact ⟨d, H, J, rd, q0 (List.length_eq_zero_iff.mp e0)⟩
    · rw [em] at hP
      obtain ⟨t, rfl⟩ := hP
      refine ⟨.int m, H, J, ⟨t, rfl⟩, q m ⟨?_, fun j hj => ?_⟩⟩
      · rw [← ei, List.getD_eq_getElem?_getD, List.getElem?_eq_getElem hi']
        exact List.getElem_mem hi'
      · obtain ⟨i2, hi2, e⟩ := List.mem_iff_getElem.mp hj
        have e2 : is.getD i2 0 = j := by rw [List.getD_eq_getElem?_getD, List.getElem?_eq_getElem hi2, ← e] <;> rfl
        rw [← e2]
        exact hb i2 hi2

/-! ### a store into a dict, as one of several targets -/
theorem set_dict (hu : X.A.units + 1 < cLine) : PSet X (fun o i v H Q => ∃ (a : Addr) (H' : Hp), o = .ref a ∧ DPut H a i v H' ∧ Q H') := by
  intro pins s σ H o i v ov iv u Q I ro ri rv h
  obtain ⟨a, H', rfl, put, q⟩ := h
  cases ro
  exact d_setItem hu I put ri rv fun s' I' => ⟨H', I', q⟩
end
end Mv
/-! set and sorted of a tuple of tuples of ints. -/
namespace Mv
open PySem PySem.Spec PyProof.Rows L2
section
variable {P : Program} {w : World} {A : Around} {E : Value → Shared → Prop} {s : Shared}
set_option maxHeartbeats 6400000 in
theorem call_set_tupsU {l : Addr} {items : Array Value} (ks : List (Addr × List Int)) {Q : Value → Shared → Prop} (hh : A.handled = none) (hl : s.heap.IsTuple l items) (hit : items.toList = ks.map fun p => Value.ref p.1)
    (hk : ∀ p ∈ ks, IsT P w s.heap p.2 p.1) (hfew : ks.length < 64) (hu : A.units + 3 < cLine)
    (h : ∀ (h' : Heap) (tk : Nat) L es ep t, SetTR P w h' s.heap.objs.size L es ep t → Got ks ks.length L → (∀ b o, s.heap.get? b = some o → h'.get? b = some o) → Q (.ref s.heap.objs.size) { s with heap := h', toks := tk }) :
    wpAny (model P w) A (call (.type "set") [.ref l]) Q E s := by
  have hisz : items.size = ks.length := by
    have q := congrArg List.length hit
    rw [Array.length_toList, List.length_map] at q
    exact q
  obtain ⟨c, tl, hmro⟩ := F.called_set.mro
  have hmade := F.called_set.made
  have hsub := F.called_set.sub
  refine wpAny_call (codeAny_of_tree ?_)
  show wpAny _ _ (callAny (.type "set") _) _ _ _
  refine wpAny_pure ⟨Code.quiet_builtin _ (by decide +kernel), codeAny_builtin F.entry_type_call ?_⟩
  rw [Around.under_plain (weight_type_call_type "set" [.ref l] []) rfl]
  have h1 := F.called_set.notType
  have h2 := F.called_set.canCreate
  have hct := F.typeCall_set_1 (.ref l)
  repeat (any_goals (first | assumption | wp_step))

  refine codeAny_mono (code_set_led1 (.ref l) (E := E) (Q₁ := fun obj s₁ => obj = .ref s.heap.objs.size ∧ s₁ = { s with heap := s.heap.push { cls := .type "set", dict := none, data := .set #[] 0 (.fresh 0 0 (!w.params.followText "set-order")) } }) ⟨rfl, rfl⟩) fun r s₁ hr => ?_
  cases r with
  | error e => exact hr
  | ok fl =>
    cases fl with
    | ret obj =>
      obtain ⟨rfl, rfl⟩ := hr
      have hS : (s.heap.push { cls := .type "set", dict := none, data := .set #[] 0 (.fresh 0 0 (!w.params.followText "set-order")) }).get? s.heap.objs.size = some { cls := .type "set", dict := none, data := .set #[] 0 (.fresh 0 0 (!w.params.followText "set-order")) } := Heap.get?_push_size _ rfl
      have hT : Shared.TypeIs { s with heap := s.heap.push { cls := .type "set", dict := none, data := .set #[] 0 (.fresh 0 0 (!w.params.followText "set-order")) } } (.ref s.heap.objs.size) "set" := ⟨_, hS, rfl⟩
      have hli := F.called_set.init.lookup
      have hbi := F.called_set.init.bind (.ref s.heap.objs.size)
      repeat (any_goals (first | assumption | wp_step))

      refine codeAny_mono (codeAny_call_builtin (R := wants (fun r s₂ => r = .none ∧ ∃ h' tk L es ep t, s₂ = { s with heap := h', toks := tk } ∧ SetTR P w h' s.heap.objs.size L es ep t ∧ Got ks ks.length L ∧
          (∀ b o, s.heap.get? b = some o → h'.get? b = some o)) E) F.called_set.init.plain F.entry_set_init (check_set_init_1 hT ?_)) fun r₂ s₂ hr₂ => ?_
      · obtain ⟨ol, hol, hcl, nl, hdl⟩ := hl
        obtain ⟨ocls, odict, odata, oslots⟩ := ol
        simp only at hcl hdl
        subst hcl; subst hdl
        have hol' : (s.heap.push { cls := .type "set", dict := none, data := .set #[] 0 (.fresh 0 0 (!w.params.followText "set-order")) }).get? l = some { cls := .type "tuple", dict := odict, data := .seq items nl, slots := oslots } := Heap.get?_push_of_some _ hol
        have hsls := F.sub_tuple_set
        have hslf := F.sub_tuple_frozenset
        have hne : (Value.type "tuple" == Value.type "dict") = false := by decide
        have hl1 : (s.heap.push { cls := .type "set", dict := none, data := .set #[] 0 (.fresh 0 0 (!w.params.followText "set-order")) }).IsTuple l items := ⟨_, hol', rfl, nl, rfl⟩
        unfold Builtin.«set.__init__» noKeywords Builtin.Frozenset.updateFrom
        generalize hPI : pyIter = PI
        wp_walk
        subst hPI

        refine wpAny_pyIter_tuple hl1 ?_
        refine wpAny_bind (wpAny_runValue ?_)
        have hlS : l < s.heap.objs.size := Heap.lt_size hol
        have hh3 : A.in1.in1.in1.handled = none := by simp [hh]
        have hz1 : (s.heap.push { cls := .type "set", dict := none, data := .set #[] 0 (.fresh 0 0 (!w.params.followText "set-order")) }).objs.size = s.heap.objs.size + 1 := Heap.size_push ..
        have hneI : l ≠ (s.heap.push { cls := .type "set", dict := none, data := .set #[] 0 (.fresh 0 0 (!w.params.followText "set-order")) }).objs.size := by
          rw [Heap.size_push]; exact Nat.ne_of_lt (Nat.lt_succ_of_lt hlS)
        have hSf : s.heap.objs.size ∉ [(s.heap.push { cls := .type "set", dict := none, data := .set #[] 0 (.fresh 0 0 (!w.params.followText "set-order")) }).objs.size, l] := by
          rw [Heap.size_push]; simp only [List.mem_cons, List.mem_singleton, List.not_mem_nil, or_false, not_or]
          exact ⟨Nat.ne_of_lt (Nat.lt_succ_self _), Nat.ne_of_gt hlS⟩
        have hval : ∀ (i : Nat) (v : Value), items[i]? = some v → ∃ p, ks[i]? = some p ∧ v = .ref p.1 := fun i v hv => by
          have q : items.toList[i]? = some v := by rw [Array.getElem?_toList]; exact hv
          rw [hit, List.getElem?_map] at q
          cases hq : ks[i]? with
          | none => rw [hq] at q; cases q
          | some p =>
            rw [hq] at q
            exact ⟨p, rfl, (Option.some.inj q).symm⟩
        have none_of : ∀ b, s.heap.objs.size ≤ b → s.heap.get? b = none := fun b hb => by
          cases q : s.heap.get? b with
          | none => rfl
          | some o => exact absurd (Nat.lt_of_lt_of_le (Heap.lt_size q) hb) (Nat.lt_irrefl _)
        refine set_update_tups ((Walks.tuple hh3 _ l hneI items).toS) s.heap.objs.size
          hSf ks hisz hfew hval s.heap hk (none_of _ (Nat.le_refl _)) (fun b hb => none_of b (by
            rw [List.mem_singleton.mp hb, Heap.size_push]
            exact Nat.le_succ _)) hu (items.size - 0) 0 _ (by omega) (Nat.zero_le _)
          ⟨⟨_, Heap.get?_push_size _ rfl, rfl, rfl⟩, (hl1.push _)⟩ (fun b o e => Heap.get?_push_of_some _ (Heap.get?_push_of_some _ e)) ?hS0 ?hR
        case hS0 =>
          have hget : ((s.heap.push { cls := .type "set", dict := none, data := .set #[] 0 (.fresh 0 0 (!w.params.followText "set-order")) }).push { cls := .type "tuple_iterator", data := .fields #[.ref l, .int 0 0] }).get? s.heap.objs.size
              = some { cls := .type "set", dict := none, data := .set #[] 0 (.fresh 0 0 (!w.params.followText "set-order")) } := Heap.get?_push_of_some _ hS
          exact ⟨[], #[], 0, _, setTR_fresh hget, Got.zero ks⟩
        case hR =>
          intro s' L es ep t hm hS' g' hkp
          obtain ⟨h', g2, d', tk', os'⟩ := s'
          have eg : g2 = s.gens := hm.gens
          have ed : d' = s.drawn := hm.drawn
          have eo : os' = s.os := hm.os
          subst eg; subst ed; subst eo
          show wpAny _ _ _ _ _ _
          refine wpAny_pure ?_
          show wpAny _ _ (ret Value.none) _ _ _
          rw [hisz] at g'
          exact wpAny_pure ⟨rfl, h', tk', L, es, ep, t, rfl, hS', g', hkp⟩

      · cases r₂ with
        | error e => exact hr₂
        | ok fl₂ =>
          cases fl₂ with
          | ret r =>
            obtain ⟨rfl, h', tk, L, es, ep, t, rfl, hS', g', hk'⟩ := hr₂
            repeat (any_goals (first | assumption | wp_step))
            exact h _ _ _ _ _ _ hS' g' hk'
          | _ => exact hr₂.elim
    | _ => exact hr.elim
end
section
variable {X : Cx}
/-- set(xs), xs a tuple of tuples of ints -/
def rSetOfTU (K : PySem.W.Frag) (P : Program) (w : World) : List V → Hp → VK → Prop := fun xs H Q => ∃ (l : Addr) (ks : List (Addr × List Int)), xs = [V.ref l] ∧ SqT K H l (ks.map fun p => V.ref p.1) ∧ (∀ p ∈ ks, SqT K H p.1 (p.2.map V.int)) ∧ ks.length < 64 ∧
  ∀ a L, H a = none → (∀ p ∈ L, p ∈ ks) → (∀ p ∈ ks, p.2 ∈ L.map (·.2)) → Q (.ref a) (upd H a (SetTO P w a L))
theorem cr_setOfTU (hc : X.calm = true) (hu : X.A.units + 64 < cLine) : CallR X (.type "set") (rSetOfTU X.K X.prog X.w) := by
  intro pins s σ H xs us Q I r h
  obtain ⟨l, ks, rfl, hl, hk, hf, q⟩ := h
  rw [Vals.ref1 r]
  obtain ⟨its, rv, pl, hz⟩ := I.tuple hl
  have pl : s.heap.IsTuple l its.toArray := pl
  have hn : H s.heap.objs.size = none := I.hok.fresh (Nat.le_refl _)
  refine call_set_tupsU (P := X.prog) (w := X.w) ks (I.ok.hd hc) pl (by simpa using refs_of_vals rv) (fun p hp => I.isT (hk p hp)) hf (by omega) fun h' tk L es ep t R g k => ?_
  refine ⟨.ref s.heap.objs.size, upd H s.heap.objs.size (SetTO X.prog X.w s.heap.objs.size L), I.laid (t' := tk) k (Nat.le_refl _) (setTO_new R.t0), rfl, q _ L hn (fun p hp => ?_) fun p hp => ?_⟩
  · exact List.mem_of_mem_take (g.sub p hp)
  · exact g.all p (by rw [List.take_length]; exact hp)
end
end Mv
/-! sorted of a tuple of tuples of ints; sum of lists; a tuple once. -/
namespace Mv
open PySem PySem.Spec PyProof.Rows L2
section
variable {prog : Program} {w : World} {A : Around} {E : Value → Shared → Prop} {s : Shared}
theorem collect_tup {l : Addr} {vs : List Value} {Q : List Value → Shared → Prop} (hl : s.heap.IsTuple l vs.toArray)
    (h : Q vs { s with heap := (s.heap.push (seqObj "list" #[] 0)).update s.heap.objs.size (Obj.mapSeq (· ++ vs.toArray)) }) (hsz : vs.length ≤ sizeLine := by size_fits) :
    wpAny (model prog w) A (collect (.ref l)) Q E s := by
  obtain ⟨o, ho, hc, n, hd⟩ := id hl
  unfold collect
  refine wpAny_bind (wpAny_runValue (codeAny_builtin entry_proto_collect' ?_))
  show wpAny _ _ (do again (.builtin "list.__iadd__" ⟨[← newList [], .ref l], []⟩)) _ _ s
  refine wpAny_bind (wpAny_newList (wpAny_pure ⟨Code.quiet_builtin _ (by decide +kernel), codeAny_builtin entry_list_iadd' ?_⟩))
  show wpAny _ _ (Builtin.List.listExtendWith (.ref s.heap.objs.size) (.ref l) (.ref s.heap.objs.size)) _ _ { s with heap := s.heap.push (seqObj "list" #[] 0) }
  unfold Builtin.List.listExtendWith
  have ho' : (s.heap.push (seqObj "list" #[] 0)).get? l = some o := Heap.get?_push_of_some _ ho
  refine wpAny_bind (wpAny_typeOf (T := "tuple") ⟨o, ho', hc⟩ ?_)
  have ht : (Value.type "tuple" == Value.type "tuple") = true := by rfl
  rw [if_pos (by rw [ht]; simp)]
  refine wpAny_bind (listItems_at ho' hd ?_)
  refine wpAny_bind (listItems_at (xs := #[]) (n := 0) (Heap.get?_push_size _ rfl) rfl ?_)
  rw [if_neg (by simp)]
  refine wpAny_bind (listUpdate_at (xs := #[]) (n := 0) (Heap.get?_push_size _ rfl) rfl ?_ (Nat.zero_le _) (by show (#[] ++ vs.toArray).size ≤ sizeLine + 1; simp only [Array.size_append, List.size_toArray, List.length_nil]; omega))
  refine wpAny_pure ?_
  show wpAny (model prog w) A (do
      let o ← load s.heap.objs.size
      match o.data with
      | .seq xs _ => pure xs.toList
      | _ => unsupported "internal:collect") Q E { s with heap := (s.heap.push (seqObj "list" #[] 0)).update s.heap.objs.size (Obj.mapSeq (· ++ vs.toArray)) }
  refine wpAny_bind (wpAny_load (get?_update_seq (Heap.get?_push_size _ rfl) _) ?_)
  show wpAny _ _ (pure ((#[] : Array Value) ++ vs.toArray).toList) Q E _
  rw [show ((#[] : Array Value) ++ vs.toArray).toList = vs by simp]
  exact wpAny_pure h
theorem sorted_tupsU {l : Addr} {vs : List Value} {d : Nat} {B : Int} {Q : Value → Shared → Prop} (hl : s.heap.IsTuple l vs.toArray) (h64 : vs.length < 64) (hd : 1 ≤ d) (x : TS.TupsOk s.heap d B vs)
    (h : ∀ out : Array Value, out.toList.Perm vs → out.toList.Pairwise (fun u v => TS.code B (TS.intsOf s.heap u) ≤ TS.code B (TS.intsOf s.heap v)) → Q (.ref (s.heap.objs.size + 1)) { s with heap := sortedAll s.heap vs out }) :
    wpAny (model prog w) A (call (.builtin "sorted") [.ref l]) Q E s := by
  refine Calls.call_function_entry kind_sorted plain_sorted entry_sorted (args_sorted1 _) ?_
  unfold Builtin.«sorted»
  refine wpAny_bind (m := checkCount "sorted" 1 1 _) (wpAny_pure ?_)
  refine wpAny_bind (collect_tup hl ?_ (by rw [sizeLine_eq]; omega))
  refine wpAny_bind (wpAny_newList ?_ (by rw [sizeLine_eq]; omega))
  have hsz : ((s.heap.push (seqObj "list" #[] 0)).update s.heap.objs.size (Obj.mapSeq (· ++ vs.toArray))).objs.size = s.heap.objs.size + 1 := by
    rw [Heap.size_update, size_push']
  have hoL : (((s.heap.push (seqObj "list" #[] 0)).update s.heap.objs.size (Obj.mapSeq (· ++ vs.toArray))).push (seqObj "list" vs.toArray 0)).get? (s.heap.objs.size + 1) = some (seqObj "list" vs.toArray 0) := by
    rw [← hsz]; exact Heap.get?_push_size _ rfl
  have keep : ∀ b o, s.heap.get? b = some o → o.cls = .type "tuple" → (((s.heap.push (seqObj "list" #[] 0)).update s.heap.objs.size (Obj.mapSeq (· ++ vs.toArray))).push (seqObj "list" vs.toArray 0)).get? b = some o := fun b o q _ => by
    have hlt : b < s.heap.objs.size := Heap.lt_size q
    rw [Heap.get?_push_ne _ _ _ (by rw [hsz]; exact Nat.ne_of_lt (Nat.lt_succ_of_lt hlt)), Heap.get?_update_ne _ _ _ _ (Nat.ne_of_lt hlt), Heap.get?_push_ne _ _ _ (Nat.ne_of_lt hlt)]
    exact q
  show wpAny _ _ _ _ _ { s with heap := ((s.heap.push (seqObj "list" #[] 0)).update s.heap.objs.size (Obj.mapSeq (· ++ vs.toArray))).push (seqObj "list" vs.toArray 0) }
  rw [hsz]
  refine wpAny_bind (wpAny_holding (wpAny_call_entry slot_list_sort ⟨_, hoL, rfl⟩ entry_list_sort (TS.sort_tups hoL h64 hd (x.keeps keep) (fun v => TS.code B (TS.intsOf s.heap v)) (fun v hv ns t => ?_) fun out a1 a2 => ⟨_, rfl, ?_⟩) (args_list_sort _)))
  · obtain ⟨ns0, t0, _⟩ := x v hv
    have e : ns = ns0 := t.ints.symm.trans (t0.keeps keep).ints
    rw [e]
    show TS.code B (TS.intsOf s.heap v) = TS.code B ns0
    rw [t0.ints]
  · exact wpAny_pure ⟨_, rfl, h out a1 a2⟩

end
section
variable {X : Cx} {pins : List (Addr × Obj)} {σ : L2.St} {H : Hp} {s : Shared}
def rSortUU (K : PySem.W.Frag) (d : Nat) (B : Int) : List V → Hp → VK → Prop := fun vs H Q => ∃ (a : Addr) (xs : List V), vs = [V.ref a] ∧ SqT K H a xs ∧ xs.length < 64 ∧ (∀ x ∈ xs, ∃ ns, TupI K H x ns ∧ ns.length = d ∧ TS.Bd B ns) ∧
  ∀ (ys : List V) (p : Addr), ys.Perm xs → ys.Pairwise (fun x y => ∀ n m, TupI K H x n → TupI K H y m → TS.code B n ≤ TS.code B m) → H p = none → Q (.ref p) (upd H p (.lst ys))
theorem cr_sortTU {d : Nat} {B : Int} (hd : 1 ≤ d) : CallR X (.builtin "sorted") (rSortUU X.K d B) := by
  intro pins s σ H vs us Q I r h
  obtain ⟨a, xs, rfl, hs, h64, hx, q⟩ := h
  obtain ⟨its, rv, hl, hz⟩ := I.tuple hs
  rw [Vals.ref1 r]
  obtain ⟨e1, e2⟩ := bkV_refs rv fun x m => by
    obtain ⟨ns, ⟨t, e, _⟩, _⟩ := hx x m
    exact ⟨t, e⟩
  refine sorted_tupsU (d := d) (B := B) (show s.heap.IsTuple a its.toArray from hl) (by rw [← rv.length]; exact h64) hd (fun v hv => ?_) fun out h1 h2 => ?_
  · obtain ⟨t, rfl⟩ := e2 v hv
    have hm : V.ref t ∈ xs := by
      rw [e1]
      exact List.mem_map.mpr ⟨_, hv, rfl⟩
    obtain ⟨ns, ⟨t', e, ht⟩, hn, hb⟩ := hx _ hm
    cases e
    exact ⟨ns, tupI_raw I ht, hn, hb⟩
  · obtain ⟨ep, he'⟩ := PyProof.Rows.sortedAll_at s.heap its out
    have h3 : ∀ u ∈ out.toList, ∃ a, u = Value.ref a := fun u hu => e2 u (h1.mem_iff.mp hu)
    have hp : (out.toList.map bkV).Perm xs := by
      rw [e1]
      exact h1.map bkV
    have hlen : (out.toList.map bkV).length ≤ sizeLine := by
      rw [hp.length_eq]
      exact hz
    refine ⟨.ref _, upd H (s.heap.objs.size + 1) (.lst (out.toList.map bkV)), I.laid (t' := s.toks) (fun _ _ => PyProof.Rows.sortedAll_old) (Nat.le_succ _) ⟨hlen, out.toList, ep, bkV_vals h3, he'⟩, rfl, q _ _ hp ?_ (I.hok.fresh (Nat.le_succ _))⟩
    rw [List.pairwise_map]
    refine List.Pairwise.imp (fun {u v} huv n m hn hm => ?_) h2
    obtain ⟨t, et, ht⟩ := hn
    obtain ⟨t', et', ht'⟩ := hm
    have eu := bkV_ref et
    have ev := bkV_ref et'
    have i1 : TS.intsOf s.heap u = n := by
      rw [eu]
      exact (tupI_raw I ht).ints
    have i2 : TS.intsOf s.heap v = m := by
      rw [ev]
      exact (tupI_raw I ht').ints
    rw [← i1, ← i2]
    exact huv

end
/-! ### sum(xs, ys) of lists -/
section
variable {prog : Program} {w : World} {A : Around} {E : Value → Shared → Prop}
theorem args_sum2 (a b : Value) : argsOk "sum" ⟨[a, b], []⟩ := by unfold argsOk; kernel_rfl
def flat (ls : List (Addr × List Value)) : List Value := (ls.map (·.2)).flatten
theorem sum_loopL {R : Result → Shared → Prop} (hh : A.in1.handled = none) (I ax S : Addr) (h0 : Heap) (ls : List (Addr × List Value)) (hI0 : h0.get? I = none) (hS0 : h0.get? S = none) (hax : ∃ o, h0.get? ax = some o) (hIS : I ≠ S)
    (hl : ∀ p ∈ ls, ∃ c, IsL h0 p.1 p.2.toArray c) (items : Array Value) (hit : items.toList = ls.map fun p => Value.ref p.1) :
    ∀ (k i : Nat) (s : Shared) (t : Addr) (acc : List Value) (c cc : Nat), ls.length - i = k → i ≤ ls.length → s.heap.IsListIter I ax i → s.heap.IsList ax items → (∀ b o, h0.get? b = some o → s.heap.get? b = some o) → h0.objs.size ≤ s.heap.objs.size →
      IsL s.heap S #[.ref t] cc → IsL s.heap t acc.toArray c → t ≠ I → t ≠ S → acc.length + (flat (ls.drop i)).length ≤ sizeLine →
      (∀ h' tk t' c', (∀ b o, h0.get? b = some o → h'.get? b = some o) → (i = ls.length → t' = t) → (i < ls.length → h0.objs.size ≤ t') → IsL h' t' (acc ++ flat (ls.drop i)).toArray c' → R (.ok (.ret (.ref t'))) { s with heap := h', toks := tk }) →
      codeAny (model prog w) A (.builtin "sum.loop" ⟨[.ref I, .ref S, rawInt 2, rawInt 0], []⟩) R s := by
  obtain ⟨oax, hax⟩ := hax
  have nai : ax ≠ I := fun e => by rw [e, hI0] at hax; cases hax
  have nas : ax ≠ S := fun e => by rw [e, hS0] at hax; cases hax
  have hn : items.size = ls.length := by
    have q := congrArg List.length hit
    rwa [Array.length_toList, List.length_map] at q
  intro k
  induction k with
  | zero =>
    intro i s t acc c cc hk hi hst hax' hkp hsz hS ht h1 h2 hz hR
    have hin : i = ls.length := by omega
    refine codeAny_builtin F.entry_sum_loop ?_
    rw [Around.under_plainId F.plain_sum_loop _]
    show wpAny _ A.in1 (seqItems? (.ref S) >>= _) _ _ s
    refine wpAny_bind (wpAny_seqItems hS rfl ?_)
    show wpAny _ A.in1 (tryCatch (pyNext (.ref I)) _ >>= _) _ _ s
    refine wpAny_bind (wpAny_tryCatch (wpAny_pyNext_list_end hh hst hax' (Array.getElem?_eq_none (by rw [hn]; omega)) fun h' he' => ?_))
    refine wpAny_pure (hR h' s.toks t c (fun b o e => (he' b o (fun z => by rw [z, hI0] at e; cases e) (hkp b o e))) (fun _ => rfl) (fun z => absurd z (by omega)) ?_)
    have e0 : flat (ls.drop i) = [] := by rw [hin, List.drop_length] <;> rfl
    rw [e0, List.append_nil]
    exact he' t _ h1 ht
  | succ k ih =>
    intro i s t acc c cc hk hi hst hax' hkp hsz hS ht h1 h2 hz hR
    have hlt : i < ls.length := by omega
    obtain ⟨p, hp⟩ : ∃ p, ls[i]? = some p := ⟨ls[i], List.getElem?_eq_getElem hlt⟩
    have hx : items[i]? = some (Value.ref p.1) := by
      rw [← Array.getElem?_toList, hit, List.getElem?_map, hp] <;> rfl
    obtain ⟨cp, hlp⟩ := hl p (List.mem_of_getElem? hp)
    have nps : p.1 ≠ S := fun e => by
      have q : h0.get? p.1 = some _ := hlp
      rw [e, hS0] at q; cases q
    have npi : p.1 ≠ I := fun e => by
      have q : h0.get? p.1 = some _ := hlp
      rw [e, hI0] at q; cases q
    have ed : ls.drop i = p :: ls.drop (i + 1) := by
      rw [List.drop_eq_getElem_cons hlt]
      congr 1
      rw [List.getElem?_eq_getElem hlt] at hp
      exact Option.some.inj hp
    have ef : flat (ls.drop i) = p.2 ++ flat (ls.drop (i + 1)) := by rw [ed] <;> rfl
    refine codeAny_builtin F.entry_sum_loop ?_
    rw [Around.under_plainId F.plain_sum_loop _]
    show wpAny _ A.in1 (seqItems? (.ref S) >>= _) _ _ s
    refine wpAny_bind (wpAny_seqItems hS rfl ?_)
    show wpAny _ A.in1 (tryCatch (pyNext (.ref I)) _ >>= _) _ _ s
    refine wpAny_bind (wpAny_tryCatch (wpAny_pyNext_list_item hst hax' hx fun h1' hit' hs' => ?_))
    have hs1 := hs'.extBut
    have hS1 : IsL h1' S #[.ref t] cc := hs1 S _ hIS.symm hS
    have ht1 : IsL h1' t acc.toArray c := hs1 t _ h1 ht
    have hk1 : ∀ b o, h0.get? b = some o → h1'.get? b = some o := fun b o e => hs1 b o (fun z => by rw [z, hI0] at e; cases e) (hkp b o e)
    have hsz1 : h0.objs.size ≤ h1'.objs.size := by rw [hs'.1]; exact hsz
    have hp1 : IsL h1' p.1 p.2.toArray cp := hk1 _ _ hlp
    have hax1 : h1'.IsList ax items := by
      obtain ⟨o, ho, r⟩ := hax'
      exact ⟨o, hs1 ax o nai ho, r⟩
    show wpAny _ A.in1 ((holding [Value.ref p.1] (binaryOp .Add (.ref t) (.ref p.1))).attempt >>= _) _ _ _
    have lsz : acc.length + p.2.length ≤ sizeLine := by
      rw [ef, List.length_append] at hz
      omega
    refine wpAny_bind (wpAny_attempt (wpAny_holding (P.add_list (s := { s with heap := h1' }) ht1 hp1 ?_ (by rw [List.size_toArray, List.size_toArray]; exact lsz))))
    have eap : acc.toArray ++ p.2.toArray = (acc ++ p.2).toArray := by simp
    rw [eap]
    have gT : IsL (h1'.push { cls := .type "list", data := .seq (acc ++ p.2).toArray }) h1'.objs.size (acc ++ p.2).toArray 0 := IsL.new _ _
    have lS : S < h1'.objs.size := Heap.lt_size hS1
    have lI : I < h1'.objs.size := let ⟨_, e, _⟩ := hit'; Heap.lt_size e
    have hS2 : IsL (h1'.push { cls := .type "list", data := .seq (acc ++ p.2).toArray }) S #[.ref t] cc := hS1.push _
    show wpAny _ A.in1 (updateSeq S (fun _ => #[.ref h1'.objs.size]) >>= _) _ _ { s with heap := h1'.push { cls := .type "list", data := .seq (acc ++ p.2).toArray } }
    refine wpAny_bind (wpAny_updateSeq hS2 rfl ?_)
    have hS3 := Heap.get?_update_self (Obj.mapSeq fun _ => #[Value.ref h1'.objs.size]) hS2 rfl
    refine wpAny_bind (wpAny_letGo ?_)
    refine wpAny_bind (wpAny_updateSeq hS3 rfl ?_)
    have hS4 := Heap.get?_update_self (Obj.mapSeq fun _ => #[Value.ref h1'.objs.size]) hS3 rfl
    have up : ∀ b o, b ≠ S → h1'.get? b = some o → (((h1'.push { cls := .type "list", data := .seq (acc ++ p.2).toArray }).update S (Obj.mapSeq fun _ => #[Value.ref h1'.objs.size])).update S (Obj.mapSeq fun _ => #[Value.ref h1'.objs.size])).get? b = some o := fun b o hb e =>
      (Heap.get?_update_other _ _ (Ne.symm hb)).trans ((Heap.get?_update_other _ _ (Ne.symm hb)).trans (Heap.get?_push_of_some _ e))
    refine wpAny_pure ⟨plainId_quiet F.plain_sum_loop _, ih (i + 1) _ h1'.objs.size (acc ++ p.2) 0 _ (by omega) hlt (hit'.at fun o e => up I o hIS e) ?_ (fun b o e => up b o (fun z => by rw [z, hS0] at e; cases e) (hk1 b o e)) (by rw [Heap.size_update, Heap.size_update, Heap.size_push]; exact Nat.le_succ_of_le hsz1) hS4 ?_ (Nat.ne_of_gt lI) (Nat.ne_of_gt lS) ?_ fun h' tk t' c' k1 k2 k3 k4 => ?_⟩
    · obtain ⟨o, ho, r⟩ := hax1
      exact ⟨o, up ax o nas ho, r⟩
    · exact (Heap.get?_update_other _ _ (Nat.ne_of_lt lS)).trans ((Heap.get?_update_other _ _ (Nat.ne_of_lt lS)).trans gT)
    · rw [List.length_append]
      rw [ef, List.length_append] at hz
      omega
    · refine hR h' tk t' c' k1 (fun z => absurd z (by omega)) (fun _ => ?_) ?_
      · rcases Nat.lt_or_ge (i + 1) ls.length with z | z
        · exact k3 z
        · rw [k2 (by omega)]
          exact hsz1
      · rw [ef, ← List.append_assoc]
        exact k4
variable {s : Shared}
theorem call_sumLL {l st : Addr} {acc : List Value} {c : Nat} {Q : Value → Shared → Prop} (hh : A.handled = none) (ls : List (Addr × List Value)) (items : Array Value) (hL : s.heap.IsList l items) (hit : items.toList = ls.map fun p => Value.ref p.1)
    (hl : ∀ p ∈ ls, ∃ c, IsL s.heap p.1 p.2.toArray c) (hst : IsL s.heap st acc.toArray c) (hz : acc.length + (flat ls).length ≤ sizeLine)
    (h : ∀ h' tk t' c', (∀ b o, s.heap.get? b = some o → h'.get? b = some o) → (ls = [] → t' = st) → (ls ≠ [] → s.heap.objs.size ≤ t') → IsL h' t' (acc ++ flat ls).toArray c' → Q (.ref t') { s with heap := h', toks := tk }) :
    wpAny (model prog w) A (call (.builtin "sum") [.ref l, .ref st]) Q E s := by
  refine call_function_tree F.kind_sum F.plain_sum F.entry_sum (args_sum2 _ _) ?_
  unfold Builtin.«sum»
  simp only [List.length_cons, List.length_nil]
  rw [if_neg (by decide)]
  refine wpAny_bind (wpAny_of_eq (show Builtin.Builtins.bindParams "sum" ["start"] 0 ⟨[.ref st], []⟩ = pure [some (.ref st)] from rfl) ?_)
  refine wpAny_bind (wpAny_pyIter_list hL ?_)
  refine wpAny_bind (wpAny_pure ?_)
  have oT : Shared.TypeIs { s with heap := s.heap.push { cls := .type "list_iterator", data := .fields #[.ref l, .int 0 0] } } (.ref st) "list" := ⟨_, hst.push _, rfl⟩
  simp only [List.forIn_cons, List.forIn_nil]
  refine wpAny_bind (wpAny_bind (wpAny_bind (wpAny_isInstance (T := "list") (b := false) oT F.sub_list_str ?_)))
  simp only [Bool.false_eq_true, if_false]
  refine wpAny_pure (wpAny_bind (wpAny_bind (wpAny_isInstance (T := "list") (b := false) oT F.sub_list_bytes ?_)))
  simp only [Bool.false_eq_true, if_false]
  refine wpAny_pure (wpAny_bind (wpAny_bind (wpAny_isInstance (T := "list") (b := false) oT F.sub_list_bytearray ?_)))
  simp only [Bool.false_eq_true, if_false]
  refine wpAny_pure (wpAny_pure ?_)
  refine wpAny_bind (wpAny_newObj_type ?_)
  generalize ho : ({ cls := .type "list_iterator", data := .fields #[.ref l, .int 0 0] } : Obj) = oi at oT ⊢
  have hz1 : (s.heap.push oi).objs.size = s.heap.objs.size + 1 := Heap.size_push ..
  have none_of : ∀ b, s.heap.objs.size ≤ b → s.heap.get? b = none := fun b hb => by
    cases q : s.heap.get? b with
    | none => rfl
    | some o => exact absurd (Nat.lt_of_lt_of_le (Heap.lt_size q) hb) (Nat.lt_irrefl _)
  have gi : (s.heap.push oi).get? s.heap.objs.size = some oi := Heap.get?_push_size _ (by rw [← ho] <;> rfl)
  have hlt : st < s.heap.objs.size := Heap.lt_size hst
  refine wpAny_pure ⟨plainId_quiet F.plain_sum_loop _, sum_loopL (show A.in1.handled = none by simpa using hh) s.heap.objs.size l (s.heap.push oi).objs.size s.heap ls (none_of _ (Nat.le_refl _)) (none_of _ (by rw [hz1]; exact Nat.le_succ _)) (let ⟨o, e, _⟩ := hL; ⟨o, e⟩) (by rw [hz1]; exact Nat.ne_of_lt (Nat.lt_succ_self _)) hl items hit
    ls.length 0 _ st acc c 0 rfl (Nat.zero_le _) ⟨oi, Heap.get?_push_of_some _ gi, by rw [← ho] <;> rfl, by rw [← ho] <;> rfl⟩ (let ⟨o, e, r⟩ := hL; ⟨o, Heap.get?_push_of_some _ (Heap.get?_push_of_some _ e), r⟩) (fun b o e => Heap.get?_push_of_some _ (Heap.get?_push_of_some _ e))
    (by rw [Heap.size_push, Heap.size_push]; omega) (Heap.get?_push_size _ rfl) ((hst.push _).push _) (Nat.ne_of_lt hlt) (by rw [hz1]; exact Nat.ne_of_lt (Nat.lt_succ_of_lt hlt)) (by rw [List.drop_zero]; exact hz) fun h' tk t' c' k1 k2 k3 k4 => ?_⟩
  rw [List.drop_zero] at k4
  exact h h' tk t' c' k1 (fun e => k2 (by rw [e] <;> rfl)) (fun e => k3 (List.length_pos_iff.mpr e)) k4
end
section
variable {X : Cx}
/-- sum(xss, ys) of a list of lists: ys itself where xss is empty, else a new list -/
def rSumL : List V → Hp → VK → Prop := fun vs H Q => ∃ (l st : Addr) (ls : List (Addr × List V)) (ys : List V), vs = [.ref l, .ref st] ∧ H l = some (.lst (ls.map fun p => V.ref p.1)) ∧ (∀ p ∈ ls, H p.1 = some (.lst p.2)) ∧ H st = some (.lst ys) ∧ ys.length + (ls.map (·.2)).flatten.length ≤ sizeLine ∧
  (ls = [] → Q (.ref st) H) ∧ ∀ p, H p = none → Q (.ref p) (upd H p (.lst (ys ++ (ls.map (·.2)).flatten)))
theorem raw_lists {pins : List (Addr × Obj)} {σ : L2.St} {H : Hp} {s : Shared} (I : Inv X pins σ H s) : ∀ ls : List (Addr × List V), (∀ p ∈ ls, H p.1 = some (.lst p.2)) →
    ∃ rs : List (Addr × List Value), rs.map (·.1) = ls.map (·.1) ∧ (∀ p ∈ rs, ∃ c, IsL s.heap p.1 p.2.toArray c) ∧ Vals (ls.map (·.2)).flatten (flat rs)
  | [], _ => ⟨[], rfl, fun _ h => absurd h (by simp), .nil⟩
  | p :: ls, h => by
    obtain ⟨rs, e1, e2, e3⟩ := raw_lists I ls fun q hq => h q (List.mem_cons_of_mem _ hq)
    obtain ⟨z, its, n, r, hl, e⟩ := I.lstM (h p List.mem_cons_self)
    refine ⟨(p.1, its) :: rs, by rw [List.map_cons, List.map_cons, e1], fun q hq => ?_, r.append e3⟩
    rcases List.mem_cons.mp hq with z | z
    · subst z
      exact ⟨n, e⟩
    · exact e2 q z
theorem cr_sumL (hc : X.calm = true) : CallR X (.builtin "sum") rSumL := by
  intro pins s σ H vs us Q I r h
  obtain ⟨l, st, ls, ys, rfl, hl, hls, hst, hz, q0, q⟩ := h
  cases r with
  | cons r1 rt =>
  cases rt with
  | cons r2 rt =>
  cases rt
  cases r1
  cases r2
  obtain ⟨rs, e1, e2, e3⟩ := raw_lists I ls hls
  obtain ⟨z, its, n, rv, hlen, e⟩ := I.lstM hl
  obtain ⟨z2, its2, n2, rv2, hlen2, eS⟩ := I.lstM hst
  have hits : its = rs.map fun p => Value.ref p.1 := by
    have a : Vals ((rs.map (·.1)).map V.ref) its := by
      rw [e1, List.map_map]
      exact rv
    have : ∀ (as : List Addr) (us : List Value), Vals (as.map V.ref) us → us = as.map Value.ref := by
      intro as
      induction as with
      | nil => intro us h; cases h; rfl
      | cons a as ih =>
        intro us h
        cases h with
        | cons r t =>
          cases r
          rw [ih _ t] <;> rfl
    rw [this _ _ a, List.map_map] <;> rfl
  have hf : (flat rs).length = (ls.map (·.2)).flatten.length := e3.length.symm
  refine call_sumLL (I.ok.hd hc) rs its.toArray (IsL.isList e) (by simpa using hits) e2 eS (by rw [← hlen2, hf]; exact hz) fun h' tk t' c' k1 k2 k3 k4 => ?_
  have J : Inv X pins σ H { s with heap := h', toks := tk } := I.kept (t' := tk) k1
  rcases Classical.em (ls = []) with z | z
  · have zr : rs = [] := by
      have := congrArg List.length e1
      rw [z] at this
      exact List.eq_nil_of_length_eq_zero (by simpa using this)
    rw [k2 zr]
    exact ⟨.ref st, H, J, rfl, q0 z⟩
  · have zr : rs ≠ [] := fun q => z (by
      have := congrArg List.length e1
      rw [q] at this
      exact List.eq_nil_of_length_eq_zero (by simpa using this.symm))
    have k5 := k3 zr
    refine ⟨.ref t', _, I.laid (t' := tk) (o := .lst (ys ++ (ls.map (·.2)).flatten)) k1 k5 ⟨by rw [List.length_append]; exact hz, _, c', rv2.append e3, k4⟩, rfl, q _ (I.hok.fresh k5)⟩
end
end Mv
/-! A tuple times one; a dict of pairs with tuple keys. -/
namespace Mv
open PySem PySem.Spec PyProof.Rows L2
theorem tuple_mul1 (l : Addr) (items : Array Value) (n : Nat) (dd : Option Addr) (sl : Array (Option Value)) (u : Tok) :
    Meets (Builtin.«tuple.__mul__» ⟨[.ref l, .int 1 u], []⟩) (fun _ R s => s.heap.get? l = some { cls := .type "tuple", dict := dd, data := .seq items n, slots := sl } ∧ R (.ok (.ret (Value.ref l))) { s with toks := s.toks }) :=
  .of_wp fun prog w A R s h => by
    obtain ⟨hp, g, d, tk, os⟩ := s
    obtain ⟨hl, h⟩ := h
    have f1 := AutoSeq1.idx_int
    have c0 : ¬ (decide ((1 : Int) < -(2 ^ 63)) || decide ((1 : Int) ≥ 2 ^ 63)) = true := by decide
    have c1 : (items.isEmpty || (1 : Int) == 1) = true := by simp
    wp_walk using AutoSeq1.wpAny_loadPart' hl
    repeat (first
      | (refine wpAny_ite_false (decide_eq_false c0) ?_; wp_walk using AutoSeq1.wpAny_loadPart' hl)
      | (refine wpAny_ite_true (decide_eq_true c1) ?_; wp_walk using AutoSeq1.wpAny_loadPart' hl))
    exact ⟨_, rfl, h⟩
/-- a tuple times a small count: the very tuple where it is 1 -/
def rRepU (K : PySem.W.Frag) : R2 := fun x y H Q => ∃ l k xs, x = .ref l ∧ y = .int k ∧ SqT K H l xs ∧ xs ≠ [] ∧ 1 ≤ k ∧ k ≤ 1000 ∧ xs.length ≤ 1000 ∧ (k = 1 → Q (.ref l) H) ∧ (k ≠ 1 → ∀ p, H p = none → Q (.ref p) (upd H p (.tup (List.replicate k.toNat xs).flatten)))
section
variable {X : Cx}
theorem op_repU : OpR X (binaryOp .Mult) (rRepU X.K) := by
  intro pins s σ H x y v u Q I rx ry h
  obtain ⟨l, k, xs, rfl, rfl, hT, hne, h1, h2, hz, q1, q2⟩ := h
  by_cases e : k = 1
  · subst e
    cases rx
    obtain ⟨t, rfl⟩ := ry
    obtain ⟨its, r, ⟨⟨cls, dd, data, sl⟩, ho, hc, n, hd⟩, hs⟩ := I.tuple hT
    simp only at hc hd
    subst hc hd
    refine wpAny_binaryOp_repeat_ref (T := "tuple") (U := "int") (by decide) ⟨_, ho, rfl⟩ (fun s' => typeIs_int s' 1 t) noFill_tuple_mul F.fills_int_mul F.slot_int_rmul repeat_tuple F.slot_int_index.lookup
      (call_meets F.slot_int_rmul (typeIs_int s 1 t) F.entry_int_rmul (F.args_int_rmul_2 _ _) (int_rmul_tuple 1 t l its.toArray n dd sl)
        ⟨ho, rfl, ⟨_, ho, rfl⟩, call_meets F.slot_tuple_mul ⟨_, ho, rfl⟩ F.entry_tuple_mul (F.args_tuple_mul_2 _ _) (tuple_mul1 l its.toArray n dd sl t) ⟨ho, ?_⟩⟩)
    exact ⟨.ref l, H, I, rfl, q1 rfl⟩
  · exact op_repT pins s σ H _ _ _ _ Q I rx ry ⟨l, k, xs, rfl, rfl, hT, hne, by omega, h2, hz, q2 e⟩

/-! ### dict(pairs), the keys tuples -/
theorem raw_pairs {pins : List (Addr × Obj)} {σ : L2.St} {H : Hp} {s : Shared} (I : Inv X pins σ H s) : ∀ ps : List (Addr × List Key × Addr × V), (∀ p ∈ ps, H p.1 = some (.tup [.ref p.2.2.1, p.2.2.2])) →
    ∃ rs : List (Addr × List Key × Addr × Value), rs.map (fun r => Value.ref r.1) = ps.map (fun p => Value.ref p.1) ∧ (∀ r ∈ rs, s.heap.IsTuple r.1 #[.ref r.2.2.1, r.2.2.2]) ∧
      Paired (fun (p : Addr × List Key × Addr × V) (r : Addr × List Key × Addr × Value) => p.1 = r.1 ∧ p.2.1 = r.2.1 ∧ p.2.2.1 = r.2.2.1 ∧ RelV p.2.2.2 r.2.2.2) ps rs
  | [], _ => ⟨[], rfl, fun _ h => absurd h (by simp), .nil⟩
  | p :: ps, h => by
    obtain ⟨rs, e1, e2, e3⟩ := raw_pairs I ps fun q hq => h q (List.mem_cons_of_mem _ hq)
    obtain ⟨its, rv, pl, _⟩ := I.tuple (xs := [.ref p.2.2.1, p.2.2.2]) (.inl (.inl (h p List.mem_cons_self)))
    cases rv with
    | cons r1 rt =>
    cases rt with
    | cons r2 rt =>
    cases rt
    cases r1
    rename_i u2
    refine ⟨(p.1, p.2.1, p.2.2.1, u2) :: rs, by rw [List.map_cons, List.map_cons, e1], fun q hq => ?_, .cons ⟨rfl, rfl, rfl, r2⟩ e3⟩
    rcases List.mem_cons.mp hq with z | z
    · subst z
      exact pl
    · exact e2 q z
def rDictPT : List V → Hp → VK → Prop := fun vs H Q => ∃ (l : Addr) (ps : List (Addr × List Key × Addr × V)), vs = [.ref l] ∧ H l = some (.lst (ps.map fun p => V.ref p.1)) ∧ (∀ p ∈ ps, H p.1 = some (.tup [.ref p.2.2.1, p.2.2.2])) ∧ (∀ p ∈ ps, H p.2.2.1 = some (.tup (p.2.1.map kV))) ∧
  ∀ d, H d = none → Q (.ref d) (upd H d (.dT (ps.foldl (fun acc p => putK acc p.2.1 p.2.2.2) [])))
theorem kt_fold {H : Hp} : ∀ {ps : List (Addr × List Key × Addr × V)} {rs : List (Addr × List Key × Addr × Value)} {kvs : List (List Key × V)} {xs : List (List Key × Addr × Value)},
    Paired (fun (p : Addr × List Key × Addr × V) (r : Addr × List Key × Addr × Value) => p.1 = r.1 ∧ p.2.1 = r.2.1 ∧ p.2.2.1 = r.2.2.1 ∧ RelV p.2.2.2 r.2.2.2) ps rs → (∀ p ∈ ps, H p.2.2.1 = some (.tup (p.2.1.map kV))) → KT H kvs xs →
    KT H (ps.foldl (fun acc p => putK acc p.2.1 p.2.2.2) kvs) (storedAllH xs (rs.map fun r => r.2))
  | _, _, _, _, .nil, _, r => r
  | _, _, _, _, .cons (a := p) (b := q) (l₁ := ps) (l₂ := rs) h t, hk, r => by
    obtain ⟨h1, h2, h3, h4⟩ := h
    have z := KT.put r p.2.1 (hk p List.mem_cons_self) h4
    rw [h2, h3] at z
    have w := kt_fold t (fun x hx => hk x (List.mem_cons_of_mem _ hx)) z
    show KT H (ps.foldl _ (putK _ p.2.1 p.2.2.2)) (storedAllH (storedH _ q.2.1 q.2.2.1 q.2.2.2) (rs.map fun r => r.2))
    rw [h2]
    exact w
theorem paired_at {α β : Type} {F : α → β → Prop} : ∀ {xs : List α} {ys : List β}, Paired F xs ys → ∀ (i : Nat) (y : β), ys[i]? = some y → ∃ x, xs[i]? = some x ∧ F x y
  | _, _, .nil, i, y, h => by simp at h
  | _, _, .cons (a := a) h t, 0, y, e => by
    cases (Option.some.inj (show some _ = some y from e))
    exact ⟨a, rfl, h⟩
  | _, _, .cons h t, i + 1, y, e => paired_at t i y e
theorem cr_dictPT (hc : X.calm = true) (hu : X.A.units + 64 < cLine) : CallR X (.type "dict") rDictPT := by
  intro pins s σ H vs us Q I r h
  obtain ⟨l, ps, rfl, hl, hp, hk, q⟩ := h
  rw [Vals.ref1 r]
  obtain ⟨rs, e1, e2, e3⟩ := raw_pairs I ps hp
  obtain ⟨z, its, n, rv, hlen, e⟩ := I.lstM hl
  have refs : ∀ (as : List Addr) (us : List Value), Vals (as.map V.ref) us → us = as.map Value.ref := by
    intro as
    induction as with
    | nil => intro us h; cases h; rfl
    | cons a as ih =>
      intro us h
      cases h with
      | cons r t =>
        cases r
        rw [ih _ t] <;> rfl
  have hits : its = rs.map fun p => Value.ref p.1 := by
    rw [e1]
    have := refs (ps.map (·.1)) its (by rw [List.map_map]; exact rv)
    rw [this, List.map_map] <;> rfl
  have hpl : ps.length = rs.length := Paired.length e3
  have key : ∀ r ∈ rs, H r.2.2.1 = some (.tup (r.2.1.map kV)) := by
    intro r hr
    obtain ⟨i, hi, ei⟩ := List.mem_iff_getElem.mp hr
    obtain ⟨p, hpi, h1, h2, h3, h4⟩ := paired_at e3 i r (by rw [List.getElem?_eq_getElem hi, ei])
    rw [← h3, ← h2]
    exact hk p (List.mem_of_getElem? hpi)
  have hraw : (rs.map fun r => (Value.ref r.2.2.1, r.2.2.2)).length = rs.length := List.length_map _
  have zlen : rs.length ≤ sizeLine := by
    rw [List.length_map] at z
    omega
  refine call_dict_pairsH (knd := tupleKind (mixKind X.prog X.w)) (ps := rs.map fun r => r.2) (PairArg.list l its.toArray (fun j => (rs.getD j default).1) (rs.map fun r => (Value.ref r.2.2.1, r.2.2.2))) (I.ok.hd hc) (show X.A.units + 2 < cLine by omega) ⟨⟨_, n, e, rfl, rfl, rfl⟩, ?_, ?_⟩ ⟨by rw [List.length_map, List.length_map], ?_⟩ ?_ (by rw [hraw]; exact zlen) fun h' tk hd' hk' => ?_
  · rw [hits, List.size_toArray, List.length_map, List.length_map]
  · intro j k v hj
    rw [List.getElem?_map] at hj
    obtain ⟨r, hr, er⟩ := Option.map_eq_some_iff.mp hj
    have ed : rs.getD j default = r := by rw [List.getD_eq_getElem?_getD, hr] <;> rfl
    cases er
    show its.toArray[j]? = some (Value.ref (rs.getD j default).1) ∧ PairAt s.heap (rs.getD j default).1 _ _
    rw [ed]
    refine ⟨?_, .inl (e2 r (List.mem_of_getElem? hr))⟩
    rw [hits, List.getElem?_toArray, List.getElem?_map, hr] <;> rfl
  · intro i kk v hi
    have hi : (rs.map fun r => (Value.ref r.2.2.1, r.2.2.2))[i]? = some (kk, v) := hi
    rw [List.getElem?_map] at hi
    obtain ⟨r, hr, er⟩ := Option.map_eq_some_iff.mp hi
    cases er
    exact ⟨r.2.1, r.2.2.1, by rw [List.getElem?_map, hr] <;> rfl, rfl⟩
  · intro h' hk' x hx
    obtain ⟨r, hr, rfl⟩ := List.mem_map.mp hx
    have hkey := key_of I.hok (key r hr)
    refine tupleKind_stays.stays (fun b o vs n hb hd => hk' b o (Nat.ne_of_lt (Heap.lt_size hb)) (by simp) hb) hkey
  · have rel : KT H (ps.foldl (fun acc p => putK acc p.2.1 p.2.2.2) []) (storedAllH [] (rs.map fun r => r.2)) := kt_fold e3 hk .nil
    have keep : ∀ b o, s.heap.get? b = some o → h'.get? b = some o := fun b o e => hk' b o (by simp) e
    have hn : H s.heap.objs.size = none := I.hok.fresh (Nat.le_refl _)
    have hl2 : (ps.foldl (fun acc p => putK acc p.2.1 p.2.2.2) ([] : List (List Key × V))).length ≤ sizeLine := by
      have a := Paired.length rel
      have b := storedAllH_length (rs.map fun r => r.2) ([] : List (List Key × Addr × Value))
      rw [List.length_map, List.length_nil] at b
      omega
    obtain ⟨o, es, ep, ho, h2, h3, h4, _, h5⟩ := hd'
    refine ⟨.ref s.heap.objs.size, _, I.laid (t' := tk) (o := .dT (ps.foldl (fun acc p => putK acc p.2.1 p.2.2.2) [])) keep (Nat.le_refl _) ⟨hl2, beq_eq_false_iff_ne.mpr (Ne.symm (Nat.ne_of_lt I.big)), _, rel.keeps fun c ys ec => ?_, o, es, ep, ho, h2, h3, h4, h5⟩, rfl, q _ hn⟩
    exact (upd_ne (fun z => by rw [z, hn] at ec; cases ec)).trans ec
end
end Mv
/-! Defs of which one knows that nothing is being written out when they are called. -/
namespace Mv
open PySem PySem.Spec PyProof.Rows L2
structure FnG (P : Program) (w : World) (K : PySem.W.Frag) (mg : Str → Option Value) (base : Heap) (CX : CXT) (k : Nat) (f : Addr) (fd : FuncData) (ps : List Str) (sp : Sp) : Prop where
  len : ∀ vs H Q E, sp vs H Q E → vs.length = ps.length
  run : ∀ (A : Around) (outer : List Env) (s : Shared) (H : Hp) (args : Args) (us : List Value) (vs : List V) (Q : VK) (E : XK), A.guards = some [] → Room k A → Env0 P w K mg base A outer s H → BindsTo s fd args (ps.zip us) → Vals vs us → sp vs H Q E →
    codeAny (model P w) A (.call (.ref f) args) (CR CX outer P w H s Q E) s
theorem fn_ofG {CX : CXT} {P : Program} {w : World} {K : PySem.W.Frag} {mg : Str → Option Value} {base : Heap} {k : Nat} {f : Addr} {name qual : Str} {params : Arguments} {body : List Stmt} {scope : Scope} {dV kV doc pm cdv ct oc : Value} {an od : Option Addr}
    {osl : Array (Option Value)} {N ps : List Str} {sp : Sp} (lk : K.lookup f = some ⟨oc, od, .func (PySem.W.fnOf name qual params body scope dV kV doc pm an cdv ct), osl⟩) (hcd : PySem.W.codeIn K cdv qual = true) (S : FnScope N ps scope)
    (len : ∀ vs H Q E, sp vs H Q E → vs.length = ps.length)
    (hbody : ∀ (A : Around) (outer : List Env) (s : Shared) (H : Hp) (vs : List V) (Q : VK) (E : XK), A.guards = some [] → Room k (A.deeper (envOfC qual scope s.heap.objs.size f cdv)) → sp vs H Q E →
      ∃ t, PSs (cxOf CX P w K mg base N qual scope f cdv A outer s H E) body t ∧ t { nx := fun _ H' => Q .non H', rt := Q } (start N vs) H) :
    FnG P w K mg base CX (k + 1) f (PySem.W.fnOf name qual params body scope dV kV doc pm an cdv ct) ps sp := by
  refine ⟨len, fun A outer s H args us vs Q E hgd hr e0 hb r hsp => ?_⟩
  have hl := len _ _ _ _ hsp
  have KX : K.In s.heap := e0.mod.kin.keeps fun b o e => (e0.bs b o e).1
  have lim : s.heap.NoLimit := e0.mod.nolimit.keeps fun b o e => (e0.bs b o e).1
  have hkind : ∀ y ∈ ps.zip us, scope.names.lookup y.1 = some .local ∨ (scope.names.lookup y.1 = some .cell ∧ ((cellsFrom (s.heap.objs.size + 1) scope.names []).lookup y.1).isSome = true) := fun ⟨n, v⟩ hy => by
    rcases S.par n (List.of_mem_zip hy).1 with q | q
    · exact .inl q
    · exact .inr ⟨q, PySem.W.cellsFrom_some _ _ _ (.inl q)⟩
  refine codeAny_call_function hr.depth (KX _ _ lk) rfl S.co S.gen rfl (PySem.W.codeRec_of KX hcd) (hb _ _ _ _ ?_)
  refine wpAny_newFunctionEnv_cells S.kind hkind fun env he s1 x => ?_
  subst he
  refine ⟨lim.keeps x.toInCall.keep, codeAny_func ?_⟩
  obtain ⟨t, ht, hq⟩ := hbody A outer s H vs Q E hgd (hr.deeper _) hsp
  have I : Inv (cxOf CX P w K mg base N qual scope f cdv A outer s H E) [] (start N vs) H s1 := inv_start S hr.hd e0 hl r x
  refine wpAny_mono (ht.run [] s1 (start N vs) H _ I hq) (fun fl s' hs => ?_) fun e s' hs => hs
  have fin : ∀ {σ' : L2.St} {H' : Hp} {v : V} {u : Value}, Inv (cxOf CX P w K mg base N qual scope f cdv A outer s H E) [] σ' H' s' → RelV v u → Q v H' → CE outer P w H s Q u s' :=
    fun {σ' H' v u} J rv q => ⟨v, H', J.os, J.bare, J.base, J.hok, rv, q⟩
  cases fl with
  | ret u =>
    obtain ⟨v, σ', H', J, rv, q⟩ := hs
    exact fin J rv q
  | next =>
    obtain ⟨σ', H', J, q⟩ := hs
    exact fin (v := V.non) (u := Value.none) J rfl q
  | brk =>
    obtain ⟨_, _, _, q⟩ := hs
    exact False.elim q
  | cont =>
    obtain ⟨_, _, _, q⟩ := hs
    exact False.elim q

section
variable {X : Cx} {CX : CXT} {k : Nat} {f C : Addr} {fd : FuncData} {ps : List Str} {sp : Sp} {dvs : List V} {ds : List Value} {E : XK} {x m : Str} {p pos apos : Pos} {e o : Expr} {es : List Expr} {ta : TE} {t : TA}
theorem run_fnG {pins : List (Addr × Obj)} {σ : L2.St} {H : Hp} {s : Shared} {Q : VK} {us : List Value} {vs : List V} (F : FnG X.prog X.w X.K X.mg X.base CX k f fd ps sp) (hgd : X.A.guards = some []) (hr : Room k X.A) (hb : Binds X.K fd ps ds) (hd : Vals dvs ds) (hx : Passes CX X E)
    (I : Inv X pins σ H s) (r : Vals vs us) (h : sp (vs ++ dvs) H Q E) : wpAny (model X.prog X.w) X.A (call (.ref f) us) (EP X pins σ Q) X.xe s := by
  have r2 : Vals (vs ++ dvs) (us ++ ds) := r.append hd
  have hl : (us ++ ds).length = ps.length := by rw [← r2.length]; exact F.len _ _ _ _ h
  refine wpAny_call (codeAny_mono (F.run X.A X.stack s H ⟨us, []⟩ (us ++ ds) (vs ++ dvs) Q E hgd hr I.env0 (hb s us I.kIn hl) r2 h) fun r s' hq => ?_)
  cases r with
  | error e => exact hx pins σ H s e s' I hq
  | ok fl =>
    cases fl with
    | ret u => exact I.after hq
    | next => exact False.elim hq
    | brk => exact False.elim hq
    | cont => exact False.elim hq
theorem pe_callG (F : FnG X.prog X.w X.K X.mg X.base CX k f fd ps sp) (hgd : X.A.guards = some []) (hr : Room k X.A) (hg : Gl X x) (hm : X.mg x = some (.ref f)) (hk : PySem.W.keepIn X.K (.ref f) = true) (hb : Binds X.K fd ps ds) (hd : Vals dvs ds) (hx : Passes CX X E)
    (ha : PA X (e :: es) t) (hdb : (x == ("__debug__" : Str)) = false := by decide) (he : starEach (e :: es) X.env = (false, eval e X.env) :: starEach es X.env := by rfl) (hpl : (backTo pos (starEach es X.env)).any (·.1) = false := by rfl) :
    PE X (.Call (.Name x p) (e :: es) [] pos) (tCall sp dvs E t) := by
  refine ⟨fun pins s σ H Q I h => ?_⟩
  refine wpAny_Call_Name_kw (ld_glob I hg hm ?_ hdb)
  refine PySem.W.callWith_K (h₀ := X.base) I.ok.mod.kin hk (thn (ha.run pos pins s σ H _ I h) fun us s1 ⟨vs, H1, I1, r, q⟩ => ⟨I1.kIn, ?_⟩) he hpl
  exact run_fnG F hgd hr hb hd hx I1 r q
end
theorem law_callG {P : Program} {w : World} {K : PySem.W.Frag} {mg mb : Str → Option Value} {CX : CXT} {k : Nat} {fa a : Addr} {fd : FuncData} {x : Str} {sp : Sp} {s₁ : Shared} {vs : List Value} {ns : List Int}
    (KX : K.In s₁.heap) (hns : s₁.heap.Ns mainGlobals mg) (hb : s₁.heap.Ns builtinsNs mb) (hbb : ∀ x : Str, x ≠ "__name__" → mb x = bootBuiltins x) (hlim : s₁.heap.NoLimit) (hg : s₁.gens = #[])
    (ha : s₁.heap.get? a = some { cls := .type "list", data := .seq vs.toArray }) (hi : IntsAre vs ns) (hl : ns.length ≤ sizeLine) (hr : Room k callerA)
    (F : ∀ base : Heap, K.In base → base.Ns mainGlobals mg → FnG P w K mg base CX k fa fd [x] sp) (hbind : ∀ (s : Shared) (u : Value), BindsTo s fd ⟨[u], []⟩ [(x, u)])
    (hsp : ∀ H : Hp, Only H → SqL K H a (ns.map V.int) → sp [.ref a] H (fun v _ => v = .bl true) fun _ _ _ => False)
    (hCX : ∀ H e s', CX [] H s₁ (fun _ _ _ => False) e s' → False) :
    codeAny (model P w) callerA (.call (.ref fa) ⟨[.ref a], []⟩) (fun r s' => r = .ok (.ret (.bool true)) ∧ OldK s₁.heap s'.heap ∧ s'.os = s₁.os ∧ AllBare s'.gens) s₁ := by
  have rv := vals_ints hi
  have lenV := hi.length
  have core : ∀ H : Hp, Only H → SqL K H a (ns.map V.int) → HOk P w H s₁.heap → (∀ b, H b ≠ none → b = a) → (H a ≠ none → K.lookup a = none) →
      codeAny (model P w) callerA (.call (.ref fa) ⟨[.ref a], []⟩) (fun r s' => r = .ok (.ret (.bool true)) ∧ OldK s₁.heap s'.heap ∧ s'.os = s₁.os ∧ AllBare s'.gens) s₁ := by
    intro H hO hS hok hA hK
    have base_of : ∀ {b : Addr} {o : Obj}, s₁.heap.get? b = some o → H b = none → (hidT s₁.heap H).get? b = some o := fun e n => hidT_get e n
    have noA : ∀ {b : Addr} {o : Obj} {es : Array DictEntry} {ep : Nat}, s₁.heap.get? b = some o → o.data = .dict es ep → H b = none := fun {b o es ep} e d => by
      cases q : H b with
      | none => rfl
      | some u =>
        have e' : b = a := hA b (by rw [q]; simp)
        subst e'
        rw [ha] at e; cases e
        have d' : Data.seq vs.toArray _ = Data.dict es ep := d
        cases d'
    have nsK : ∀ {b : Addr} {m : Str → Option Value}, s₁.heap.Ns b m → (hidT s₁.heap H).Ns b m := fun {b m} ⟨o, es, ep, e, d, r⟩ => ⟨o, es, ep, base_of e (noA e d), d, r⟩
    have hKb : K.In (hidT s₁.heap H) := fun b o e => base_of (KX b o e) (by
      cases q : H b with
      | none => rfl
      | some u =>
        have e' : b = a := hA b (by rw [q]; simp)
        subst e'
        rw [hK (by rw [q]; simp)] at e; cases e)
    have hM : Mod K mg (hidT s₁.heap H) := ⟨hKb, nsK hns, ⟨mb, nsK hb, hbb⟩, let ⟨mc, h1, h2⟩ := hlim; ⟨mc, nsK h1, h2⟩⟩
    have e0 : Env0 P w K mg (hidT s₁.heap H) callerA [] s₁ H := ⟨rfl, hM, fun b o e => of_hidT e, Nat.le_of_eq (hidT_size _ _), trivial, fun b hb => absurd (show b ∈ ([] : List Addr) from hb) (by simp), hok, .of_eq hg⟩
    refine codeAny_mono ((F _ hKb (nsK hns)).run callerA [] s₁ H ⟨[.ref a], []⟩ [.ref a] [.ref a] _ _ rfl hr e0 (hbind s₁ (.ref a)) (.cons rfl .nil) (hsp H hO hS)) fun r s' h => ?_
    cases r with
    | error e => exact (hCX H e s' h).elim
    | ok fl =>
      cases fl with
      | next => exact False.elim h
      | brk => exact False.elim h
      | cont => exact False.elim h
      | ret u =>
        obtain ⟨v, H', os, bare, un, hok', r', q⟩ := h
        have q' : v = .bl true := q
        subst q'
        obtain rfl : u = Value.bool true := r'
        refine ⟨rfl, OldK.of_keep fun b o e => ?_, os, bare⟩
        cases q : H b with
        | none => exact un.keep b o e q (by intro z; exact absurd (show b ∈ ([] : List Addr) from z) (by simp)) (by simp)
        | some u =>
          rcases hO b with z | ⟨ob, xs, z⟩
          · rw [q] at z; cases z
          · have z2 := un.frzs b ob _ z
            obtain ⟨e1, _⟩ := hok b _ z
            obtain ⟨e2, _⟩ := hok' b _ z2
            rw [e] at e1; cases e1
            exact e2
  cases hk : K.lookup a with
  | some o =>
    have e := KX a o hk
    rw [ha] at e
    cases e
    refine core (fun _ => none) (fun _ => .inl rfl) (.inr ⟨_, vs.toArray, _, hk, rfl, rfl, rfl, by rw [List.size_toArray, lenV]; exact hl, by simpa using rv⟩) (fun b u z => by have z' : (none : Option HO) = some u := z; cases z') (fun b z => absurd rfl z) fun z => absurd rfl z
  | none =>
    refine core (fun b => if b = a then some (.frz { cls := .type "list", data := .seq vs.toArray } (.lst (ns.map V.int))) else none) (fun b => ?_) (.inl (.inr ⟨{ cls := .type "list", data := .seq vs.toArray }, if_pos rfl⟩)) (fun b u z => ?_) (fun b z => ?_) fun _ => hk
    · by_cases hb : b = a
      · exact .inr ⟨_, _, if_pos hb⟩
      · exact .inl (if_neg hb)
    · by_cases hb : b = a
      · have z' := (if_pos hb).symm.trans z
        cases z'
        subst hb
        exact ⟨ha, by rw [List.length_map]; exact hl, vs, _, rv, ha⟩
      · have z' := (if_neg hb).symm.trans z
        cases z'
    · by_cases hb : b = a
      · exact hb
      · exact absurd (if_neg hb) z

theorem walk_ofG {l : PySem.W.OpenLaw} {n k : Nat} {q : Program} {loose : List Str} {XP : (Str → Option Value) → Heap → Prop} {YP : World → Heap → Prop} {d : DefRec} {K : Params → PySem.W.Frag} {CX : World → CXT} {sp : World → Sp} {x : Str}
    (hn : l.most = some n) (hn2 : n ≤ sizeLine) (hdf : d.params.defaults = []) (hr : Room k callerA)
    (hY : ∀ (w : World) (h : Heap), YP w h → (K w.params).In h)
    (F : ∀ (w : World) (mg : Str → Option Value) (fa : Addr) (h : Heap), (K w.params).In h → h.Ns mainGlobals mg → mg d.name = some (.ref fa) →
      ∃ fd : FuncData, (∀ (s : Shared) (u : Value), BindsTo s fd ⟨[u], []⟩ [(x, u)]) ∧
        ∀ base : Heap, (K w.params).In base → base.Ns mainGlobals mg → FnG l.prog w (K w.params) mg base (CX w) k fa fd [x] (sp w))
    (hsp : ∀ (w : World) (H : Hp) (a : Addr) (ns : List Int), ns.length ≤ n → Only H → SqL (K w.params) H a (ns.map V.int) → sp w [.ref a] H (fun v _ => v = .bl true) fun _ _ _ => False)
    (hCX : ∀ (w : World) (H : Hp) (s : Shared) (e : Value) (s' : Shared), CX w [] H s (fun _ _ _ => False) e s' → False) :
    PySem.W.WalkO q loose XP YP l.row.toRowW d [] (fun f vs => PySem.call f vs) := by
  refine Att.attach_call hn hdf fun w s₀ s₁ mg mb fa o pm cd doc a vs ns G Y ho hd hcd hmg hobj hints hlen hg => ?_
  have KX := hY w _ Y
  obtain ⟨fd, hb, hF⟩ := F w mg fa _ KX G.T.g hmg
  exact law_callG KX G.T.g G.T.b G.T.builtins G.T.nolimit hg hobj hints (Nat.le_trans hlen hn2) hr hF hb (fun H hO hS => hsp w H a ns hlen hO hS) fun H e s' => hCX w H s₁ e s'

end Mv
/-! Either of list and tuple; what is not reached. -/
namespace Mv
open PySem PySem.Spec PyProof.Rows L2
section
variable {X : Cx}
def iEnumS (K : PySem.W.Frag) (ta : TA) : TI := fun σ H R => iEnum K ta σ H R ∨ iEnumU K ta σ H R
theorem pi_enumS {e : Expr} {ta : TA} {p pos tpos : Pos} {elts : List Expr} {kk : Nat} (hg : Gl X "enumerate") (hm : X.mg "enumerate" = none) (ha : PA X [e] ta) (hs : starEach [e] X.env = [(false, eval e X.env)] := by rfl) :
    PI X (.Tuple elts kk tpos) (.Call (.Name "enumerate" p) [e] [] pos) (iEnumS X.K ta) := pi_either (pi_enum hg hm ha hs) (pi_enumU hg hm ha hs)
def rSetS (K : PySem.W.Frag) (P : Program) (w : World) : List V → Hp → VK → Prop := fun xs H Q => rSetOfT K P w xs H Q ∨ rSetOfTU K P w xs H Q
theorem cr_setS (hc : X.calm = true) (hu : X.A.units + 64 < cLine) : CallR X (.type "set") (rSetS X.K X.prog X.w) := (cr_setOfT hc hu).or (cr_setOfTU hc hu)
def rSortS (K : PySem.W.Frag) (d : Nat) (B : Int) : List V → Hp → VK → Prop := fun xs H Q => rSortU K d B xs H Q ∨ rSortUU K d B xs H Q
theorem cr_sortS {d : Nat} {B : Int} (hd : 1 ≤ d) : CallR X (.builtin "sorted") (rSortS X.K d B) := (cr_sortT hd).or (cr_sortTU hd)
theorem pe_bm0K {K : PySem.W.Frag} (hK : X.K = K) {T id : String} {name : Str} {r : V → List V → Hp → VK → Prop} {o : Expr} {to : TE} {apos cpos : Pos} (pa : PlainAttrs T) (slot : Slot T name id) (hty : typeOf (.builtin id) = pure (.type "method_descriptor")) (hm : MtR X id r) (ho : PE X o to)
    (hbase : attributeBase o name X.env (eval o X.env) = eval o X.env := by rfl) (hline : (apos.endLine == cpos.line) = true := by rfl) : PE X (.Call (.Attribute o name apos) [] [] cpos) (tBM0 K T r to) := by
  subst hK
  exact pe_bm0 pa slot hty hm ho hbase hline
theorem pi_seqK {K : PySem.W.Frag} (hK : X.K = K) {tg l : Expr} {tl : TE} (h : PE X l tl) : PI X tg l (iSeq K tl) := by
  subst hK
  exact pi_seq h
def rTupOf (K : PySem.W.Frag) : List V → Hp → VK → Prop := fun xs H Q => ∃ p ys, xs = [.ref p] ∧ ((SqL K H p ys ∧ ∀ l, H l = none → Q (.ref l) (upd H l (.tup ys))) ∨ (SqT K H p ys ∧ Q (.ref p) H))
theorem ps_dead {st : Stmt} : PS X st (fun _ _ _ => False) := ⟨fun _ _ _ _ _ _ h => h.elim⟩
section
variable {CX : CXT} {k : Nat} {f : Addr} {fd : FuncData} {sp : Sp} {E : XK} {x y : Str} {p pos kpos : Pos} {e : Expr} {te : TE}
/-- f(y = e), the one parameter by its name -/
theorem pe_callK1 (F : FnOk X.prog X.w X.K X.mg X.base CX k f fd [y] sp) (hr : Room k X.A) (hg : Gl X x) (hm : X.mg x = some (.ref f)) (hk : PySem.W.keepIn X.K (.ref f) = true) (hb : ∀ (s : Shared) (u : Value), BindsTo s fd ⟨[], [(y, u)]⟩ [(y, u)]) (hx : Passes CX X E)
    (he : PE X e te) (hdb : (x == ("__debug__" : Str)) = false := by decide) :
    PE X (.Call (.Name x p) [] [⟨some y, e, kpos⟩] pos) (fun σ H Q => te σ H fun v H1 => sp [v] H1 Q E) := by
  refine ⟨fun pins s σ H Q I h => ?_⟩
  refine wpAny_Call_Name_kw (ld_glob I hg hm ?_ hdb)
  refine PySem.W.callWith_KW0 (h₀ := X.base) I.ok.mod.kin hk (by rfl) (thn ((pk_cons (nm := some y) (kpos := kpos) he pk_nil).run pos pins s σ H (fun zs H2 => ∃ v, zs = [v] ∧ sp [v] H2 Q E) I ?_) fun ws s2 ⟨zs, H2, I2, rz, v, ez, q2⟩ => ⟨I2.kIn, ?_⟩)
  · show te σ H _
    have : (fun v H1 => sp [v] H1 Q E) = (fun x H1 => tNil σ H1 fun xs H2 => ∃ v, x :: xs = [v] ∧ sp [v] H2 Q E) := by
      funext v H1
      exact propext ⟨fun h => ⟨v, rfl, h⟩, fun ⟨w, e, h⟩ => by cases e; exact h⟩
    rw [this] at h
    exact h
  · subst ez
    cases rz with
    | cons r1 rt =>
      cases rt
      rename_i w _
      show wpAny _ _ (call (.ref f) [] [(y, w)]) _ _ s2
      refine wpAny_call (codeAny_mono (F.run X.A X.stack s2 H2 ⟨[], [(y, w)]⟩ [w] [v] Q E hr I2.env0 (hb s2 w) (.cons r1 .nil) q2) fun r s' hq => ?_)
      cases r with
      | error e => exact hx pins σ H2 s2 e s' I2 hq
      | ok fl =>
        cases fl with
        | ret u => exact I2.after hq
        | next => exact False.elim hq
        | brk => exact False.elim hq
        | cont => exact False.elim hq
end
end
end Mv
/-! The text by places. -/
namespace Mv
open PySem PySem.Spec PyProof.Rows L2
theorem hu65_of {A : Around} {k : Nat} (hr : Room k A) : A.units + 65 < cLine := by have := hr.un; omega
theorem pi_listK {X : Cx} {K : PySem.W.Frag} (hK : X.K = K) {tg l : Expr} {tl : TE} (h : PE X l tl) : PI X tg l (iList K tl) := by
  subst hK
  exact pi_list h
theorem pe_bmK {X : Cx} {K : PySem.W.Frag} (hK : X.K = K) {T id : String} {name : Str} {r : V → List V → Hp → VK → Prop} {o e : Expr} {es : List Expr} {to : TE} {t : TA} {apos cpos : Pos} (pa : PlainAttrs T) (slot : Slot T name id) (hty : typeOf (.builtin id) = pure (.type "method_descriptor")) (hm : MtR X id r) (ho : PE X o to) (ha : PA X (e :: es) t)
    (hbase : attributeBase o name X.env (eval o X.env) = eval o X.env := by rfl)
    (hfew : ((backTo cpos (starEach (e :: es) X.env)).all (fun x => !x.1) && (backToKw cpos (keywordEach [] X.env)).all (fun x => x.1.isSome)
      && decide ((e :: es).length + ([] : List Keyword).length + (if ([] : List Keyword).isEmpty then 0 else 1) < 30)) = true := by rfl)
    (hline : (apos.endLine == cpos.line) = true := by rfl) (hs : starEach (e :: es) X.env = (false, eval e X.env) :: starEach es X.env := by rfl) (hplain : (backTo cpos (starEach es X.env)).any (·.1) = false := by rfl) :
    PE X (.Call (.Attribute o name apos) (e :: es) [] cpos) (tBM K T r to t) := by
  subst hK
  exact pe_bm pa slot hty hm ho ha hbase hfew hline hs hplain
section
variable {X : Cx} {CX : CXT} {k : Nat} {f : Addr} {fd : FuncData} {ps ks : List Str} {sp : Sp} {E : XK} {x : Str} {p pos : Pos} {kws : List Keyword} {tk : TA} {g : List Value → List Value → List Value} {gV : List V → List V → List V}
/-- f(k = v, ..), no value without a name -/
theorem pe_callK0 (F : FnOk X.prog X.w X.K X.mg X.base CX k f fd ps sp) (hr : Room k X.A) (hg : Gl X x) (hm : X.mg x = some (.ref f)) (hk : PySem.W.keepIn X.K (.ref f) = true) (hb : KBn X.K fd ps 0 ks g gV) (hx : Passes CX X E) (hkw : PK X kws tk)
    (hall : (backToKw pos (keywordEach kws X.env)).all (·.1.isSome) = true := by rfl) (hks : (backToKw pos (keywordEach kws X.env)).filterMap (·.1) = ks := by rfl) (hdb : (x == ("__debug__" : Str)) = false := by decide)
    (hpl : ((backTo pos (starEach [] X.env)).any (·.1) || (backToKw pos (keywordEach kws X.env)).any (·.1.isNone)) = false := by rfl) :
    PE X (.Call (.Name x p) [] kws pos) (tCallN 0 ks.length sp gV E tNil tk) := by
  refine ⟨fun pins s σ H Q I h => ?_⟩
  refine wpAny_Call_Name_kw (ld_glob I hg hm ?_ hdb)
  refine PySem.W.callWith_KW0 (h₀ := X.base) I.ok.mod.kin hk hall ?_ hpl
  refine thn (hkw.run pos pins s σ H _ I h) fun ws s2 ⟨zs, H2, I2, rz, l1, l2, q2⟩ => ⟨I2.kIn, ?_⟩
  rw [hks]
  exact run_fnN (us := []) (vs := []) F hr hb hx I2 .nil rz rfl l2 q2
end
abbrev KRev (K : PySem.W.Frag) (fd : FuncData) (ps : List Str) : Prop := KBn K fd ps 0 ps.reverse (fun _ ws => ws.reverse) (fun _ zs => zs.reverse)
theorem vals_rev {vs : List V} {us : List Value} (h : Vals vs us) : Vals vs.reverse us.reverse := by
  induction h with
  | nil => exact .nil
  | cons h1 h2 ih =>
    rw [List.reverse_cons, List.reverse_cons]
    exact ih.append (.cons h1 .nil)
def top (i : Nat) : Stmt := PySem.Challenge.pw_orderwide_k46_moves_planned_and_rows_tha.main.body.getD i (.Pass ⟨0, 0, 0, 0⟩)
abbrev s_is_integer : Stmt := top 9
abbrev s_is_list : Stmt := top 10
abbrev s_is_row : Stmt := top 11
abbrev s_is_any_row : Stmt := top 16
abbrev s_are_rows : Stmt := top 17
abbrev s_need_rows : Stmt := top 18
abbrev s_need_pair : Stmt := top 19
abbrev s_places_of : Stmt := top 20
abbrev s_piles_of : Stmt := top 21
abbrev s_longest_of : Stmt := top 22
abbrev s_stays : Stmt := top 23
abbrev s_falls : Stmt := top 24
abbrev s_rises_in : Stmt := top 25
abbrev s_check_papers : Stmt := top 26
abbrev s_plan_moves : Stmt := top 27
abbrev s_fewest_moves : Stmt := top 28
abbrev s_is_move : Stmt := top 29
abbrev s_are_moves : Stmt := top 30
abbrev s_moved : Stmt := top 31
abbrev s_need_moves : Stmt := top 32
abbrev s_walk_moves : Stmt := top 33
abbrev s_apply_moves : Stmt := top 34
abbrev s_check_moves : Stmt := top 35
abbrev s__law_cell : Stmt := top 37
abbrev s__law_box : Stmt := top 38
abbrev s__law_take : Stmt := top 39
abbrev s__law_mixed : Stmt := top 40
abbrev s__law_rows : Stmt := top 41
abbrev s__law_other : Stmt := top 42
abbrev s__law_longest : Stmt := top 43
abbrev s__law_done : Stmt := top 44
abbrev s__law_led : Stmt := top 45
abbrev s__law_within : Stmt := top 46
abbrev s__law_stay : Stmt := top 47
abbrev s__law_own_moves : Stmt := top 48
abbrev s__law_tuples_right : Stmt := top 49
abbrev s__law_right : Stmt := top 50
abbrev s__law_first : Stmt := top 51
abbrev s__law_cell_two : Stmt := top 52
abbrev s__law_take_two : Stmt := top 53
abbrev s__law_mixed_two : Stmt := top 54
abbrev s__law_rows_two : Stmt := top 55
abbrev s__law_other_two : Stmt := top 56
abbrev s__law_same_order : Stmt := top 57
abbrev s__law_is_papers : Stmt := top 58
abbrev s__law_right_two : Stmt := top 59
abbrev s__law_second : Stmt := top 60
abbrev s_law : Stmt := top 61
abbrev N_is_integer : List Str := ["value", "low", "high"]
theorem sc_is_integer : FnScope N_is_integer ["value", "low", "high"] (defScope s_is_integer) := ⟨rfl, rfl, rfl, by decide +kernel, rfl, by decide +kernel, by decide +kernel⟩
abbrev N_is_list : List Str := ["value"]
theorem sc_is_list : FnScope N_is_list ["value"] (defScope s_is_list) := ⟨rfl, rfl, rfl, by decide +kernel, rfl, by decide +kernel, by decide +kernel⟩
abbrev N_is_row : List Str := ["value", "width", "item"]
theorem sc_is_row : FnScope N_is_row ["value", "width"] (defScope s_is_row) := ⟨rfl, rfl, rfl, by decide +kernel, rfl, by decide +kernel, by decide +kernel⟩
abbrev N_is_any_row : List Str := ["value"]
theorem sc_is_any_row : FnScope N_is_any_row ["value"] (defScope s_is_any_row) := ⟨rfl, rfl, rfl, by decide +kernel, rfl, by decide +kernel, by decide +kernel⟩
abbrev N_are_rows : List Str := ["value", "item"]
theorem sc_are_rows : FnScope N_are_rows ["value"] (defScope s_are_rows) := ⟨rfl, rfl, rfl, by decide +kernel, rfl, by decide +kernel, by decide +kernel⟩
abbrev N_need_rows : List Str := ["value"]
theorem sc_need_rows : FnScope N_need_rows ["value"] (defScope s_need_rows) := ⟨rfl, rfl, rfl, by decide +kernel, rfl, by decide +kernel, by decide +kernel⟩
abbrev N_need_pair : List Str := ["one", "other"]
theorem sc_need_pair : FnScope N_need_pair ["one", "other"] (defScope s_need_pair) := ⟨rfl, rfl, rfl, by decide +kernel, rfl, by decide +kernel, by decide +kernel⟩
abbrev N_places_of : List Str := ["rows", "place", "row"]
theorem sc_places_of : FnScope N_places_of ["rows"] (defScope s_places_of) := ⟨rfl, rfl, rfl, by decide +kernel, rfl, by decide +kernel, by decide +kernel⟩
abbrev N_piles_of : List Str := ["one", "other", "place_of", "piles", "ahead", "row", "low", "high", "middle"]
theorem sc_piles_of : FnScope N_piles_of ["one", "other"] (defScope s_piles_of) := ⟨rfl, rfl, rfl, by decide +kernel, rfl, by decide +kernel, by decide +kernel⟩
abbrev N_longest_of : List Str := ["one", "other", "piles", "ahead", "found", "row"]
theorem sc_longest_of : FnScope N_longest_of ["one", "other"] (defScope s_longest_of) := ⟨rfl, rfl, rfl, by decide +kernel, rfl, by decide +kernel, by decide +kernel⟩
abbrev N_stays : List Str := ["one", "other"]
theorem sc_stays : FnScope N_stays ["one", "other"] (defScope s_stays) := ⟨rfl, rfl, rfl, by decide +kernel, rfl, by decide +kernel, by decide +kernel⟩
abbrev N_falls : List Str := ["one", "other", "piles", "ahead"]
theorem sc_falls : FnScope N_falls ["one", "other"] (defScope s_falls) := ⟨rfl, rfl, rfl, by decide +kernel, rfl, by decide +kernel, by decide +kernel⟩
abbrev N_rises_in : List Str := ["rows", "place_of", "places", "row", "place", "later"]
theorem sc_rises_in : FnScope N_rises_in ["rows", "place_of"] (defScope s_rises_in) := ⟨rfl, rfl, rfl, by decide +kernel, rfl, by decide +kernel, by decide +kernel⟩
abbrev N_check_papers : List Str := ["one", "other", "staying", "lists", "first", "second", "rows", "row"]
theorem sc_check_papers : FnScope N_check_papers ["one", "other", "staying", "lists"] (defScope s_check_papers) := ⟨rfl, rfl, rfl, by decide +kernel, rfl, by decide +kernel, by decide +kernel⟩
abbrev N_plan_moves : List Str := ["one", "other", "staying", "ahead", "row", "place"]
theorem sc_plan_moves : FnScope N_plan_moves ["one", "other"] (defScope s_plan_moves) := ⟨rfl, rfl, rfl, by decide +kernel, rfl, by decide +kernel, by decide +kernel⟩
abbrev N_fewest_moves : List Str := ["one", "other"]
theorem sc_fewest_moves : FnScope N_fewest_moves ["one", "other"] (defScope s_fewest_moves) := ⟨rfl, rfl, rfl, by decide +kernel, rfl, by decide +kernel, by decide +kernel⟩
abbrev N_is_move : List Str := ["value"]
theorem sc_is_move : FnScope N_is_move ["value"] (defScope s_is_move) := ⟨rfl, rfl, rfl, by decide +kernel, rfl, by decide +kernel, by decide +kernel⟩
abbrev N_are_moves : List Str := ["value", "item"]
theorem sc_are_moves : FnScope N_are_moves ["value"] (defScope s_are_moves) := ⟨rfl, rfl, rfl, by decide +kernel, rfl, by decide +kernel, by decide +kernel⟩
abbrev N_moved : List Str := ["rows", "move", "row", "behind", "left", "place", "item"]
theorem sc_moved : FnScope N_moved ["rows", "move"] (defScope s_moved) := ⟨rfl, rfl, rfl, by decide +kernel, rfl, by decide +kernel, by decide +kernel⟩
abbrev N_need_moves : List Str := ["rows", "moves"]
theorem sc_need_moves : FnScope N_need_moves ["rows", "moves"] (defScope s_need_moves) := ⟨rfl, rfl, rfl, by decide +kernel, rfl, by decide +kernel, by decide +kernel⟩
abbrev N_walk_moves : List Str := ["rows", "moves", "here", "index", "move"]
abbrev N_apply_moves : List Str := ["rows", "moves"]
theorem sc_apply_moves : FnScope N_apply_moves ["rows", "moves"] (defScope s_apply_moves) := ⟨rfl, rfl, rfl, by decide +kernel, rfl, by decide +kernel, by decide +kernel⟩
abbrev N_check_moves : List Str := ["one", "other", "moves", "here", "move"]
theorem sc_check_moves : FnScope N_check_moves ["one", "other", "moves"] (defScope s_check_moves) := ⟨rfl, rfl, rfl, by decide +kernel, rfl, by decide +kernel, by decide +kernel⟩
abbrev N__law_cell : List Str := ["script", "k"]
theorem sc__law_cell : FnScope N__law_cell ["script", "k"] (defScope s__law_cell) := ⟨rfl, rfl, rfl, by decide +kernel, rfl, by decide +kernel, by decide +kernel⟩
abbrev N__law_box : List Str := ["cell"]
theorem sc__law_box : FnScope N__law_box ["cell"] (defScope s__law_box) := ⟨rfl, rfl, rfl, by decide +kernel, rfl, by decide +kernel, by decide +kernel⟩
abbrev N__law_take : List Str := ["box", "many", "digit", "mixed"]
theorem sc__law_take : FnScope N__law_take ["box", "many"] (defScope s__law_take) := ⟨rfl, rfl, rfl, by decide +kernel, rfl, by decide +kernel, by decide +kernel⟩
abbrev N__law_mixed : List Str := ["box", "things", "left", "found"]
theorem sc__law_mixed : FnScope N__law_mixed ["box", "things"] (defScope s__law_mixed) := ⟨rfl, rfl, rfl, by decide +kernel, rfl, by decide +kernel, by decide +kernel⟩
abbrev N__law_rows : List Str := ["box", "many", "width", "top", "found", "k", "row", "column"]
theorem sc__law_rows : FnScope N__law_rows ["box", "many"] (defScope s__law_rows) := ⟨rfl, rfl, rfl, by decide +kernel, rfl, by decide +kernel, by decide +kernel⟩
abbrev N__law_other : List Str := ["box", "rows", "way", "many", "at", "found", "lap", "row"]
theorem sc__law_other : FnScope N__law_other ["box", "rows"] (defScope s__law_other) := ⟨rfl, rfl, rfl, by decide +kernel, rfl, by decide +kernel, by decide +kernel⟩
abbrev N__law_longest : List Str := ["first", "second", "known", "place", "at", "row", "ahead", "k"]
theorem sc__law_longest : FnScope N__law_longest ["first", "second"] (defScope s__law_longest) := ⟨rfl, rfl, rfl, by decide +kernel, rfl, by decide +kernel, by decide +kernel⟩
abbrev N__law_done : List Str := ["rows", "move", "row", "behind", "left", "at", "first"]
theorem sc__law_done : FnScope N__law_done ["rows", "move"] (defScope s__law_done) := ⟨rfl, rfl, rfl, by decide +kernel, rfl, by decide +kernel, by decide +kernel⟩
abbrev N__law_led : List Str := ["rows", "steps", "move"]
theorem sc__law_led : FnScope N__law_led ["rows", "steps"] (defScope s__law_led) := ⟨rfl, rfl, rfl, by decide +kernel, rfl, by decide +kernel, by decide +kernel⟩
abbrev N__law_within : List Str := ["first", "second", "many", "known", "lap", "more", "rows", "row", "behind", "found"]
theorem sc__law_within : FnScope N__law_within ["first", "second", "many"] (defScope s__law_within) := ⟨rfl, rfl, rfl, by decide +kernel, rfl, by decide +kernel, by decide +kernel⟩
abbrev N__law_stay : List Str := ["first", "second", "place", "known", "row", "best", "each", "found", "at"]
theorem sc__law_stay : FnScope N__law_stay ["first", "second"] (defScope s__law_stay) := ⟨rfl, rfl, rfl, by decide +kernel, rfl, by decide +kernel, by decide +kernel⟩
abbrev N__law_own_moves : List Str := ["box", "first", "second", "fixed", "found", "row", "ahead", "each"]
theorem sc__law_own_moves : FnScope N__law_own_moves ["box", "first", "second"] (defScope s__law_own_moves) := ⟨rfl, rfl, rfl, by decide +kernel, rfl, by decide +kernel, by decide +kernel⟩
abbrev N__law_tuples_right : List Str := ["first", "second", "most", "rigid", "steps", "found", "told"]
theorem sc__law_tuples_right : FnScope N__law_tuples_right ["first", "second", "most"] (defScope s__law_tuples_right) := ⟨rfl, rfl, rfl, by decide +kernel, rfl, by decide +kernel, by decide +kernel⟩
abbrev N__law_right : List Str := ["box", "first", "second", "most", "lap", "steps", "move"]
theorem sc__law_right : FnScope N__law_right ["box", "first", "second"] (defScope s__law_right) := ⟨rfl, rfl, rfl, by decide +kernel, rfl, by decide +kernel, by decide +kernel⟩
abbrev N__law_first : List Str := ["script", "k", "box", "rows", "turn", "second"]
theorem sc__law_first : FnScope N__law_first ["script"] (defScope s__law_first) := ⟨rfl, rfl, rfl, by decide +kernel, rfl, by decide +kernel, by decide +kernel⟩
abbrev N__law_cell_two : List Str := ["script", "k"]
theorem sc__law_cell_two : FnScope N__law_cell_two ["script", "k"] (defScope s__law_cell_two) := ⟨rfl, rfl, rfl, by decide +kernel, rfl, by decide +kernel, by decide +kernel⟩
abbrev N__law_take_two : List Str := ["box", "many", "digit", "mixed"]
theorem sc__law_take_two : FnScope N__law_take_two ["box", "many"] (defScope s__law_take_two) := ⟨rfl, rfl, rfl, by decide +kernel, rfl, by decide +kernel, by decide +kernel⟩
abbrev N__law_mixed_two : List Str := ["box", "things", "left", "found"]
theorem sc__law_mixed_two : FnScope N__law_mixed_two ["box", "things"] (defScope s__law_mixed_two) := ⟨rfl, rfl, rfl, by decide +kernel, rfl, by decide +kernel, by decide +kernel⟩
abbrev N__law_rows_two : List Str := ["box", "many", "width", "top", "found", "k", "row", "column"]
theorem sc__law_rows_two : FnScope N__law_rows_two ["box", "many"] (defScope s__law_rows_two) := ⟨rfl, rfl, rfl, by decide +kernel, rfl, by decide +kernel, by decide +kernel⟩
abbrev N__law_other_two : List Str := ["box", "rows", "way", "many", "at", "found", "lap", "row"]
theorem sc__law_other_two : FnScope N__law_other_two ["box", "rows"] (defScope s__law_other_two) := ⟨rfl, rfl, rfl, by decide +kernel, rfl, by decide +kernel, by decide +kernel⟩
abbrev N__law_same_order : List Str := ["rows", "second", "places", "row"]
theorem sc__law_same_order : FnScope N__law_same_order ["rows", "second"] (defScope s__law_same_order) := ⟨rfl, rfl, rfl, by decide +kernel, rfl, by decide +kernel, by decide +kernel⟩
abbrev N__law_is_papers : List Str := ["first", "second", "staying", "lists", "rows"]
theorem sc__law_is_papers : FnScope N__law_is_papers ["first", "second", "staying", "lists"] (defScope s__law_is_papers) := ⟨rfl, rfl, rfl, by decide +kernel, rfl, by decide +kernel, by decide +kernel⟩
abbrev N__law_right_two : List Str := ["first", "second", "most", "kept", "lap", "staying", "lists", "rigid", "rows"]
theorem sc__law_right_two : FnScope N__law_right_two ["first", "second"] (defScope s__law_right_two) := ⟨rfl, rfl, rfl, by decide +kernel, rfl, by decide +kernel, by decide +kernel⟩
abbrev N__law_second : List Str := ["script", "k", "box", "rows", "turn", "second"]
theorem sc__law_second : FnScope N__law_second ["script"] (defScope s__law_second) := ⟨rfl, rfl, rfl, by decide +kernel, rfl, by decide +kernel, by decide +kernel⟩
abbrev N_law : List Str := ["script"]
theorem sc_law : FnScope N_law ["script"] (defScope s_law) := ⟨rfl, rfl, rfl, by decide +kernel, rfl, by decide +kernel, by decide +kernel⟩
/-- a def of the text as it lies -/
structure FD (K : PySem.W.Frag) (mg : Str → Option Value) (x : Str) (st : Stmt) (f : Addr) (fd : FuncData) (ps : List Str) : Prop where
  fn : Fun K x x st f fd
  m : mg x = some (.ref f)
  kp : PySem.W.keepIn K (.ref f) = true
  b : Binds K fd ps []
structure All (K : PySem.W.Frag) (mg : Str → Option Value) (a : Nat → Addr) (d : Nat → FuncData) (tk : Nat → Tok) : Prop where
  n_bool : mg "bool" = none
  n_int : mg "int" = none
  n_list : mg "list" = none
  n_tuple : mg "tuple" = none
  n_dict : mg "dict" = none
  n_set : mg "set" = none
  n_len : mg "len" = none
  n_isinstance : mg "isinstance" = none
  n_all : mg "all" = none
  n_sorted : mg "sorted" = none
  n_enumerate : mg "enumerate" = none
  n_zip : mg "zip" = none
  n_max : mg "max" = none
  n_min : mg "min" = none
  n_range : mg "range" = none
  n_sum : mg "sum" = none
  n_repr : mg "repr" = none
  c_MOST_VALUE : mg "MOST_VALUE" = some (.int 999 (tk 0))
  c_MOST_ROWS : mg "MOST_ROWS" = some (.int 60 (tk 1))
  c_MOST_MOVES : mg "MOST_MOVES" = some (.int 300 (tk 2))
  c_WIDEST : mg "WIDEST" = some (.int 5 (tk 3))
  K_stays : KRev K (d 10) ["one", "other"]
  K_falls : KRev K (d 11) ["one", "other"]
  K_plan_moves : KRev K (d 14) ["one", "other"]
  K_fewest_moves : KRev K (d 15) ["one", "other"]
  K_check_moves : KRev K (d 22) ["one", "other", "moves"]
  F_is_integer : FD K mg "is_integer" s_is_integer (a 0) (d 0) ["value", "low", "high"]
  F_is_list : FD K mg "is_list" s_is_list (a 1) (d 1) ["value"]
  F_is_row : FD K mg "is_row" s_is_row (a 2) (d 2) ["value", "width"]
  F_is_any_row : FD K mg "is_any_row" s_is_any_row (a 3) (d 3) ["value"]
  F_are_rows : FD K mg "are_rows" s_are_rows (a 4) (d 4) ["value"]
  F_need_rows : FD K mg "need_rows" s_need_rows (a 5) (d 5) ["value"]
  F_need_pair : FD K mg "need_pair" s_need_pair (a 6) (d 6) ["one", "other"]
  F_places_of : FD K mg "places_of" s_places_of (a 7) (d 7) ["rows"]
  F_piles_of : FD K mg "piles_of" s_piles_of (a 8) (d 8) ["one", "other"]
  F_longest_of : FD K mg "longest_of" s_longest_of (a 9) (d 9) ["one", "other"]
  F_stays : FD K mg "stays" s_stays (a 10) (d 10) ["one", "other"]
  F_falls : FD K mg "falls" s_falls (a 11) (d 11) ["one", "other"]
  F_rises_in : FD K mg "rises_in" s_rises_in (a 12) (d 12) ["rows", "place_of"]
  F_check_papers : FD K mg "check_papers" s_check_papers (a 13) (d 13) ["one", "other", "staying", "lists"]
  F_plan_moves : FD K mg "plan_moves" s_plan_moves (a 14) (d 14) ["one", "other"]
  F_fewest_moves : FD K mg "fewest_moves" s_fewest_moves (a 15) (d 15) ["one", "other"]
  F_is_move : FD K mg "is_move" s_is_move (a 16) (d 16) ["value"]
  F_are_moves : FD K mg "are_moves" s_are_moves (a 17) (d 17) ["value"]
  F_moved : FD K mg "moved" s_moved (a 18) (d 18) ["rows", "move"]
  F_need_moves : FD K mg "need_moves" s_need_moves (a 19) (d 19) ["rows", "moves"]
  F_walk_moves : FD K mg "walk_moves" s_walk_moves (a 20) (d 20) ["rows", "moves"]
  F_apply_moves : FD K mg "apply_moves" s_apply_moves (a 21) (d 21) ["rows", "moves"]
  F_check_moves : FD K mg "check_moves" s_check_moves (a 22) (d 22) ["one", "other", "moves"]
  F__law_cell : FD K mg "_law_cell" s__law_cell (a 23) (d 23) ["script", "k"]
  F__law_box : FD K mg "_law_box" s__law_box (a 24) (d 24) ["cell"]
  F__law_take : FD K mg "_law_take" s__law_take (a 25) (d 25) ["box", "many"]
  F__law_mixed : FD K mg "_law_mixed" s__law_mixed (a 26) (d 26) ["box", "things"]
  F__law_rows : FD K mg "_law_rows" s__law_rows (a 27) (d 27) ["box", "many"]
  F__law_other : FD K mg "_law_other" s__law_other (a 28) (d 28) ["box", "rows"]
  F__law_longest : FD K mg "_law_longest" s__law_longest (a 29) (d 29) ["first", "second"]
  F__law_done : FD K mg "_law_done" s__law_done (a 30) (d 30) ["rows", "move"]
  F__law_led : FD K mg "_law_led" s__law_led (a 31) (d 31) ["rows", "steps"]
  F__law_within : FD K mg "_law_within" s__law_within (a 32) (d 32) ["first", "second", "many"]
  F__law_stay : FD K mg "_law_stay" s__law_stay (a 33) (d 33) ["first", "second"]
  F__law_own_moves : FD K mg "_law_own_moves" s__law_own_moves (a 34) (d 34) ["box", "first", "second"]
  F__law_tuples_right : FD K mg "_law_tuples_right" s__law_tuples_right (a 35) (d 35) ["first", "second", "most"]
  F__law_right : FD K mg "_law_right" s__law_right (a 36) (d 36) ["box", "first", "second"]
  F__law_first : FD K mg "_law_first" s__law_first (a 37) (d 37) ["script"]
  F__law_cell_two : FD K mg "_law_cell_two" s__law_cell_two (a 38) (d 38) ["script", "k"]
  F__law_take_two : FD K mg "_law_take_two" s__law_take_two (a 39) (d 39) ["box", "many"]
  F__law_mixed_two : FD K mg "_law_mixed_two" s__law_mixed_two (a 40) (d 40) ["box", "things"]
  F__law_rows_two : FD K mg "_law_rows_two" s__law_rows_two (a 41) (d 41) ["box", "many"]
  F__law_other_two : FD K mg "_law_other_two" s__law_other_two (a 42) (d 42) ["box", "rows"]
  F__law_same_order : FD K mg "_law_same_order" s__law_same_order (a 43) (d 43) ["rows", "second"]
  F__law_is_papers : FD K mg "_law_is_papers" s__law_is_papers (a 44) (d 44) ["first", "second", "staying", "lists"]
  F__law_right_two : FD K mg "_law_right_two" s__law_right_two (a 45) (d 45) ["first", "second"]
  F__law_second : FD K mg "_law_second" s__law_second (a 46) (d 46) ["script"]
  F_law : FD K mg "law" s_law (a 47) (d 47) ["script"]
end Mv
/-! What the readings give, the heap growing. -/
namespace Mv
open PySem PySem.Spec PyProof.Rows L2 Evl
/-- a list or a tuple -/
def Seq (H : Hp) (a : Addr) (xs : List V) : Prop := H a = some (.lst xs) ∨ H a = some (.tup xs)
theorem Seq.ex {H H' : Hp} {a : Addr} {xs : List V} (h : Seq H a xs) (e : Ex H H') : Seq H' a xs := h.elim (fun z => .inl (e _ _ z)) fun z => .inr (e _ _ z)
theorem Seq.sq {K : PySem.W.Frag} {H : Hp} {a : Addr} {xs : List V} (h : Seq H a xs) : SqL K H a xs ∨ SqT K H a xs := h.elim (fun z => .inl (sq_of z)) fun z => .inr (st_of z)
def EvF (te : TE) (σ : L2.St) (H : Hp) (P : Addr → Hp → Prop) : Prop := ∀ H1, Ex H H1 → ∀ Q : VK, (∀ p H2, H1 p = none → Ex H1 H2 → P p H2 → Q (.ref p) H2) → te σ H1 Q
def EvP (te : TE) (σ : L2.St) (H : Hp) (P : V → Hp → Prop) : Prop := ∀ H1, Ex H H1 → ∀ Q : VK, (∀ v H2, Ex H1 H2 → P v H2 → Q v H2) → te σ H1 Q
section
variable {K : PySem.W.Frag} {σ : L2.St} {H H' : Hp} {ta tb tc te tl tx : TE} {t u : TT} {x y z v : V} {r : R2}
theorem EvF.mono {P : Addr → Hp → Prop} (e : Ex H H') (h : EvF te σ H P) : EvF te σ H' P := fun H1 a Q q => h H1 (e.trans a) Q q
theorem EvP.mono {P : V → Hp → Prop} (e : Ex H H') (h : EvP te σ H P) : EvP te σ H' P := fun H1 a Q q => h H1 (e.trans a) Q q
theorem Ev.p (h : Ev te σ H v) : EvP te σ H (fun w _ => w = v) := fun H1 e Q q => h H1 e Q fun H2 e2 => q v H2 e2 rfl
theorem EvL.f {xs : List V} (h : EvL te σ H xs) : EvF te σ H (fun p H2 => H2 p = some (.lst xs)) := fun H1 e Q q => h H1 e Q q
theorem EvF.p {P : Addr → Hp → Prop} (h : EvF te σ H P) : EvP te σ H (fun w H2 => ∃ p, w = .ref p ∧ P p H2) := fun H1 e Q q => h H1 e Q fun p H2 _ e2 hp => q _ H2 e2 ⟨p, rfl, hp⟩
theorem et_yes : EvT tYes σ H true := fun H1 _ _ q => q H1 (Ex.refl H1)
/-! isinstance -/
theorem rc_isi {n : String} {ty : Value} {b : Bool} (hx : ∀ H1, Ex H H1 → TyX K H1 x ty) (hk : PySem.W.kitOne K ty (.type n) = some b) : RC (rIsi K) [x, .ty n] H (.bl b) :=
  fun H1 e _ q => ⟨x, .ty n, ty, .type n, b, rfl, .ty n, hx H1 e, hk, q H1 (Ex.refl H1)⟩
theorem ev_isi {n : String} {ty : Value} {b : Bool} (h : Ev ta σ H x) (hx : ∀ H1, Ex H H1 → TyX K H1 x ty) (hk : PySem.W.kitOne K ty (.type n) = some b) : Ev (tCB (rIsi K) (tCons ta (tCons (tC (.ty n)) tNil))) σ H (.bl b) :=
  ev_cb (ea_cons h (ea_cons ev_c ea_nil)) (rc_isi hx hk)
theorem ev_isiT {n m : String} {ty : Value} {b : Bool} (h : Ev ta σ H x) (hx : ∀ H1, Ex H H1 → TyX K H1 x ty) (hk : PySem.W.kitAny K ty [.type n, .type m] = some b) : Ev (tCB (rIsiT K) (tCons ta (tCons (tTup (tCons (tC (.ty n)) (tCons (tC (.ty m)) tNil))) tNil))) σ H (.bl b) :=
  fun H1 e Q q => h H1 e _ fun H2 e2 => ⟨sz_of (show 2 ≤ 100000 by decide), fun p hp => ⟨x, p, [.ty n, .ty m], ty, [.type n, .type m], b, rfl, upd_same, .cons (.ty n) (.cons (.ty m) .nil), hx _ ((e.trans e2).trans (Ex.new hp)), hk, q _ (e2.trans (Ex.new hp))⟩⟩
theorem ty_int {i : Int} : ∀ H1, Ex H H1 → TyX K H1 (.int i) (.type "int") := fun _ _ => .base (.int i)
theorem ty_lst {a : Addr} {xs : List V} (h : H a = some (.lst xs)) : ∀ H1, Ex H H1 → TyX K H1 (.ref a) (.type "list") := fun _ e => .base (.lst (e _ _ h))
theorem ty_tup {a : Addr} {xs : List V} (h : H a = some (.tup xs)) : ∀ H1, Ex H H1 → TyX K H1 (.ref a) (.type "tuple") := fun _ e => .base (.tup (e _ _ h))
/-! chains -/
theorem ev_chain {g g' : Int → Int → Bool} {i j k : Int} (ha : Ev ta σ H (.int i)) (hb : Ev tb σ H (.int j)) (hc : Ev tc σ H (.int k)) : Ev (tChain (rI0 fun i j => .bl (g i j)) (rI0 fun i j => .bl (g' i j)) ta tb tc) σ H (.bl (g i j && g' j k)) :=
  fun H1 e Q q => ha H1 e _ fun H2 e2 => hb H2 (e.trans e2) _ fun H3 e3 => ⟨i, j, rfl, rfl, g i j, rfl, by
    cases hg : g i j with
    | false =>
      rw [hg] at q
      exact q H3 (e2.trans e3)
    | true =>
      rw [hg] at q
      show tc σ H3 _
      exact hc H3 ((e.trans e2).trans e3) _ fun H4 e4 => ⟨j, k, rfl, rfl, q H4 ((e2.trans e3).trans e4)⟩⟩
theorem et_chain {g g' : Int → Int → Bool} {i j k : Int} (ha : Ev ta σ H (.int i)) (hb : Ev tb σ H (.int j)) (hc : Ev tc σ H (.int k)) : EvT (tTest (tChain (rI0 fun i j => .bl (g i j)) (rI0 fun i j => .bl (g' i j)) ta tb tc)) σ H (g i j && g' j k) := et_test (ev_chain ha hb hc)
theorem et_I0 {g : Int → Int → Bool} {i j : Int} (ha : Ev ta σ H (.int i)) (hb : Ev tb σ H (.int j)) : EvT (tTest (tOp (rI0 fun i j => .bl (g i j)) ta tb)) σ H (g i j) := et_test (ev_op ha hb rv_I0)
theorem ev_I0 {g : Int → Int → V} {i j : Int} (ha : Ev ta σ H (.int i)) (hb : Ev tb σ H (.int j)) : Ev (tOp (rI0 g) ta tb) σ H (g i j) := ev_op ha hb rv_I0
theorem ev_I {C : Int → Int → Prop} {g : Int → Int → V} {i j : Int} (ha : Ev ta σ H (.int i)) (hb : Ev tb σ H (.int j)) (hc : C i j) : Ev (tOp (rI C g) ta tb) σ H (g i j) := ev_op ha hb (rv_I hc)
/-! lengths -/
theorem ev_lenS {p : Addr} {xs : List V} (ha : Ev ta σ H (.ref p)) (h : Seq H p xs) : Ev (tCB (rLenS K) (tCons ta tNil)) σ H (.int (xs.length : Int)) := fun H1 e Q q =>
  ha H1 e _ fun H2 e2 => ⟨p, xs, rfl, (h.ex (e.trans e2)).sq, q H2 e2⟩
/-! all -/
theorem ev_allN {bs : List Bool} (h : EvL te σ H (bs.map V.bl)) : Ev (tCB (rAll K) (tCons te tNil)) σ H (.bl (bs.all id)) := fun H1 e Q q =>
  h H1 e _ fun p H2 _ e2 hp => ⟨p, bs, rfl, sq_of hp, q H2 e2⟩
/-! comprehensions over a list or a tuple -/
theorem given_take (xs : List V) (f : V → Bool) (g : V → V) : ∀ n, n ≤ xs.length → given n (fun i => f (xs.getD i .non)) (fun i => g (xs.getD i .non)) = ((xs.take n).filter f).map g
  | 0, _ => rfl
  | n + 1, h => by
    have hn : n < xs.length := h
    have ex : xs.getD n .non = xs[n] := by rw [List.getD_eq_getElem?_getD, List.getElem?_eq_getElem hn] <;> rfl
    have et : xs.take (n + 1) = xs.take n ++ [xs[n]] := by rw [List.take_succ, List.getElem?_eq_getElem hn] <;> rfl
    have ih := given_take xs f g n (Nat.le_of_lt hn)
    cases hf : f xs[n] with
    | true =>
      rw [given_yes (f := fun i => f (xs.getD i .non)) (by show f (xs.getD n .non) = true; rw [ex]; exact hf), ih, et, List.filter_append, List.map_append]
      show _ ++ [g (xs.getD n .non)] = _
      rw [ex]
      simp [hf]
    | false =>
      rw [given_no (f := fun i => f (xs.getD i .non)) (by show f (xs.getD n .non) = false; rw [ex]; exact hf), ih, et, List.filter_append, List.map_append]
      simp [hf]
theorem given_eq (xs : List V) (f : V → Bool) (g : V → V) : given xs.length (fun i => f (xs.getD i .non)) (fun i => g (xs.getD i .non)) = (xs.filter f).map g := by
  rw [given_take xs f g xs.length (Nat.le_refl _), List.take_length]
theorem el_lcS {a : Addr} {xs : List V} {j : Nat} {vs : List Nat} (f : V → Bool) (g : V → V) (h : Ev tl σ H (.ref a)) (hx : Seq H a xs) (hz : xs.length ≤ 40000) (hw : ∀ x, wipe ((wipe σ vs).set j (some x)) vs = wipe σ vs)
    (ht : ∀ (x : V) H1, Ex H H1 → x ∈ xs → EvT t ((wipe σ vs).set j (some x)) H1 (f x)) (he : ∀ (x : V) H1, Ex H H1 → x ∈ xs → f x = true → Ev te ((wipe σ vs).set j (some x)) H1 (g x)) :
    EvL (tLc (iSeq K tl) (gName j) t te vs) σ H ((xs.filter f).map g) := by
  rw [← given_eq]
  have hm : ∀ i x, xs[i]? = some x → xs.getD i .non = x := fun i x e => by rw [List.getD_eq_getElem?_getD, e] <;> rfl
  intro H0 e Q q
  rcases hx with hx | hx
  · refine .inl ?_
    exact el_lcL (K := K) (xs := xs) (fun i => f (xs.getD i .non)) (fun i => g (xs.getD i .non)) h (sq_of hx) hz hw (fun i x H1 e1 hi => by rw [hm i x hi]; exact ht x H1 e1 (List.mem_of_getElem? hi))
      (fun i x H1 e1 hi hf => by rw [hm i x hi] at hf ⊢; exact he x H1 e1 (List.mem_of_getElem? hi) hf) H0 e Q q
  · refine .inr ?_
    refine h H0 e _ fun H1 e1 => ⟨a, rfl, ⟨xs, ex_t (e.trans e1) (st_of hx)⟩, fun Dl hD =>
      lc_tup (xs := xs) (Cw H1 (fun i => f (xs.getD i .non)) (fun i => g (xs.getD i .non)) Dl) ⟨hD, Ex.new hD, upd_same⟩ (fun i H' _ p => ex_t ((e.trans e1).trans p.2.1) (st_of hx)) (fun i x H' hi p => ⟨hw x, cw_turn p (by have := (List.getElem?_eq_some_iff.mp hi).1; omega)
        (by rw [hm i x hi]; exact ht x H1 (e.trans e1) (List.mem_of_getElem? hi)) (fun hf => by rw [hm i x hi] at hf ⊢; exact he x H1 (e.trans e1) (List.mem_of_getElem? hi) hf)⟩)
        (fun H' p => q Dl H' (fresh_back e1 p.1) (e1.trans p.2.1) p.2.2)⟩
theorem filter_true {α : Type} (xs : List α) : xs.filter (fun _ => true) = xs := by
  rw [List.filter_eq_self]
  exact fun _ _ => rfl
theorem el_lcSm {a : Addr} {xs : List V} {j : Nat} {vs : List Nat} (g : V → V) (h : Ev tl σ H (.ref a)) (hx : Seq H a xs) (hz : xs.length ≤ 40000) (hw : ∀ x, wipe ((wipe σ vs).set j (some x)) vs = wipe σ vs)
    (he : ∀ (x : V) H1, Ex H H1 → x ∈ xs → Ev te ((wipe σ vs).set j (some x)) H1 (g x)) : EvL (tLc (iSeq K tl) (gName j) tYes te vs) σ H (xs.map g) := by
  have z := el_lcS (K := K) (t := tYes) (fun _ => true) g h hx hz hw (fun _ _ _ _ => et_yes) (fun x H1 e m _ => he x H1 e m)
  rwa [filter_true] at z
/-- over a tuple -/
theorem el_lcTm {a : Addr} {xs : List V} {j : Nat} {vs : List Nat} (g : V → V) (h : Ev tl σ H (.ref a)) (hx : H a = some (.tup xs)) (hz : xs.length ≤ 40000) (hw : ∀ x, wipe ((wipe σ vs).set j (some x)) vs = wipe σ vs)
    (he : ∀ (x : V) H1, Ex H H1 → x ∈ xs → Ev te ((wipe σ vs).set j (some x)) H1 (g x)) : EvL (tLc (iTup K tl) (gName j) tYes te vs) σ H (xs.map g) := by
  have hm : ∀ i x, xs[i]? = some x → xs.getD i .non = x := fun i x e => by rw [List.getD_eq_getElem?_getD, e] <;> rfl
  have e0 := given_eq xs (fun _ => true) g
  rw [filter_true] at e0
  rw [← e0]
  intro H0 e Q q
  refine h H0 e _ fun H1 e1 => ⟨a, rfl, ⟨xs, ex_t (e.trans e1) (st_of hx)⟩, fun Dl hD =>
      lc_tup (xs := xs) (Cw H1 (fun i => true) (fun i => g (xs.getD i .non)) Dl) ⟨hD, Ex.new hD, upd_same⟩ (fun i H' _ p => ex_t ((e.trans e1).trans p.2.1) (st_of hx)) (fun i x H' hi p => ⟨hw x, cw_turn p (by have := (List.getElem?_eq_some_iff.mp hi).1; omega)
        et_yes (fun hf => by rw [hm i x hi]; exact he x H1 (e.trans e1) (List.mem_of_getElem? hi))⟩)
        (fun H' p => q Dl H' (fresh_back e1 p.1) (e1.trans p.2.1) p.2.2)⟩
theorem map_true (xs : List V) : (xs.map fun _ => V.bl true) = (List.replicate xs.length true).map V.bl := by
  induction xs with
  | nil => rfl
  | cons x xs ih =>
    rw [List.map_cons, ih, List.length_cons, List.replicate_succ, List.map_cons]
theorem all_rep (n : Nat) : (List.replicate n true).all id = true := by
  rw [List.all_eq_true]
  intro x hx
  rw [(List.mem_replicate.mp hx).2] <;> rfl
theorem ev_allT {xs : List V} (h : EvL te σ H (xs.map fun _ => V.bl true)) : Ev (tCB (rAll K) (tCons te tNil)) σ H (.bl true) := by
  rw [map_true] at h
  have z := ev_allN (K := K) h
  rwa [all_rep] at z
end
/-! ### rows, lists of rows, lists of these -/
def IsRow (H : Hp) (x : V) (r : List Int) : Prop := ∃ b, x = .ref b ∧ H b = some (.tup (r.map V.int))
def Rws (H : Hp) (x : V) (rs : List (List Int)) : Prop := ∃ a xs, x = .ref a ∧ Seq H a xs ∧ Paired (IsRow H) xs rs
def Lss (H : Hp) (x : V) (Ls : List (List (List Int))) : Prop := ∃ a xs, x = .ref a ∧ Seq H a xs ∧ Paired (Rws H) xs Ls
theorem Paired.imp {α β : Type} {F G : α → β → Prop} (f : ∀ a b, F a b → G a b) : ∀ {xs : List α} {ys : List β}, Paired F xs ys → Paired G xs ys
  | _, _, .nil => .nil
  | _, _, .cons h t => .cons (f _ _ h) (Paired.imp f t)
theorem Paired.mem_l {α β : Type} {F : α → β → Prop} : ∀ {xs : List α} {ys : List β}, Paired F xs ys → ∀ x ∈ xs, ∃ y ∈ ys, F x y
  | _, _, .nil, _, h => absurd h (by simp)
  | _, _, .cons (b := b) h t, x, hx => by
    rcases List.mem_cons.mp hx with e | hx
    · subst e
      exact ⟨b, List.mem_cons_self, h⟩
    · obtain ⟨y, hy, hf⟩ := Paired.mem_l t x hx
      exact ⟨y, List.mem_cons_of_mem _ hy, hf⟩
theorem Paired.at_l {α β : Type} {F : α → β → Prop} : ∀ {xs : List α} {ys : List β}, Paired F xs ys → ∀ (i : Nat) (x : α), xs[i]? = some x → ∃ y, ys[i]? = some y ∧ F x y
  | _, _, .nil, i, x, h => by simp at h
  | _, _, .cons (b := b) h t, 0, x, e => by
    cases (Option.some.inj (show some _ = some x from e))
    exact ⟨b, rfl, h⟩
  | _, _, .cons h t, i + 1, x, e => Paired.at_l t i x e
theorem Paired.at_r {α β : Type} {F : α → β → Prop} {xs : List α} {ys : List β} (p : Paired F xs ys) (i : Nat) (y : β) (h : ys[i]? = some y) : ∃ x, xs[i]? = some x ∧ F x y := paired_at p i y h
section
variable {H H' : Hp} {x : V}
theorem IsRow.ex {r : List Int} (h : IsRow H x r) (e : Ex H H') : IsRow H' x r := let ⟨b, h1, h2⟩ := h; ⟨b, h1, e _ _ h2⟩
theorem Rws.ex {rs : List (List Int)} (h : Rws H x rs) (e : Ex H H') : Rws H' x rs := let ⟨a, xs, h1, h2, h3⟩ := h; ⟨a, xs, h1, h2.ex e, Paired.imp (fun _ _ z => z.ex e) h3⟩
theorem Lss.ex {Ls : List (List (List Int))} (h : Lss H x Ls) (e : Ex H H') : Lss H' x Ls := let ⟨a, xs, h1, h2, h3⟩ := h; ⟨a, xs, h1, h2.ex e, Paired.imp (fun _ _ z => z.ex e) h3⟩
end
def OkRow (w : Nat) (r : List Int) : Prop := r.length = w ∧ ∀ i ∈ r, 0 ≤ i ∧ i ≤ 999
/-- a list of rows as the program takes it -/
structure OkRows (w : Nat) (rs : List (List Int)) : Prop where
  w1 : 1 ≤ w
  w5 : w ≤ 5
  nd : rs.Nodup
  row : ∀ r ∈ rs, OkRow w r
  few : rs.length ≤ 60
end Mv
/-! The checks: they pass where the rows are right. -/
namespace Mv
open PySem PySem.Spec PyProof.Rows L2 Evl
section
variable {P : Program} {w : World} {K : PySem.W.Frag} {mg : Str → Option Value} {base : Heap} {a : Nat → Addr} {d : Nat → FuncData} {tk : Nat → Tok}
theorem kT {n m : String} {b : Bool} (h : kitB n m = some b) : PySem.W.kitOne K (.type n) (.type m) = some b := kit_ty h
/-! is_integer -/
def sp_is_integer : Sp := fun vs H Q _ => ∃ v lo hi : Int, vs = [.int v, .int lo, .int hi] ∧ RetV (.bl (decide (lo ≤ v) && decide (v ≤ hi))) H Q
theorem ok_is_integer (T : All K mg a d tk) : FnOk P w K mg base CX0 1 (a 0) (d 0) ["value", "low", "high"] sp_is_integer := by
  refine T.F_is_integer.fn.ok sc_is_integer (fun vs H Q E h => ?_) (fun cdv A outer s H vs Q E hr h => ?_)
  · obtain ⟨v, lo, hi, rfl, _⟩ := h
    rfl
  · obtain ⟨v, lo, hi, rfl, k⟩ := h
    have nd := sc_is_integer.nd
    refine ⟨_, (pss_cons (ps_if (PW.pt (pw_or (pt_val (pe_callB call_isi (by rfl) T.n_isinstance PyProof.Rows.boot_isinstance (pa_cons (pv 0) (pa_cons (pe_bltn (v := .ty "bool") rfl T.n_bool PyProof.Rows.boot_bool rfl) pa_nil)))) (pw_or1 (pt_not (pt_val (pe_callB call_isi (by rfl) T.n_isinstance PyProof.Rows.boot_isinstance (pa_cons (pv 0) (pa_cons (pe_bltn (v := .ty "int") rfl T.n_int PyProof.Rows.boot_int rfl) pa_nil))))))))
 (pss_one (ps_ret pe_bl))
 pss_nil)
 (pss_one (ps_ret (pe_chain op_le op_le (pv 1) (pv 0) (pv 2))))), ?_⟩
    refine q_when (et_or (et_B (ev_isi (ev_var rfl) ty_int (kT (b := false) (by decide +kernel)))) fun _ => et_not (et_B (ev_isi (ev_var rfl) ty_int (kT (b := true) (by decide +kernel))))) (fun h => absurd h (by decide)) fun _ H1 e1 => ?_
    exact s_ret (ev_chain (ev_var rfl) (ev_var rfl) (ev_var rfl)) fun H2 e2 => k H2 (e1.trans e2)
theorem spv_is_integer {v lo hi : Int} {H : Hp} : SpV sp_is_integer [.int v, .int lo, .int hi] H (.bl (decide (lo ≤ v) && decide (v ≤ hi))) := fun H1 _ Q q _ => ⟨v, lo, hi, rfl, q⟩
/-! is_list -/
def sp_is_list : Sp := fun vs H Q _ => ∃ (p : Addr) (xs : List V), vs = [.ref p] ∧ Seq H p xs ∧ RetV (.bl true) H Q
theorem ok_is_list (T : All K mg a d tk) : FnOk P w K mg base CX0 1 (a 1) (d 1) ["value"] sp_is_list := by
  refine T.F_is_list.fn.ok sc_is_list (fun vs H Q E h => ?_) (fun cdv A outer s H vs Q E hr h => ?_)
  · obtain ⟨p, xs, rfl, _⟩ := h
    rfl
  · obtain ⟨p, xs, rfl, hs, k⟩ := h
    have nd := sc_is_list.nd
    refine ⟨_, (pss_one (ps_ret (pe_callB call_isiT (by rfl) T.n_isinstance PyProof.Rows.boot_isinstance (pa_cons (pv 0) (pa_cons (pe_tup (pa_cons (pe_bltn (v := .ty "list") rfl T.n_list PyProof.Rows.boot_list rfl) (pa_cons (pe_bltn (v := .ty "tuple") rfl T.n_tuple PyProof.Rows.boot_tuple rfl) pa_nil))) pa_nil))))), ?_⟩
    rcases hs with hs | hs
    · exact s_ret (ev_isiT (ev_var rfl) (ty_lst hs) (kitAny_cons (kT (b := true) (by decide +kernel)) (fun h => nomatch h) fun _ => rfl)) k
    · exact s_ret (ev_isiT (ev_var rfl) (ty_tup hs) (kitAny_cons (kT (b := false) (by decide +kernel)) (fun _ => kitAny_cons (kT (b := true) (by decide +kernel)) (fun h => nomatch h) fun _ => rfl) fun h => nomatch h)) k
theorem spv_is_list {p : Addr} {xs : List V} {H : Hp} (h : Seq H p xs) : SpV sp_is_list [.ref p] H (.bl true) := fun H1 e Q q _ => ⟨p, xs, rfl, h.ex e, q⟩
/-! is_row -/
def sp_is_row : Sp := fun vs H Q _ => ∃ (x : V) (r : List Int) (n : Nat), vs = [x, .int n] ∧ IsRow H x r ∧ OkRow n r ∧ n ≤ 5 ∧ RetV (.bl true) H Q
theorem ok_is_row (T : All K mg a d tk) : FnOk P w K mg base CX0 2 (a 2) (d 2) ["value", "width"] sp_is_row := by
  refine T.F_is_row.fn.ok sc_is_row (fun vs H Q E h => ?_) (fun cdv A outer s H vs Q E hr h => ?_)
  · obtain ⟨x, r, n, rfl, _⟩ := h
    rfl
  · obtain ⟨x, r, n, rfl, ⟨b, rfl, hb⟩, ⟨hl, hv⟩, h5, k⟩ := h
    have nd := sc_is_row.nd
    refine ⟨_, (pss_cons (ps_if (PW.pt (pw_or (pt_not (pt_val (pe_callB call_isi (by rfl) T.n_isinstance PyProof.Rows.boot_isinstance (pa_cons (pv 0) (pa_cons (pe_bltn (v := .ty "tuple") rfl T.n_tuple PyProof.Rows.boot_tuple rfl) pa_nil))))) (pw_or1 (pt_cmpR op_ne (pe_callB call_len_seq (by rfl) T.n_len PySem.boot_len (pa_cons (pv 0) pa_nil)) (pv 1) (nomark _)))))
 (pss_one (ps_ret pe_bl))
 pss_nil)
 (pss_one (ps_ret (pe_callB (cr_all rfl) (by rfl) T.n_all PyProof.Rows.boot_all (pa_cons (pe_lc (own := [("item", 2)]) (g := (gName 2)) rfl nd (pi_tup (pv 0)) (blkOk_by (N := N_is_row) (sc := defScope s_is_row) (by decide +kernel)) (fun _ _ _ _ _ => (pg_name (i := 2) nd rfl (Or.inl rfl))) (fun _ _ _ _ _ => pts_nil) (fun _ _ _ _ _ => (pe_call (ok_is_integer T) (hr.mono (by decide)) rfl T.F_is_integer.m T.F_is_integer.kp T.F_is_integer.b .nil pass0 (pa_cons (pv 2) (pa_cons pe_int (pa_cons (pe_glob (v := .int 999) rfl T.c_MOST_VALUE ⟨_, rfl⟩) pa_nil)))))) pa_nil))))), ?_⟩
    have hlen : ((r.map V.int).length : Int) = n := by rw [List.length_map, hl]
    refine q_when (et_or (et_not (et_B (ev_isi (ev_var rfl) (ty_tup hb) (kT (b := true) (by decide +kernel))))) fun _ => et_test (ev_op (ev_lenS (ev_var rfl) (.inr hb)) (ev_var rfl) (rv_ne rfl))) (fun h => ?_) fun _ H1 e1 => ?_
    · rw [hlen] at h
      simp at h
    · refine s_ret (ev_allT (el_lcTm (fun _ => .bl true) (ev_var rfl) (e1 _ _ hb) (by rw [List.length_map, hl]; omega) (fun _ => rfl) fun x H2 e2 hx => ?_)) fun H2 e2 => k H2 (e1.trans e2)
      obtain ⟨i, hi, rfl⟩ := List.mem_map.mp hx
      obtain ⟨h0, h9⟩ := hv i hi
      refine ev_is (ev_call (ea_cons (ev_var rfl) (ea_cons ev_c (ea_cons ev_c ea_nil))) spv_is_integer) ?_
      rw [decide_eq_true h0, decide_eq_true h9] <;> rfl
theorem spv_is_row {x : V} {r : List Int} {n : Nat} {H : Hp} (h : IsRow H x r) (ho : OkRow n r) (h5 : n ≤ 5) : SpV sp_is_row [x, .int n] H (.bl true) := fun H1 e Q q _ => ⟨x, r, n, rfl, h.ex e, ho, h5, q⟩
/-! is_any_row -/
def sp_is_any_row : Sp := fun vs H Q _ => ∃ (x : V) (r : List Int) (n : Nat), vs = [x] ∧ IsRow H x r ∧ OkRow n r ∧ 1 ≤ n ∧ n ≤ 5 ∧ RetV (.bl true) H Q
theorem ok_is_any_row (T : All K mg a d tk) : FnOk P w K mg base CX0 3 (a 3) (d 3) ["value"] sp_is_any_row := by
  refine T.F_is_any_row.fn.ok sc_is_any_row (fun vs H Q E h => ?_) (fun cdv A outer s H vs Q E hr h => ?_)
  · obtain ⟨x, r, n, rfl, _⟩ := h
    rfl
  · obtain ⟨x, r, n, rfl, hx, ho, h1, h5, k⟩ := h
    have nd := sc_is_any_row.nd
    refine ⟨_, (pss_one (ps_ret (pe_and (pe_callB call_isi (by rfl) T.n_isinstance PyProof.Rows.boot_isinstance (pa_cons (pv 0) (pa_cons (pe_bltn (v := .ty "tuple") rfl T.n_tuple PyProof.Rows.boot_tuple rfl) pa_nil))) (pe_and (pe_chain op_lt op_le pe_int (pe_callB call_len_seq (by rfl) T.n_len PySem.boot_len (pa_cons (pv 0) pa_nil)) (pe_glob (v := .int 5) rfl T.c_WIDEST ⟨_, rfl⟩)) (pe_one (pe_call (ok_is_row T) (hr.mono (by decide)) rfl T.F_is_row.m T.F_is_row.kp T.F_is_row.b .nil pass0 (pa_cons (pv 0) (pa_cons (pe_callB call_len_seq (by rfl) T.n_len PySem.boot_len (pa_cons (pv 0) pa_nil)) pa_nil)))))))), ?_⟩
    obtain ⟨b, rfl, hb⟩ := id hx
    have hlen : ((r.map V.int).length : Int) = n := by rw [List.length_map, ho.1]
    have eL : Ev (tCB (rLenS K) (tCons (tVar 0) tNil)) (start N_is_any_row [V.ref b]) H (.int n) := by
      rw [← hlen]
      exact ev_lenS (ev_var rfl) (.inr hb)
    refine s_ret (ev_is (ev_andV (ev_isi (ev_var rfl) (ty_tup hb) (kT (b := true) (by decide +kernel))) fun _ => ev_andV (ev_chain ev_c eL ev_c) fun _ => ev_call (ea_cons (ev_var rfl) (ea_cons eL ea_nil)) (spv_is_row hx ho h5)) ?_) k
    have z1 : decide ((0 : Int) < (n : Int)) = true := decide_eq_true (by omega)
    have z2 : decide ((n : Int) ≤ 5) = true := decide_eq_true (by omega)
    rw [z1, z2] <;> rfl
theorem spv_is_any_row {x : V} {r : List Int} {n : Nat} {H : Hp} (h : IsRow H x r) (ho : OkRow n r) (h1 : 1 ≤ n) (h5 : n ≤ 5) : SpV sp_is_any_row [x] H (.bl true) := fun H1 e Q q _ => ⟨x, r, n, rfl, h.ex e, ho, h1, h5, q⟩
end
end Mv
/-! are_rows, need_rows, need_pair, need_lists. -/
namespace Mv
open PySem PySem.Spec PyProof.Rows L2 Evl
theorem nodup_len {α : Type} [DecidableEq α] : ∀ (l D : List α), l.Nodup → (∀ x ∈ l, x ∈ D) → l.length ≤ D.length
  | [], _, _, _ => Nat.zero_le _
  | x :: l, D, h, hs => by
    have hx := hs x List.mem_cons_self
    have h1 : l.length ≤ (D.erase x).length := nodup_len l (D.erase x) (List.nodup_cons.mp h).2 fun y hy => by
      have ne : y ≠ x := fun e => (List.nodup_cons.mp h).1 (e ▸ hy)
      exact (List.mem_erase_of_ne ne).mpr (hs y (List.mem_cons_of_mem _ hy))
    have h2 := List.length_erase_of_mem hx
    have h3 : 0 < D.length := List.length_pos_of_mem hx
    rw [List.length_cons]
    omega
theorem rows_ks {H : Hp} : ∀ {xs : List V} {rs : List (List Int)}, Paired (IsRow H) xs rs → ∃ ks : List (Addr × List Int), xs = ks.map (fun p => V.ref p.1) ∧ rs = ks.map (·.2) ∧ ∀ p ∈ ks, H p.1 = some (.tup (p.2.map V.int))
  | _, _, .nil => ⟨[], rfl, rfl, fun _ h => absurd h (by simp)⟩
  | _, _, .cons (b := r) ⟨b, e, h⟩ t => by
    obtain ⟨ks, e1, e2, e3⟩ := rows_ks t
    subst e e1 e2
    refine ⟨(b, r) :: ks, rfl, rfl, fun p hp => ?_⟩
    rcases List.mem_cons.mp hp with z | z
    · subst z; exact h
    · exact e3 p z
section
variable {K : PySem.W.Frag} {σ : L2.St} {H H' : Hp} {ta tb tc te tl tx : TE} {t u : TT} {x y z v : V} {r : R2} {P : Program} {w : World}
/-- len(set(xs)) of different rows -/
theorem ev_lenSet {rs : List (List Int)} (ha : Ev ta σ H x) (hr : Rws H x rs) (nd : rs.Nodup) (h60 : rs.length ≤ 60) : Ev (tCB (rLenSetT P w) (tCons (tCB (rSetS K P w) (tCons ta tNil)) tNil)) σ H (.int (rs.length : Int)) := fun H1 e Q q =>
  ha H1 e _ fun H2 e2 => by
    obtain ⟨l, xs, rfl, hs, hp⟩ := hr.ex (e.trans e2)
    obtain ⟨ks, rfl, rfl, hk⟩ := rows_ks hp
    have fin : ∀ s L, H2 s = none → (∀ p ∈ L, p ∈ ks) → (∀ p ∈ ks, p.2 ∈ L.map (·.2)) → rLenSetT P w [.ref s] (upd H2 s (SetTO P w s L)) Q := fun s L hn h1 h2 => by
      have ex : Ex H2 (upd H2 s (SetTO P w s L)) := Ex.new hn
      refine ⟨s, L, rfl, upd_same, fun p hp => ex _ _ (hk p (h1 p hp)), fun hnd => ?_⟩
      have l1 := nodup_len (L.map (·.2)) (ks.map (·.2)) hnd fun x hx => by
        obtain ⟨p, hp, rfl⟩ := List.mem_map.mp hx
        exact List.mem_map_of_mem (h1 p hp)
      have l2 := nodup_len (ks.map (·.2)) (L.map (·.2)) nd fun x hx => by
        obtain ⟨p, hp, rfl⟩ := List.mem_map.mp hx
        exact h2 p hp
      rw [List.length_map] at l1 l2
      rw [List.length_map] at l1 l2
      have el : (L.length : Int) = ((ks.map (·.2)).length : Int) := by rw [List.length_map]; omega
      rw [el]
      exact q _ (e2.trans ex)
    have lk : ks.length < 64 := by rw [List.length_map] at h60; omega
    rcases hs with hs | hs
    · exact .inl ⟨l, ks, rfl, sq_of hs, fun p hp => st_of (hk p hp), lk, fin⟩
    · exact .inr ⟨l, ks, rfl, st_of hs, fun p hp => st_of (hk p hp), lk, fin⟩
end
/-- what cm_core's reading asks, by a walk -/
theorem cm_it {J : It} {n : Nat} {G : Hp → Prop} {Y : Nat → Hp → V → Hp → Prop} (w : Walk J n G Y) {g : TG} {tt : TT} {tk : TK} {vs : List Nat} {σ : L2.St} {H1 : Hp} {D : Addr} {ob : HO} {Qd : Hp → Prop} (Pv : Nat → Hp → Prop) (h0 : Pv 0 (upd H1 D ob)) (hG : ∀ i H, i ≤ n → Pv i H → G H)
    (hs : ∀ i x H H', i < n → Pv i H → Y i H x H' → g x (wipe σ vs) H' fun σ2 H2 => wipe σ2 vs = wipe σ vs ∧ tt σ2 H2 fun b H3 => if b = true then tk D σ2 H3 (Pv (i + 1)) else Pv (i + 1) H3) (hd : ∀ H, Pv n H → Qd H) :
    ∃ W : Nat → Nat → Hp → Prop, (∃ m, W 0 m (upd H1 D ob)) ∧ ∀ i m H, W i m H →
      (J.stop i H ∧ Qd H) ∨ (J.go i H ∧ ∃ Nx : Hp → Prop, (∀ H', Nx H' → ∃ m', m' < m ∧ W (i + 1) m' H') ∧ ∀ x H', J.yld i H x H' → g x (wipe σ vs) H' fun σ2 H2 => wipe σ2 vs = wipe σ vs ∧ tt σ2 H2 fun b H3 => if b = true then tk D σ2 H3 Nx else Nx H3) := by
  refine ⟨fun i m H => m = n - i ∧ i ≤ n ∧ Pv i H, ⟨n, by simp, Nat.zero_le _, h0⟩, ?_⟩
  rintro i m H ⟨rfl, hi, p⟩
  have q := hG i H hi p
  by_cases hlt : i < n
  · refine .inr ⟨w.goes i H hlt q, Pv (i + 1), fun H' p' => ⟨n - (i + 1), by omega, rfl, hlt, p'⟩, fun x H' y => hs i x H H' hlt p (w.yields i H x H' hlt q y)⟩
  · have e : i = n := by omega
    subst e
    exact .inl ⟨w.stops H q, hd H p⟩
section
variable {K : PySem.W.Frag} {σ : L2.St} {H H' : Hp} {ta tb tc te tl tx : TE} {t u : TT} {x y z v : V} {r : R2} {P : Program} {w : World}
theorem two_scan : 1 + 1 < scanBound := by decide
/-- len({.. for ..}), each the same int: none or one -/
theorem ev_lenSet1 {p : Addr} {xs : List V} {j : Nat} {vs : List Nat} {c : Int} (h : Ev tl σ H (.ref p)) (hx : Seq H p xs) (hw : ∀ x, wipe ((wipe σ vs).set j (some x)) vs = wipe σ vs)
    (he : ∀ (x : V) H1, Ex H H1 → x ∈ xs → Ev te ((wipe σ vs).set j (some x)) H1 (.int c)) : EvP (tCB (rLenSetI w) (tCons (tCm (fun D => SetO w D (fun _ => false) 0) (iSeq K tl) (gName j) tYes (kSetI w te) vs) tNil)) σ H (fun v _ => v = .int 0 ∨ v = .int 1) := by
  intro H0 e0 Q q
  let Pv : Hp → Addr → Nat → Hp → Prop := fun H1 D i H' => H1 D = none ∧ Ex H1 H' ∧ ∃ (S : Int → Bool) (n : Nat), H' D = some (SetO w D S n) ∧ (i = 0 → S = (fun _ => false) ∧ n = 0) ∧ (0 < i → S c = true ∧ n = 1)
  have step : ∀ H1, Ex H H1 → ∀ D i x H', x ∈ xs → Pv H1 D i H' → kSetI w te D ((wipe σ vs).set j (some x)) H' (Pv H1 D (i + 1)) := by
    rintro H1 e1 D i x H' hm ⟨hD, ex, S, n, hS, h0, h1⟩
    refine he x H1 e1 hm H' ex _ fun H4 e4 => ⟨c, S, n, rfl, e4 _ _ hS, ?_, hD, Ex.mut (ex.trans e4) hD, _, _, upd_same, (fun z => absurd z (by omega)), fun _ => ?_⟩
    · rcases Nat.eq_zero_or_pos i with z | z
      · rw [(h0 z).2]; exact Nat.lt_of_le_of_lt (by decide) two_scan
      · rw [(h1 z).2]; exact two_scan
    · rcases Nat.eq_zero_or_pos i with z | z
      · obtain ⟨rfl, rfl⟩ := h0 z
        exact ⟨by simp, by simp⟩
      · obtain ⟨s1, s2⟩ := h1 z
        exact ⟨by simp, by rw [if_pos s1]; exact s2⟩
  have fin : ∀ H1, Ex H0 H1 → ∀ D n H', Pv H1 D n H' → rLenSetI w [.ref D] H' Q := by
    rintro H1 e1 D i H' ⟨hD, ex, S, n, hS, h0, h1⟩
    refine ⟨D, S, n, rfl, hS, q _ H' (e1.trans ex) ?_⟩
    rcases Nat.eq_zero_or_pos i with z | z
    · rw [(h0 z).2]; exact .inl rfl
    · rw [(h1 z).2]; exact .inr rfl
  rcases hx with hx | hx
  · refine .inl (h H0 e0 _ fun H1 e1 => ⟨p, rfl, ⟨xs, ex_l (e0.trans e1) (sq_of hx)⟩, fun D hD => ?_⟩)
    refine cm_it (walk_list (K := K) (a := p) (xs := xs)) (Pv H1 D) ⟨hD, Ex.new hD, _, 0, upd_same, fun _ => ⟨rfl, rfl⟩, fun z => nomatch z⟩ (fun i H' _ q => ex_l ((e0.trans e1).trans q.2.1) (sq_of hx)) (fun i x H' H'' hi pv y => ?_) fun H' pv => fin H1 e1 D _ H' pv
    obtain ⟨rfl, hm⟩ := y
    exact ⟨hw x, step H1 (e0.trans e1) D i x _ (List.mem_of_getElem? hm) pv⟩
  · refine .inr (h H0 e0 _ fun H1 e1 => ⟨p, rfl, ⟨xs, ex_t (e0.trans e1) (st_of hx)⟩, fun D hD => ?_⟩)
    refine cm_it (walk_tup (K := K) (a := p) (xs := xs)) (Pv H1 D) ⟨hD, Ex.new hD, _, 0, upd_same, fun _ => ⟨rfl, rfl⟩, fun z => nomatch z⟩ (fun i H' _ q => ex_t ((e0.trans e1).trans q.2.1) (st_of hx)) (fun i x H' H'' hi pv y => ?_) fun H' pv => fin H1 e1 D _ H' pv
    obtain ⟨rfl, hm⟩ := y
    exact ⟨hw x, step H1 (e0.trans e1) D i x _ (List.mem_of_getElem? hm) pv⟩
end
section
variable {P : Program} {w : World} {K : PySem.W.Frag} {mg : Str → Option Value} {base : Heap} {a : Nat → Addr} {d : Nat → FuncData} {tk : Nat → Tok}
/-! are_rows -/
def sp_are_rows : Sp := fun vs H Q _ => ∃ (x : V) (rs : List (List Int)) (n : Nat), vs = [x] ∧ Rws H x rs ∧ OkRows n rs ∧ RetV (.bl true) H Q
theorem ok_are_rows (T : All K mg a d tk) : FnOk P w K mg base CX0 4 (a 4) (d 4) ["value"] sp_are_rows := by
  refine T.F_are_rows.fn.ok sc_are_rows (fun vs H Q E h => ?_) (fun cdv A outer s H vs Q E hr h => ?_)
  · obtain ⟨x, rs, n, rfl, _⟩ := h
    rfl
  · obtain ⟨x, rs, n, rfl, hx, ho, k⟩ := h
    have nd := sc_are_rows.nd
    have hu64 := hr.units
    refine ⟨_, (pss_cons (ps_if (PW.pt (pw_or (pt_not (pt_val (pe_call (ok_is_list T) (hr.mono (by decide)) rfl T.F_is_list.m T.F_is_list.kp T.F_is_list.b .nil pass0 (pa_cons (pv 0) pa_nil)))) (pw_or (pt_cmpR op_gt (pe_callB call_len_seq (by rfl) T.n_len PySem.boot_len (pa_cons (pv 0) pa_nil)) (pe_glob (v := .int 60) rfl T.c_MOST_ROWS ⟨_, rfl⟩) (nomark _)) (pw_or1 (pt_not (pt_val (pe_callB (cr_all rfl) (by rfl) T.n_all PyProof.Rows.boot_all (pa_cons (pe_lc (own := [("item", 1)]) (g := (gName 1)) rfl nd (pi_seq (pv 0)) (blkOk_by (N := N_are_rows) (sc := defScope s_are_rows) (by decide +kernel)) (fun _ _ _ _ _ => (pg_name (i := 1) nd rfl (Or.inl rfl))) (fun _ _ _ _ _ => pts_nil) (fun _ _ _ _ _ => (pe_call (ok_is_any_row T) (hr.mono (by decide)) rfl T.F_is_any_row.m T.F_is_any_row.kp T.F_is_any_row.b .nil pass0 (pa_cons (pv 1) pa_nil)))) pa_nil))))))))
 (pss_one (ps_ret pe_bl))
 pss_nil)
 (pss_one (ps_ret (pe_and (pe_cmpR op_eq (pe_callB call_lenSetT (by rfl) T.n_len PySem.boot_len (pa_cons (pe_callTy (cr_setS rfl hu64) rfl T.n_set PyProof.Rows.boot_set (pa_cons (pv 0) pa_nil)) pa_nil)) (pe_callB call_len_seq (by rfl) T.n_len PySem.boot_len (pa_cons (pv 0) pa_nil)) (nomark _)) (pe_one (pe_cmpR op_le (pe_callB call_lenSetI (by rfl) T.n_len PySem.boot_len (pa_cons (pe_scI (own := [("item", 1)]) (g := (gName 1)) rfl nd (pi_seq (pv 0)) (blkOk_by (N := N_are_rows) (sc := defScope s_are_rows) (by decide +kernel)) (fun _ _ _ _ _ => (pg_name (i := 1) nd rfl (Or.inl rfl))) (fun _ _ _ _ _ => pts_nil) (fun _ _ _ _ _ => (pe_callB (show CallR _ (.builtin "len") (Evl.rLenS K) from call_len_seq) (by rfl) T.n_len PySem.boot_len (pa_cons (pv 1) pa_nil)))) pa_nil)) pe_int (nomark _))))))), ?_⟩
    obtain ⟨p, xs, rfl, hs, hp⟩ := id hx
    have hlen : xs.length = rs.length := Paired.length hp
    have row : ∀ y ∈ xs, ∃ r, IsRow H y r ∧ OkRow n r := fun y hy => let ⟨r, hr, h⟩ := Paired.mem_l hp y hy; ⟨r, h, ho.row r hr⟩
    refine q_when (et_or (et_not (et_B (ev_call (ea_cons (ev_var rfl) ea_nil) (spv_is_list hs)))) fun _ => et_or (et_I0 (ev_lenS (ev_var rfl) hs) ev_c) fun _ => et_not (et_B (ev_allT (el_lcSm (fun _ => .bl true) (ev_var rfl) hs (by rw [hlen]; have := ho.few; omega) (fun _ => rfl) fun y H2 e2 hy => ?_)))) (fun h => ?_) fun _ H1 e1 => ?_
    · obtain ⟨r, h1, h2⟩ := row y hy
      exact ev_call (ea_cons (ev_var rfl) ea_nil) (spv_is_any_row (h1.ex e2) h2 ho.w1 ho.w5)
    · have := ho.few
      have z : decide ((60 : Int) < (xs.length : Int)) = false := decide_eq_false (by omega)
      rw [z] at h
      exact absurd h (by decide)
    · have l1 := ev_lenSet (K := K) (P := P) (w := w) (σ := start N_are_rows [V.ref p]) (ta := tVar 0) (ev_var rfl) hx ho.nd ho.few
      have l2 : Ev (tCB (rLenS K) (tCons (tVar 0) tNil)) (start N_are_rows [V.ref p]) H (.int (rs.length : Int)) := by
        rw [← hlen]
        exact ev_lenS (ev_var rfl) hs
      have l3 := ev_lenSet1 (K := K) (w := w) (te := tCB (rLenS K) (tCons (tVar 1) tNil)) (j := 1) (vs := [1]) (c := (n : Int)) (ev_var (σ := start N_are_rows [V.ref p]) (i := 0) rfl) hs (fun _ => rfl) fun y H2 e2 hy => by
        obtain ⟨r, ⟨b, rfl, hb⟩, h2⟩ := row y hy
        refine ev_is (ev_lenS (ev_var rfl) (.inr (e2 _ _ hb))) ?_
        rw [List.length_map, h2.1]
      refine (ev_op l1 l2 (rv_eq rfl)) H1 e1 _ fun H2 e2 => ⟨_, rfl, ?_⟩
      have z : decide (V.int (rs.length : Int) = V.int (rs.length : Int)) = true := decide_eq_true rfl
      rw [z]
      rw [if_pos rfl]
      unfold tOp
      refine l3 H2 (e1.trans e2) _ fun v H3 e3 hv => ?_
      have last : ∀ i : Int, i = 0 ∨ i = 1 → Q (V.bl (decide (i ≤ 1))) H3 := fun i hi => by
        rw [decide_eq_true (by omega)]
        exact k _ ((e1.trans e2).trans e3)
      rcases hv with rfl | rfl
      · exact ⟨0, 1, rfl, rfl, last 0 (.inl rfl)⟩
      · exact ⟨1, 1, rfl, rfl, last 1 (.inr rfl)⟩
theorem spv_are_rows {x : V} {rs : List (List Int)} {n : Nat} {H : Hp} (h : Rws H x rs) (ho : OkRows n rs) : SpV sp_are_rows [x] H (.bl true) := fun H1 e Q q _ => ⟨x, rs, n, rfl, h.ex e, ho, q⟩
/-! need_rows -/
def sp_need_rows : Sp := fun vs H Q _ => ∃ (x : V) (rs : List (List Int)) (n : Nat), vs = [x] ∧ Rws H x rs ∧ OkRows n rs ∧ RetV .non H Q
theorem ok_need_rows (T : All K mg a d tk) : FnOk P w K mg base CX0 5 (a 5) (d 5) ["value"] sp_need_rows := by
  refine T.F_need_rows.fn.ok sc_need_rows (fun vs H Q E h => ?_) (fun cdv A outer s H vs Q E hr h => ?_)
  · obtain ⟨x, rs, n, rfl, _⟩ := h
    rfl
  · obtain ⟨x, rs, n, rfl, hx, ho, k⟩ := h
    have nd := sc_need_rows.nd
    refine ⟨_, (pss_one (ps_if (pt_not (pt_val (pe_call (ok_are_rows T) (hr.mono (by decide)) rfl T.F_are_rows.m T.F_are_rows.kp T.F_are_rows.b .nil pass0 (pa_cons (pv 0) pa_nil))))
 (pss_one ps_dead)
 pss_nil)), ?_⟩
    exact s_when (et_not (et_B (ev_call (ea_cons (ev_var rfl) ea_nil) (spv_are_rows hx ho)))) (fun h => absurd h (by decide)) fun _ H1 e1 => k H1 e1
theorem spv_need_rows {x : V} {rs : List (List Int)} {n : Nat} {H : Hp} (h : Rws H x rs) (ho : OkRows n rs) : SpV sp_need_rows [x] H .non := fun H1 e Q q _ => ⟨x, rs, n, rfl, h.ex e, ho, q⟩
end
end Mv
/-! Rows as data; sorted lists of them; need_pair, need_lists. -/
namespace Mv
open PySem PySem.Spec PyProof.Rows L2 Evl
def rd (r : List Int) : PyData := .tuple (r.map PyData.int)
theorem lay_ints : ∀ r : List Int, PyData.canLayAll0 (r.map PyData.int) = true
  | [] => rfl
  | i :: r => by
    rw [List.map_cons, PyData.canLayAll0, lay_ints r] <;> rfl
theorem lay_rows : ∀ rs : List (List Int), PyData.canLayAll0 (rs.map rd) = true
  | [] => rfl
  | r :: rs => by
    rw [List.map_cons, PyData.canLayAll0, lay_rows rs]
    unfold rd
    rw [PyData.canLay0, lay_ints] <;> rfl
theorem deep_ints : ∀ r : List Int, PyData.depthAll (r.map PyData.int) ≤ 2
  | [] => by simp [PyData.depthAll]
  | i :: r => by
    have := deep_ints r
    simp only [List.map_cons, PyData.depthAll, PyData.depth]
    omega
theorem deep_row (r : List Int) : (rd r).depth ≤ 3 := by
  have := deep_ints r
  unfold rd
  simp only [PyData.depth]
  omega
theorem deep_rows : ∀ rs : List (List Int), PyData.depthAll (rs.map rd) ≤ 3
  | [] => by simp [PyData.depthAll]
  | r :: rs => by
    have := deep_rows rs
    have := deep_row r
    simp only [List.map_cons, PyData.depthAll]
    omega
theorem shaped_row (r : List Int) : SeqAt.shaped (rd r) = true := by
  have := deep_row r
  unfold SeqAt.shaped
  have e : (rd r).canLay0 = true := by
    unfold rd
    rw [PyData.canLay0, lay_ints]
  rw [e, decide_eq_true (by omega)] <;> rfl
theorem shaped_rows (rs : List (List Int)) : SeqAt.shaped (.list (rs.map rd)) = true := by
  have := deep_rows rs
  unfold SeqAt.shaped
  have e : (PyData.list (rs.map rd)).canLay0 = true := by rw [PyData.canLay0, lay_rows]
  have e2 : (PyData.list (rs.map rd)).depth ≤ 64 := by
    simp only [PyData.depth]
    omega
  rw [e, decide_eq_true e2] <;> rfl
theorem eqv_ints : ∀ r q : List Int, PyData.eqvAll (r.map PyData.int) (q.map PyData.int) = decide (r = q)
  | [], [] => by simp [PyData.eqvAll]
  | [], _ :: _ => by simp [PyData.eqvAll]
  | _ :: _, [] => by simp [PyData.eqvAll]
  | i :: r, j :: q => by
    rw [List.map_cons, List.map_cons, PyData.eqvAll, eqv_ints r q, PyData.eqv]
    by_cases h : i = j
    · by_cases h2 : r = q <;> simp [h, h2]
    · simp [h]
theorem eqv_row (r q : List Int) : PyData.eqv (rd r) (rd q) = decide (r = q) := by
  unfold rd
  rw [PyData.eqv, eqv_ints]
section
variable {K : PySem.W.Frag} {H : Hp}
theorem dp_ints : ∀ r : List Int, DpAll K H (r.map V.int) (r.map PyData.int)
  | [] => .nil
  | i :: r => .cons (.int i) (dp_ints r)
theorem IsRow.dp {x : V} {r : List Int} (h : IsRow H x r) : Dp K H x (rd r) := by
  obtain ⟨b, rfl, hb⟩ := h
  exact .tup (st_of hb) (dp_ints r)
theorem dp_rows : ∀ {xs : List V} {rs : List (List Int)}, Paired (IsRow H) xs rs → DpAll K H xs (rs.map rd)
  | _, _, .nil => .nil
  | _, _, .cons h t => .cons h.dp (dp_rows t)
end
/-! order -/
theorem code_inj {B : Int} : ∀ r q : List Int, r.length = q.length → TS.Bd B r → TS.Bd B q → TS.code B r = TS.code B q → r = q
  | [], [], _, _, _, _ => rfl
  | [], _ :: _, h, _, _, _ => by simp at h
  | _ :: _, [], h, _, _, _ => by simp at h
  | i :: r, j :: q, h, h1, h2, e => by
    have hl : r.length = q.length := by simpa using h
    rcases Int.lt_trichotomy i j with z | z | z
    · exact absurd e (Int.ne_of_lt (TS.code_lt hl h1.tail h2.tail z))
    · subst z
      have e2 : TS.code B r = TS.code B q := by
        have a := not_congr (TS.code_same (B := B) (d := i) hl)
        have b := not_congr (TS.code_same (B := B) (d := i) hl.symm)
        rw [e] at a b
        have a := a.mp (Int.lt_irrefl _)
        have b := b.mp (Int.lt_irrefl _)
        omega
      rw [code_inj r q hl h1.tail h2.tail e2]
    · exact absurd e.symm (Int.ne_of_lt (TS.code_lt hl.symm h2.tail h1.tail z))
theorem perm_map_inv {α β : Type} {f : α → β} {l₁ l₂ : List β} (h : l₁.Perm l₂) : ∀ ks : List α, l₂ = ks.map f → ∃ ks' : List α, ks'.Perm ks ∧ l₁ = ks'.map f := by
  induction h with
  | nil =>
    intro ks e
    have : ks = [] := List.map_eq_nil_iff.mp e.symm
    subst this
    exact ⟨[], .refl _, rfl⟩
  | cons x h ih =>
    intro ks e
    cases ks with
    | nil => cases e
    | cons k ks =>
      rw [List.map_cons, List.cons.injEq] at e
      obtain ⟨ks', p, e'⟩ := ih ks e.2
      exact ⟨k :: ks', p.cons k, by rw [List.map_cons, e', e.1]⟩
  | swap x y l =>
    intro ks e
    match ks, e with
    | [], e => cases e
    | [_], e => cases e
    | k1 :: k2 :: ks, e =>
      rw [List.map_cons, List.map_cons, List.cons.injEq, List.cons.injEq] at e
      exact ⟨k2 :: k1 :: ks, .swap _ _ _, by rw [List.map_cons, List.map_cons, e.1, e.2.1, e.2.2]⟩
  | trans _ _ ih1 ih2 =>
    intro ks e
    obtain ⟨k2, p2, e2⟩ := ih2 ks e
    obtain ⟨k1, p1, e1⟩ := ih1 k2 e2
    exact ⟨k1, p1.trans p2, e1⟩
theorem OkRow.bd {n : Nat} {r : List Int} (h : OkRow n r) : TS.Bd 1000 r := fun i hi => ⟨(h.2 i hi).1, by have := (h.2 i hi).2; omega⟩
def SortedRows (cs rs : List (List Int)) : Prop := cs.Perm rs ∧ cs.Pairwise (fun p q => TS.code 1000 p ≤ TS.code 1000 q)
theorem sorted_same {n : Nat} {cs ds rs qs : List (List Int)} (h1 : SortedRows cs rs) (h2 : SortedRows ds qs) (ho : ∀ r ∈ rs, OkRow n r) (pm : qs.Perm rs) : cs = ds := by
  have pd : cs.Perm ds := h1.1.trans (pm.symm.trans h2.1.symm)
  refine List.Perm.eq_of_pairwise (le := fun p q => TS.code 1000 p ≤ TS.code 1000 q) (fun p q hp hq a b => ?_) h1.2 h2.2 pd
  have o1 := ho p (h1.1.mem_iff.mp hp)
  have o2 := ho q (pm.mem_iff.mp (h2.1.mem_iff.mp hq))
  exact code_inj p q (o1.1.trans o2.1.symm) o1.bd o2.bd (Int.le_antisymm a b)
section
variable {K : PySem.W.Frag} {σ : L2.St} {H H' : Hp} {ta tb tc te tl tx : TE} {t u : TT} {x y z v : V} {r : R2} {P : Program} {w : World}
def NewRows (P : List (List Int) → Prop) (p : Addr) (H2 : Hp) : Prop := ∃ cs xs, P cs ∧ H2 p = some (.lst xs) ∧ Paired (IsRow H2) xs cs
theorem ef_sorted {n : Nat} {rs : List (List Int)} (ha : Ev ta σ H x) (hx : Rws H x rs) (ho : ∀ r ∈ rs, OkRow n r) (h60 : rs.length < 64) : EvF (tCB (rSortS K n 1000) (tCons ta tNil)) σ H (NewRows fun cs => SortedRows cs rs) := fun H1 e Q q =>
  ha H1 e _ fun H2 e2 => by
    obtain ⟨l, xs, rfl, hs, hp⟩ := hx.ex (e.trans e2)
    obtain ⟨ks, rfl, rfl, hk⟩ := rows_ks hp
    have hrow : ∀ x ∈ ks.map (fun p => V.ref p.1), ∃ ns, TupI K H2 x ns ∧ ns.length = n ∧ TS.Bd 1000 ns := fun x hx => by
      obtain ⟨p, hp, rfl⟩ := List.mem_map.mp hx
      have o := ho p.2 (List.mem_map_of_mem hp)
      exact ⟨p.2, ⟨p.1, rfl, st_of (hk p hp)⟩, o.1, o.bd⟩
    have hlen : (ks.map (fun p => V.ref p.1)).length < 64 := by
      rw [List.length_map] at h60 ⊢
      exact h60
    have fin : ∀ (ys : List V) (p : Addr), ys.Perm (ks.map (fun p => V.ref p.1)) → ys.Pairwise (fun x y => ∀ n m, TupI K H2 x n → TupI K H2 y m → TS.code 1000 n ≤ TS.code 1000 m) → H2 p = none → Q (.ref p) (upd H2 p (.lst ys)) := fun ys p pm pw hn => by
      obtain ⟨ks', pk, rfl⟩ := perm_map_inv pm ks rfl
      have ex : Ex H2 (upd H2 p (.lst (ks'.map fun p => V.ref p.1))) := Ex.new hn
      have hk' : ∀ q ∈ ks', H2 q.1 = some (.tup (q.2.map V.int)) := fun q hq => hk q (pk.mem_iff.mp hq)
      refine q p _ (fresh_back e2 hn) (e2.trans ex) ⟨ks'.map (·.2), ks'.map (fun p => V.ref p.1), ⟨pk.map _, ?_⟩, upd_same, ?_⟩
      · rw [List.pairwise_map] at pw ⊢
        refine List.Pairwise.imp_of_mem (fun {a b} ha hb h => h a.2 b.2 ⟨a.1, rfl, st_of (hk' a ha)⟩ ⟨b.1, rfl, st_of (hk' b hb)⟩) pw
      · have : ∀ l : List (Addr × List Int), (∀ q ∈ l, H2 q.1 = some (.tup (q.2.map V.int))) → Paired (IsRow (upd H2 p (.lst (ks'.map fun p => V.ref p.1)))) (l.map fun p => V.ref p.1) (l.map (·.2)) := by
          intro l
          induction l with
          | nil => exact fun _ => .nil
          | cons a l ih => exact fun h => .cons ⟨a.1, rfl, ex _ _ (h a List.mem_cons_self)⟩ (ih fun q hq => h q (List.mem_cons_of_mem _ hq))
        exact this ks' hk'
    rcases hs with hs | hs
    · exact .inl ⟨l, _, rfl, sq_of hs, hlen, hrow, fin⟩
    · exact .inr ⟨l, _, rfl, st_of hs, hlen, hrow, fin⟩
/-- sorted(xs) != sorted(ys) of the same rows is false -/
theorem et_sortedNe {n : Nat} {rs qs : List (List Int)} (ha : Ev ta σ H x) (hx : Rws H x rs) (hb : Ev tb σ H y) (hy : Rws H y qs) (ho : ∀ r ∈ rs, OkRow n r) (h60 : rs.length < 64) (pm : qs.Perm rs) :
    EvT (tTest (tOp (rNeD K) (tCB (rSortS K n 1000) (tCons ta tNil)) (tCB (rSortS K n 1000) (tCons tb tNil)))) σ H false := fun H1 e Q q =>
  ef_sorted ha hx ho h60 H1 e _ fun p H2 _ e2 ⟨cs, xs, h1, h2, h3⟩ =>
    ef_sorted hb hy (fun r hr => ho r (pm.mem_iff.mp hr)) (by rw [pm.length_eq]; exact h60) H2 (e.trans e2) _ fun p' H3 _ e3 ⟨ds, ys, g1, g2, g3⟩ => by
      have e0 : cs = ds := sorted_same h1 g1 ho pm
      subst e0
      refine ⟨.list (cs.map rd), .list (cs.map rd), .lst (sq_of (e3 _ _ h2)) (dp_rows (Paired.imp (fun _ _ z => z.ex e3) h3)), .lst (sq_of g2) (dp_rows g3), shaped_rows _, shaped_rows _, false, ?_, q H3 (e2.trans e3)⟩
      rw [SeqAt.eqv_refl _ (SeqAt.canLay_of_shaped (shaped_rows cs))] <;> rfl
end
section
variable {P : Program} {w : World} {K : PySem.W.Frag} {mg : Str → Option Value} {base : Heap} {a : Nat → Addr} {d : Nat → FuncData} {tk : Nat → Tok}
/-! need_pair -/
def sp_need_pair : Sp := fun vs H Q _ => ∃ (x y : V) (rs qs : List (List Int)) (n : Nat), vs = [x, y] ∧ Rws H x rs ∧ Rws H y qs ∧ OkRows n rs ∧ qs.Perm rs ∧ RetV .non H Q
theorem OkRows.perm {n : Nat} {rs qs : List (List Int)} (h : OkRows n rs) (p : qs.Perm rs) : OkRows n qs := ⟨h.w1, h.w5, p.nodup_iff.mpr h.nd, fun r hr => h.row r (p.mem_iff.mp hr), by rw [p.length_eq]; exact h.few⟩
theorem ok_need_pair (T : All K mg a d tk) : FnOk P w K mg base CX0 6 (a 6) (d 6) ["one", "other"] sp_need_pair := by
  refine T.F_need_pair.fn.ok sc_need_pair (fun vs H Q E h => ?_) (fun cdv A outer s H vs Q E hr h => ?_)
  · obtain ⟨x, y, rs, qs, n, rfl, _⟩ := h
    rfl
  · obtain ⟨x, y, rs, qs, dd, rfl, hx, hy, ho, pm, k⟩ := h
    have nd := sc_need_pair.nd
    have hu64 := hr.units
    have hdd := ho.w1
    refine ⟨_, (pss_cons (ps_expr (pe_call (ok_need_rows T) (hr.mono (by decide)) rfl T.F_need_rows.m T.F_need_rows.kp T.F_need_rows.b .nil pass0 (pa_cons (pv 0) pa_nil)))
 (pss_cons (ps_expr (pe_call (ok_need_rows T) (hr.mono (by decide)) rfl T.F_need_rows.m T.F_need_rows.kp T.F_need_rows.b .nil pass0 (pa_cons (pv 1) pa_nil)))
 (pss_one (ps_if (pt_cmpR (op_neD hu64) (pe_callB (cr_sortS (d := dd) (B := 1000) hdd) (by rfl) T.n_sorted PyProof.Rows.boot_sorted (pa_cons (pv 0) pa_nil)) (pe_callB (cr_sortS (d := dd) (B := 1000) hdd) (by rfl) T.n_sorted PyProof.Rows.boot_sorted (pa_cons (pv 1) pa_nil)) (nomark _))
 (pss_one ps_dead)
 pss_nil)))), ?_⟩
    refine q_drop (ev_call (ea_cons (ev_var rfl) ea_nil) (spv_need_rows hx ho)) fun H1 e1 => ?_
    refine q_drop (ev_call (ea_cons (ev_var rfl) ea_nil) (spv_need_rows (hy.ex e1) (ho.perm pm))) fun H2 e2 => ?_
    have e12 := e1.trans e2
    exact s_when (et_sortedNe (ev_var rfl) (hx.ex e12) (ev_var rfl) (hy.ex e12) ho.row (by have := ho.few; omega) pm) (fun h => nomatch h) fun _ H3 e3 => k H3 (e12.trans e3)
theorem spv_need_pair {x y : V} {rs qs : List (List Int)} {n : Nat} {H : Hp} (h1 : Rws H x rs) (h2 : Rws H y qs) (ho : OkRows n rs) (pm : qs.Perm rs) : SpV sp_need_pair [x, y] H .non := fun H1 e Q q _ => ⟨x, y, rs, qs, n, rfl, h1.ex e, h2.ex e, ho, pm, q⟩
end
end Mv
/-! need_lists, places_of; dicts of rows. -/
namespace Mv
open PySem PySem.Spec PyProof.Rows L2 Evl
section
variable {K : PySem.W.Frag} {σ : L2.St} {H H' : Hp} {ta tb tc te tl tx : TE} {t u : TT} {x y z v : V} {r : R2} {P : Program} {w : World} {D : Ends} {tu tz : TS}
theorem Seq.sqL {a : Addr} {xs : List V} (h : H a = some (.lst xs)) : SqL K H a xs := sq_of h
/-- for x in xs, a list or a tuple that stays -/
theorem s_forS {a : Addr} {xs : List V} {j : Nat} (h : Ev tl σ H (.ref a)) (hx : Seq H a xs) (Pv : Nat → L2.St → Hp → Prop) (h0 : ∀ H1, Ex H H1 → Pv 0 σ H1) (hl : ∀ i σ' H', i ≤ xs.length → Pv i σ' H' → H' a = H a)
    (hs : ∀ i x σ' H', xs[i]? = some x → Pv i σ' H' → tu { D with nx := Pv (i + 1), ct := Pv (i + 1), bk := D.nx } (σ'.set j (some x)) H') (hd : ∀ σ' H', Pv xs.length σ' H' → D.nx σ' H') : tFor (iSeq K tl) (gName j) tu D σ H := by
  rcases hx with hx | hx
  · exact .inl (h H (Ex.refl H) _ fun H1 e => ⟨a, rfl, ⟨xs, ex_l e (sq_of hx)⟩, for_list Pv (h0 H1 e) (fun i σ' H' hi p => sq_of ((hl i σ' H' hi p).trans hx)) hs hd⟩)
  · exact .inr (h H (Ex.refl H) _ fun H1 e => ⟨a, rfl, ⟨xs, ex_t e (st_of hx)⟩, for_tup Pv (h0 H1 e) (fun i σ' H' hi p => st_of ((hl i σ' H' hi p).trans hx)) hs hd⟩)
theorem q_forS {a : Addr} {xs : List V} {j : Nat} (h : Ev tl σ H (.ref a)) (hx : Seq H a xs) (Pv : Nat → L2.St → Hp → Prop) (h0 : ∀ H1, Ex H H1 → Pv 0 σ H1) (hl : ∀ i σ' H', i ≤ xs.length → Pv i σ' H' → H' a = H a)
    (hs : ∀ i x σ' H', xs[i]? = some x → Pv i σ' H' → tu { D with nx := Pv (i + 1), ct := Pv (i + 1), bk := tz D } (σ'.set j (some x)) H') (hd : ∀ σ' H', Pv xs.length σ' H' → tz D σ' H') : tSeq (tFor (iSeq K tl) (gName j) tu) tz D σ H :=
  s_forS (D := { D with nx := tz D }) h hx Pv h0 hl hs hd
theorem rv_ixS {p : Addr} {xs : List V} {i : Int} (h : Seq H p xs) (ha : atI xs i = some v) : RV (rIx K) (.ref p) (.int i) H v := fun H1 e _ q => by
  rcases h.ex e with h | h
  · exact .inl ⟨p, xs, i, v, rfl, rfl, sq_of h, ha, q H1 (Ex.refl H1)⟩
  · exact .inr (.inl ⟨p, xs, i, v, rfl, rfl, st_of h, ha, q H1 (Ex.refl H1)⟩)
theorem ev_ixS {p : Addr} {xs : List V} {i : Int} (ha : Ev ta σ H (.ref p)) (hb : Ev tb σ H (.int i)) (h : Seq H p xs) (hi : atI xs i = some v) : Ev (tOp (rIx K) ta tb) σ H v := ev_op ha hb (rv_ixS h hi)
theorem Seq.keep {a : Addr} {xs : List V} (h : Seq H a xs) (e : H' a = H a) : Seq H' a xs := h.elim (fun z => .inl (e.trans z)) fun z => .inr (e.trans z)
end
/-- the lists that the program takes: one to six, the same rows in each -/
structure OkLists (n : Nat) (Ls : List (List (List Int))) : Prop where
  ne : Ls ≠ []
  six : Ls.length ≤ 6
  ok : ∀ rs ∈ Ls, OkRows n rs
  pm : ∀ rs ∈ Ls, ∀ qs ∈ Ls, qs.Perm rs
section
variable {P : Program} {w : World} {K : PySem.W.Frag} {mg : Str → Option Value} {base : Heap} {a : Nat → Addr} {d : Nat → FuncData} {tk : Nat → Tok}
/-! need_lists -/
end
/-! dicts by rows -/
def ky (r : List Int) : List Key := r.map Sum.inl
theorem ky_kV (r : List Int) : (ky r).map kV = r.map V.int := by
  unfold ky
  rw [List.map_map]
  rfl
theorem ky_inj {r q : List Int} (h : ky r = ky q) : r = q := by
  unfold ky at h
  induction r generalizing q with
  | nil =>
    cases q with
    | nil => rfl
    | cons _ _ => cases h
  | cons i r ih =>
    cases q with
    | nil => cases h
    | cons j q =>
      rw [List.map_cons, List.map_cons, List.cons.injEq] at h
      have e := h.1
      cases e
      rw [ih h.2]
def dtab (rs : List (List Int)) (f : List Int → V) : List (List Key × V) := rs.map fun r => (ky r, f r)
theorem dtab_len (rs : List (List Int)) (f : List Int → V) : (dtab rs f).length = rs.length := List.length_map _
theorem dtab_val (f : List Int → V) (r : List Int) : ∀ rs : List (List Int), valV (dtab rs f) (ky r) = if r ∈ rs then some (f r) else none
  | [] => rfl
  | q :: rs => by
    show valV ((ky q, f q) :: dtab rs f) (ky r) = _
    by_cases e : q = r
    · subst e
      rw [valV_pos rfl, if_pos List.mem_cons_self]
    · rw [valV_neg (fun z => e (ky_inj z)), dtab_val f r rs]
      by_cases h : r ∈ rs
      · rw [if_pos h, if_pos (List.mem_cons_of_mem _ h)]
      · rw [if_neg h, if_neg (fun z => h ((List.mem_cons.mp z).resolve_left fun z => e z.symm))]
theorem dtab_congr {f g : List Int → V} {rs : List (List Int)} (h : ∀ r ∈ rs, f r = g r) : dtab rs f = dtab rs g := List.map_congr_left fun r hr => by rw [h r hr]
def fset (f : List Int → V) (r : List Int) (v : V) : List Int → V := fun q => if q = r then v else f q
theorem dtab_put_old {rs : List (List Int)} {f : List Int → V} {r : List Int} {v : V} (h : r ∈ rs) : putK (dtab rs f) (ky r) v = dtab rs (fset f r v) := by
  unfold putK
  rw [valV_any, dtab_val, if_pos h]
  show (if true = true then _ else _) = _
  rw [if_pos rfl]
  unfold dtab
  rw [List.map_map]
  refine List.map_congr_left fun q _ => ?_
  show (if ky q = ky r then (ky q, v) else (ky q, f q)) = (ky q, fset f r v q)
  unfold fset
  by_cases e : q = r
  · rw [if_pos (by rw [e]), if_pos e]
  · rw [if_neg (fun z => e (ky_inj z)), if_neg e]
theorem dtab_put_new {rs : List (List Int)} {f : List Int → V} {r : List Int} {v : V} (h : r ∉ rs) : putK (dtab rs f) (ky r) v = dtab (rs ++ [r]) (fset f r v) := by
  rw [putK_new v (by rw [dtab_val, if_neg h])]
  unfold dtab
  rw [List.map_append]
  congr 1
  · refine List.map_congr_left fun q hq => ?_
    unfold fset
    rw [if_neg (fun (z : q = r) => h (z ▸ hq))]
  · show [(ky r, v)] = [(ky r, fset f r v r)]
    unfold fset
    rw [if_pos rfl]
theorem IsRow.key {H : Hp} {x : V} {r : List Int} (h : IsRow H x r) : ∃ b, x = .ref b ∧ H b = some (.tup ((ky r).map kV)) := by
  obtain ⟨b, e, hb⟩ := h
  exact ⟨b, e, by rw [ky_kV]; exact hb⟩
theorem dget_row {H : Hp} {p : Addr} {rs : List (List Int)} {f : List Int → V} {x : V} {r : List Int} (hp : H p = some (.dT (dtab rs f))) (hx : IsRow H x r) (hr : r ∈ rs) : DGet H p x (some (f r)) := by
  obtain ⟨b, rfl, hb⟩ := hx.key
  have z := DGet.t hp hb
  rwa [dtab_val, if_pos hr] at z
theorem dput_old {H : Hp} {p : Addr} {rs : List (List Int)} {f : List Int → V} {x v : V} {r : List Int} (hp : H p = some (.dT (dtab rs f))) (hx : IsRow H x r) (hr : r ∈ rs) (hl : rs.length ≤ 100) : DPut H p x v (upd H p (.dT (dtab rs (fset f r v)))) := by
  obtain ⟨b, rfl, hb⟩ := hx.key
  have z := DPut.t (v := v) hp hb (by rw [dtab_len]; exact sz_lt (by omega))
  rwa [dtab_put_old hr] at z
theorem dput_new {H : Hp} {p : Addr} {rs : List (List Int)} {f : List Int → V} {x v : V} {r : List Int} (hp : H p = some (.dT (dtab rs f))) (hx : IsRow H x r) (hr : r ∉ rs) (hl : rs.length ≤ 100) : DPut H p x v (upd H p (.dT (dtab (rs ++ [r]) (fset f r v)))) := by
  obtain ⟨b, rfl, hb⟩ := hx.key
  have z := DPut.t (v := v) hp hb (by rw [dtab_len]; exact sz_lt (by omega))
  rwa [dtab_put_new hr] at z
section
variable {K : PySem.W.Frag} {σ : L2.St} {H H' : Hp} {ta tb tc te tl tx : TE} {t u : TT} {x y z v : V}
theorem ev_dget {p : Addr} {rs : List (List Int)} {f : List Int → V} {r : List Int} (ha : Ev ta σ H (.ref p)) (hb : Ev tb σ H x) (hp : H p = some (.dT (dtab rs f))) (hx : IsRow H x r) (hr : r ∈ rs) : Ev (tDGet ta tb) σ H (f r) :=
  fun H1 e Q q => ha H1 e _ fun H2 e2 => hb H2 (e.trans e2) _ fun H3 e3 => ⟨p, f r, rfl, dget_row (((e.trans e2).trans e3) _ _ hp) (hx.ex ((e.trans e2).trans e3)) hr, q H3 (e2.trans e3)⟩
end
section
variable {P : Program} {w : World} {K : PySem.W.Frag} {mg : Str → Option Value} {base : Heap} {a : Nat → Addr} {d : Nat → FuncData} {tk : Nat → Tok}
/-! places_of -/
def plc (rs : List (List Int)) : List Int → V := fun r => .int (rs.idxOf r : Nat)
theorem idxOf_at {rs : List (List Int)} (hn : rs.Nodup) {i : Nat} {r : List Int} (h : rs[i]? = some r) : rs.idxOf r = i := by
  obtain ⟨hi, rfl⟩ := List.getElem?_eq_some_iff.mp h
  exact hn.idxOf_getElem i hi
def sp_places_of : Sp := fun vs H Q _ => ∃ (x : V) (rs : List (List Int)), vs = [x] ∧ Rws H x rs ∧ rs.Nodup ∧ rs.length ≤ 60 ∧ ∀ p H2, H p = none → Ex H H2 → H2 p = some (.dT (dtab rs (plc rs))) → Q (.ref p) H2
theorem ok_places_of (T : All K mg a d tk) : FnOk P w K mg base CX0 1 (a 7) (d 7) ["rows"] sp_places_of := by
  refine T.F_places_of.fn.ok sc_places_of (fun vs H Q E h => ?_) (fun cdv A outer s H vs Q E hr h => ?_)
  · obtain ⟨x, rs, rfl, _⟩ := h
    rfl
  · obtain ⟨x, rs, rfl, hx, hn, h60, k⟩ := h
    have nd := sc_places_of.nd
    have hu0 := hr.units0
    refine ⟨_, (pss_one (ps_ret (pe_dcT (own := [("place", 1), ("row", 2)]) (g := (gTup K 2 (gCons (gName 1) (gCons (gName 2) gNil)))) hu0 rfl nd (pi_enumS rfl T.n_enumerate (pa_cons (pv 0) pa_nil)) (blkOk_by (N := N_places_of) (sc := defScope s_places_of) (by decide +kernel)) (fun _ _ _ _ _ => (pg_tup rfl (pgs_cons (pg_name (i := 1) nd rfl (Or.inl rfl)) (pgs_cons (pg_name (i := 2) nd rfl (Or.inl rfl)) pgs_nil)))) (fun _ _ _ _ _ => pts_nil) (fun _ _ _ _ _ => (pv 2)) (fun _ _ _ _ _ => (pv 1))))), ?_⟩
    obtain ⟨p, xs, rfl, hs, hp⟩ := id hx
    have hlen : xs.length = rs.length := Paired.length hp
    let Pv : Addr → Nat → Hp → Prop := fun D i H' => H D = none ∧ Ex H H' ∧ H' D = some (.dT (dtab (rs.take i) (plc rs)))
    have turn : ∀ (D : Addr) (i : Nat) (y : V) (H' H'' : Hp), i < xs.length → Pv D i H' → YPair (fun i => some (.int (i : Nat))) (fun i => xs[i]?) i H' y H'' →
        gTup K 2 (gCons (gName 1) (gCons (gName 2) gNil)) y (wipe (start N_places_of [.ref p]) [1, 2]) H'' fun σ2 H2 => wipe σ2 [1, 2] = wipe (start N_places_of [.ref p]) [1, 2] ∧ kDict (tVar 2) (tVar 1) D σ2 H2 (Pv D (i + 1)) := by
      rintro D i y H' H'' hi ⟨hD, ex, hd⟩ ⟨T2, x1, x2, rfl, hT, rfl, e1, e2⟩
      cases e1
      have exT : Ex H' (upd H' T2 (.tup [.int (i : Nat), x2])) := Ex.new hT
      obtain ⟨r, hr, hrow⟩ := Paired.at_l hp i x2 e2
      have hnr : r ∉ rs.take i := fun hm => by
        obtain ⟨j, hj, ej⟩ := List.mem_iff_getElem.mp hm
        have hj2 : j < i := by rw [List.length_take] at hj; omega
        have g : rs[j]? = some r := by
          rw [List.getElem_take] at ej
          rw [← ej]
          exact List.getElem?_eq_getElem _
        have a1 := idxOf_at hn g
        have a2 := idxOf_at hn hr
        omega
      refine ⟨T2, _, rfl, st_of upd_same, rfl, _, _, rfl, _, _, rfl, rfl, rfl, x2, rfl, .int (i : Nat), rfl, _, dput_new (exT _ _ hd) (hrow.ex (ex.trans exT)) hnr (by rw [List.length_take]; omega), hD, Ex.mut (ex.trans exT) hD, ?_⟩
      rw [upd_same]
      have et : rs.take (i + 1) = rs.take i ++ [r] := take_next hr
      rw [et]
      refine congrArg (fun z => some (HO.dT z)) (dtab_congr fun q hq => ?_)
      unfold fset
      by_cases e : q = r
      · rw [if_pos e, e]
        unfold plc
        rw [idxOf_at hn hr]
      · rw [if_neg e]
    have fin : ∀ D H', Pv D xs.length H' → Q (.ref D) H' := fun D H' ⟨hD, ex, hd⟩ => by
      rw [hlen, List.take_length] at hd
      exact k D H' hD ex hd
    rcases hs with hs | hs
    · refine .inl ⟨_, rfl, p, xs, rfl, sq_of hs, fun D hD => ?_⟩
      exact cm_it (walk_enum (K := K) (a := p) (xs := xs)) (Pv D) ⟨hD, Ex.new hD, upd_same⟩ (fun i H' _ ⟨_, e, _⟩ => sq_of (e _ _ hs)) (fun i y H' H'' hi pv yy => turn D i y H' H'' hi pv yy) fun H' pv => fin D H' pv
    · refine .inr ⟨_, rfl, p, xs, rfl, st_of hs, fun D hD => ?_⟩
      exact cm_it (walk_enumU (K := K) (a := p) (xs := xs)) (Pv D) ⟨hD, Ex.new hD, upd_same⟩ (fun i H' _ ⟨_, e, _⟩ => st_of (e _ _ hs)) (fun i y H' H'' hi pv yy => turn D i y H' H'' hi pv yy) fun H' pv => fin D H' pv
end
end Mv
/-! levels_of. -/
namespace Mv
open PySem PySem.Spec PyProof.Rows L2 Evl
/-- q stands ahead of r in every list -/
def Ah (Ls : List (List (List Int))) (q r : List Int) : Bool := Ls.all fun L => decide (L.idxOf q < L.idxOf r)
theorem Ah.lt {Ls : List (List (List Int))} {q r : List Int} {L : List (List Int)} (h : Ah Ls q r = true) (hL : L ∈ Ls) : L.idxOf q < L.idxOf r := of_decide_eq_true (List.all_eq_true.mp h L hL)
structure LevOn (Ls : List (List (List Int))) (S : List (List Int)) (lev : List Int → Nat) (ahd : List Int → Option (List Int)) : Prop where
  lt : ∀ r ∈ S, ∀ q ∈ S, Ah Ls q r = true → lev q < lev r
  how : ∀ r ∈ S, (lev r = 0 ∧ ahd r = none) ∨ ∃ q ∈ S, Ah Ls q r = true ∧ lev r = lev q + 1 ∧ ahd r = some q
def nset {α : Type} (f : List Int → α) (r : List Int) (c : α) : List Int → α := fun q => if q = r then c else f q
theorem nset_same {α : Type} {f : List Int → α} {r : List Int} {c : α} : nset f r c r = c := if_pos rfl
theorem nset_ne {α : Type} {f : List Int → α} {r q : List Int} {c : α} (h : q ≠ r) : nset f r c q = f q := if_neg h
/-- what the inner loop knows: c the level, o the one ahead, of r among T -/
structure Inner (Ls : List (List (List Int))) (S T : List (List Int)) (lev : List Int → Nat) (r : List Int) (c : Nat) (o : Option (List Int)) : Prop where
  lt : ∀ q ∈ T, q ≠ r → Ah Ls q r = true → lev q < c
  how : (c = 0 ∧ o = none) ∨ ∃ q ∈ S, Ah Ls q r = true ∧ c = lev q + 1 ∧ o = some q
theorem LevOn.snoc {Ls : List (List (List Int))} {S : List (List Int)} {lev : List Int → Nat} {ahd : List Int → Option (List Int)} {r : List Int} {c : Nat} {o : Option (List Int)} (h : LevOn Ls S lev ahd) (hr : r ∉ S) (irr : Ah Ls r r = false) (back : ∀ q ∈ S, Ah Ls r q = false)
    (i : Inner Ls S S lev r c o) : LevOn Ls (S ++ [r]) (nset lev r c) (nset ahd r o) where
  lt := fun r2 h2 q2 h1 ha => by
    have m : ∀ {q : List Int}, q ∈ S → q ≠ r := fun hq e => hr (e ▸ hq)
    rcases List.mem_append.mp h2 with h2 | h2
    · rcases List.mem_append.mp h1 with h1 | h1
      · rw [nset_ne (m h1), nset_ne (m h2)]
        exact h.lt r2 h2 q2 h1 ha
      · rw [List.mem_singleton.mp h1, back r2 h2] at ha
        cases ha
    · have e2 := List.mem_singleton.mp h2
      subst e2
      rcases List.mem_append.mp h1 with h1 | h1
      · rw [nset_ne (m h1), nset_same]
        exact i.lt q2 h1 (m h1) ha
      · rw [List.mem_singleton.mp h1, irr] at ha
        cases ha
  how := fun r2 h2 => by
    have m : ∀ {q : List Int}, q ∈ S → q ≠ r := fun hq e => hr (e ▸ hq)
    rcases List.mem_append.mp h2 with h2 | h2
    · rw [nset_ne (m h2), nset_ne (m h2)]
      rcases h.how r2 h2 with z | ⟨q, hq, h3, h4, h5⟩
      · exact .inl z
      · exact .inr ⟨q, List.mem_append_left _ hq, h3, by rw [nset_ne (m hq)]; exact h4, h5⟩
    · have e2 := List.mem_singleton.mp h2
      subst e2
      rw [nset_same, nset_same]
      rcases i.how with z | ⟨q, hq, h3, h4, h5⟩
      · exact .inl z
      · exact .inr ⟨q, List.mem_append_left _ hq, h3, by rw [nset_ne (m hq)]; exact h4, h5⟩
def AhV (H : Hp) (v : V) : Option (List Int) → Prop
  | none => v = .non
  | some q => IsRow H v q
theorem AhV.ex {H H' : Hp} {v : V} {o : Option (List Int)} (h : AhV H v o) (e : Ex H H') : AhV H' v o := by
  cases o with
  | none => exact h
  | some q => exact IsRow.ex h e
theorem IsRow.upd {H : Hp} {v : V} {q : List Int} {p : Addr} {o o' : HO} (h : IsRow H v q) (hp : H p = some o) (ne : ∀ xs, o ≠ .tup xs) : IsRow (upd H p o') v q := by
  obtain ⟨b, e, hb⟩ := h
  refine ⟨b, e, (upd_ne fun z => ?_).trans hb⟩
  rw [z, hp] at hb
  exact ne _ (Option.some.inj hb)
theorem AhV.upd {H : Hp} {v : V} {o : Option (List Int)} {p : Addr} {u u' : HO} (h : AhV H v o) (hp : H p = some u) (ne : ∀ xs, u ≠ .tup xs) : AhV (L2.upd H p u') v o := by
  cases o with
  | none => exact h
  | some q => exact IsRow.upd h hp ne
theorem given_all (out : List V) : given out.length (fun _ => true) (fun i => out.getD i .non) = out := by
  have z := given_eq out (fun _ => true) (fun x => x)
  rw [filter_true, List.map_id'] at z
  exact z
section
variable {K : PySem.W.Frag} {σ : L2.St} {H H' : Hp} {ta tb tc te tl tx : TE} {t u : TT} {x y z v : V} {D : Ends}
/-- over a list, by what is given for each -/
theorem el_lcR {a : Addr} {xs out : List V} {j : Nat} {vs : List Nat} (h : Ev tl σ H (.ref a)) (hx : SqL K H a xs) (hz : xs.length ≤ 40000) (hl : xs.length = out.length) (hw : ∀ x, wipe ((wipe σ vs).set j (some x)) vs = wipe σ vs)
    (he : ∀ (i : Nat) (x y : V) H1, Ex H H1 → xs[i]? = some x → out[i]? = some y → Ev te ((wipe σ vs).set j (some x)) H1 y) : EvL (tLc (iList K tl) (gName j) tYes te vs) σ H out := by
  have z := el_lcL (K := K) (t := tYes) (te := te) (fun _ => true) (fun i => out.getD i .non) h hx hz hw (fun _ _ _ _ _ => et_yes) fun i x H1 e hi _ => by
    have hi2 : i < out.length := by rw [← hl]; exact (List.getElem?_eq_some_iff.mp hi).1
    refine he i x _ H1 e hi ?_
    rw [List.getD_eq_getElem?_getD, List.getElem?_eq_getElem hi2] <;> rfl
  rw [hl, given_all] at z
  exact z
/-- elements that are new objects -/
theorem lc_fresh {J : It} {n : Nat} {G : Hp → Prop} (f : Nat → V) (w : Walk J n G (fun i H x H' => H' = H ∧ f i = x)) {vs : List Nat} {H1 : Hp} {Dl : Addr} {j : Nat} {Qd : Hp → Prop} (hD : H1 Dl = none) (hn : n ≤ 1000) (hG : ∀ H', Ex H1 H' → G H') (hw : ∀ x, wipe ((wipe σ vs).set j (some x)) vs = wipe σ vs) (O : Nat → HO → Prop)
    (he : ∀ i, i < n → ∀ H', Ex H1 H' → ∀ Q : VK, (∀ p H2, H' p = none → Ex H' H2 → (∃ o, H2 p = some o ∧ O i o) → Q (.ref p) H2) → te ((wipe σ vs).set j (some (f i))) H' Q)
    (hd : ∀ H' ys, Ex H1 H' → H' Dl = some (.lst ys) → ys.length = n → (∀ (i : Nat) (y : V), ys[i]? = some y → ∃ q o, y = .ref q ∧ H1 q = none ∧ q ≠ Dl ∧ H' q = some o ∧ O i o) → Qd H') :
    ∃ W : Nat → Nat → Hp → Prop, (∃ m, W 0 m (upd H1 Dl (.lst []))) ∧ ∀ i m H, W i m H →
      (J.stop i H ∧ Qd H) ∨ (J.go i H ∧ ∃ Nx : Hp → Prop, (∀ H', Nx H' → ∃ m', m' < m ∧ W (i + 1) m' H') ∧ ∀ x H', J.yld i H x H' → gName j x (wipe σ vs) H' fun σ2 H2 => wipe σ2 vs = wipe σ vs ∧ tYes σ2 H2 fun b H3 =>
        if b = true then te σ2 H3 fun y H4 => ∃ acc, H4 Dl = some (.lst acc) ∧ acc.length < sizeLine ∧ Nx (upd H4 Dl (.lst (acc ++ [y]))) else Nx H3) := by
  refine lc_it w (fun i H' => Ex H1 H' ∧ ∃ ys : List V, H' Dl = some (.lst ys) ∧ ys.length = i ∧ ∀ (k : Nat) (y : V), ys[k]? = some y → ∃ q o, y = .ref q ∧ H1 q = none ∧ q ≠ Dl ∧ H' q = some o ∧ O k o)
    ⟨Ex.new hD, [], upd_same, rfl, fun k y h => by simp at h⟩ (fun i H' _ p => hG H' p.1) ?_ fun H' ⟨e, ys, h1, h2, h3⟩ => hd H' ys e h1 h2 h3
  rintro i x H' H'' hi ⟨e, ys, h1, h2, h3⟩ ⟨rfl, rfl⟩
  refine ⟨hw _, ?_⟩
  show te _ _ _
  refine he i hi H'' e _ fun p H2 hp e2 ⟨o, ho, hO⟩ => ⟨ys, e2 _ _ h1, Nat.lt_of_le_of_lt (by rw [h2]; omega) (show 1000 < sizeLine by decide), Ex.mut (e.trans e2) hD, ys ++ [.ref p], upd_same, by rw [List.length_append, h2] <;> rfl, fun k y hk => ?_⟩
  have npD : p ≠ Dl := fun z => by rw [z, h1] at hp; cases hp
  rcases Nat.lt_or_ge k ys.length with hlt | hge
  · rw [List.getElem?_append_left hlt] at hk
    obtain ⟨q, o2, z1, z2, z3, z4, z5⟩ := h3 k y hk
    exact ⟨q, o2, z1, z2, z3, by rw [upd_ne z3]; exact e2 _ _ z4, z5⟩
  · rw [List.getElem?_append_right hge] at hk
    have hk0 : k = ys.length := by
      have := (List.getElem?_eq_some_iff.mp hk).1
      simp at this
      omega
    subst hk0
    rw [Nat.sub_self] at hk
    cases (Option.some.inj (show some _ = some y from hk))
    rw [h2]
    exact ⟨p, o, rfl, fresh_back e hp, npD, by rw [upd_ne npD]; exact ho, hO⟩
/-- two stores by one tuple -/
theorem s_put2 {i1 i2 ir : Nat} {p1 p2 : Addr} {v1 v2 : V} {ta : TA} (h : EvA ta σ H [v1, v2]) (h1 : σ[i1]? = some (some (.ref p1))) (h2 : σ[i2]? = some (some (.ref p2))) (hr : σ[ir]? = some (some x))
    (k : ∀ H1, Ex H H1 → ∃ H2 H3, DPut H1 p1 x v1 H2 ∧ DPut H2 p2 x v2 H3 ∧ D.nx σ H3) :
    tAsg (tTup ta) (gTup K 2 (gCons (gSub (tVar i1) (tVar ir) fun o i v H Q => ∃ (a : Addr) (H' : Hp), o = .ref a ∧ DPut H a i v H' ∧ Q H') (gCons (gSub (tVar i2) (tVar ir) fun o i v H Q => ∃ (a : Addr) (H' : Hp), o = .ref a ∧ DPut H a i v H' ∧ Q H') gNil))) D σ H := by
  refine h H (Ex.refl H) _ fun H1 e1 => ⟨sz_of (show 2 ≤ 100000 by decide), fun t ht => ?_⟩
  obtain ⟨H2, H3, q1, q2, q3⟩ := k _ (e1.trans (Ex.new (o := .tup [v1, v2]) ht))
  exact ⟨t, _, rfl, st_of upd_same, rfl, v1, _, rfl, _, h1, _, hr, p1, H2, rfl, q1, v2, _, rfl, _, h2, _, hr, p2, H3, rfl, q2, rfl, q3⟩
theorem q_put2 {i1 i2 ir : Nat} {p1 p2 : Addr} {v1 v2 : V} {ta : TA} {tz : TS} (h : EvA ta σ H [v1, v2]) (h1 : σ[i1]? = some (some (.ref p1))) (h2 : σ[i2]? = some (some (.ref p2))) (hr : σ[ir]? = some (some x))
    (k : ∀ H1, Ex H H1 → ∃ H2 H3, DPut H1 p1 x v1 H2 ∧ DPut H2 p2 x v2 H3 ∧ tz D σ H3) :
    tSeq (tAsg (tTup ta) (gTup K 2 (gCons (gSub (tVar i1) (tVar ir) fun o i v H Q => ∃ (a : Addr) (H' : Hp), o = .ref a ∧ DPut H a i v H' ∧ Q H') (gCons (gSub (tVar i2) (tVar ir) fun o i v H Q => ∃ (a : Addr) (H' : Hp), o = .ref a ∧ DPut H a i v H' ∧ Q H') gNil)))) tz D σ H := s_put2 (D := { D with nx := tz D }) h h1 h2 hr k
end
/-- the places' dicts of the lists -/
def PlcAt (H : Hp) (ys : List V) (Ls : List (List (List Int))) : Prop := Paired (fun y L => ∃ q, y = .ref q ∧ H q = some (.dT (dtab L (plc L)))) ys Ls
theorem PlcAt.ex {H H' : Hp} {ys : List V} {Ls : List (List (List Int))} (h : PlcAt H ys Ls) (e : Ex H H') : PlcAt H' ys Ls := Paired.imp (fun _ _ ⟨q, h1, h2⟩ => ⟨q, h1, e _ _ h2⟩) h
theorem paired_of {α β : Type} {F : α → β → Prop} : ∀ {xs : List α} {ys : List β}, xs.length = ys.length → (∀ (i : Nat) (x : α) (y : β), xs[i]? = some x → ys[i]? = some y → F x y) → Paired F xs ys
  | [], [], _, _ => .nil
  | [], _ :: _, h, _ => by simp at h
  | _ :: _, [], h, _ => by simp at h
  | x :: xs, y :: ys, h, f => .cons (f 0 x y rfl rfl) (paired_of (by simpa using h) fun i a b h1 h2 => f (i + 1) a b h1 h2)
section
variable {P : Program} {w : World} {K : PySem.W.Frag} {mg : Str → Option Value} {base : Heap} {a : Nat → Addr} {d : Nat → FuncData} {tk : Nat → Tok}
def LevRes (Ls : List (List (List Int))) (R : List (List Int)) (t : Addr) (H2 : Hp) : Prop := ∃ (p1 p2 : Addr) (lev : List Int → Nat) (ahd : List Int → Option (List Int)) (g : List Int → V), H2 t = some (.tup [.ref p1, .ref p2]) ∧ H2 p1 = some (.dT (dtab R fun r => .int (lev r : Nat))) ∧ H2 p2 = some (.dT (dtab R g)) ∧
  (∀ r ∈ R, AhV H2 (g r) (ahd r)) ∧ LevOn Ls R lev ahd
end
end Mv
/-! common_rows, common_levels. -/
namespace Mv
open PySem PySem.Spec PyProof.Rows L2 Evl
/-- each stands ahead of the next -/
def Chn (Ls : List (List (List Int))) : List (List Int) → Prop
  | [] => True
  | [_] => True
  | q :: r :: l => Ah Ls q r = true ∧ Chn Ls (r :: l)
def oLev (lev : List Int → Nat) : Option (List Int) → Nat
  | none => 0
  | some r => lev r + 1
structure IsCount (R : List (List Int)) (lev : List Int → Nat) (M : Nat) : Prop where
  lt : ∀ r ∈ R, lev r < M
  nil : R = [] → M = 0
  hit : R ≠ [] → ∃ r ∈ R, lev r + 1 = M
theorem Paired.append {α β : Type} {F : α → β → Prop} : ∀ {xs : List α} {ys : List β} {xs2 : List α} {ys2 : List β}, Paired F xs ys → Paired F xs2 ys2 → Paired F (xs ++ xs2) (ys ++ ys2)
  | _, _, _, _, .nil, q => q
  | _, _, _, _, .cons h t, q => .cons h (Paired.append t q)
theorem Paired.rev {α β : Type} {F : α → β → Prop} : ∀ {xs : List α} {ys : List β}, Paired F xs ys → Paired F xs.reverse ys.reverse
  | _, _, .nil => .nil
  | _, _, .cons h t => by
    rw [List.reverse_cons, List.reverse_cons]
    exact Paired.append (Paired.rev t) (.cons h .nil)
theorem Paired.filter {α β : Type} {F : α → β → Prop} {f : α → Bool} {g : β → Bool} : ∀ {xs : List α} {ys : List β}, Paired F xs ys → (∀ x ∈ xs, ∀ y, F x y → f x = g y) → Paired F (xs.filter f) (ys.filter g)
  | _, _, .nil, _ => .nil
  | x :: _, y :: _, .cons h t, e => by
    have ih := Paired.filter t fun a ha => e a (List.mem_cons_of_mem _ ha)
    have e1 := e x List.mem_cons_self y h
    cases hf : f x with
    | true =>
      rw [List.filter_cons, if_pos hf, List.filter_cons, if_pos (by rw [← e1]; exact hf)]
      exact .cons h ih
    | false =>
      rw [List.filter_cons, if_neg (by rw [hf]; decide), List.filter_cons, if_neg (by rw [← e1, hf]; decide)]
      exact ih
theorem map_int_inj : ∀ {r q : List Int}, r.map V.int = q.map V.int → r = q
  | [], [], _ => rfl
  | [], _ :: _, h => by cases h
  | _ :: _, [], h => by cases h
  | i :: r, j :: q, h => by
    rw [List.map_cons, List.map_cons, List.cons.injEq] at h
    have e := h.1
    cases e
    rw [map_int_inj h.2]
theorem IsRow.fn {H : Hp} {x : V} {r q : List Int} (h1 : IsRow H x r) (h2 : IsRow H x q) : r = q := by
  obtain ⟨b, rfl, hb⟩ := h1
  obtain ⟨c, e, hc⟩ := h2
  cases e
  rw [hb] at hc
  have z := Option.some.inj hc
  have z2 : r.map V.int = q.map V.int := by
    injection z
  exact map_int_inj z2
theorem IsRow.nn {H : Hp} {x : V} {r : List Int} (h : IsRow H x r) : x ≠ .non := by
  obtain ⟨b, rfl, _⟩ := h
  exact fun z => nomatch z
theorem AhV.non_iff {H : Hp} {v : V} {o : Option (List Int)} (h : AhV H v o) : decide (v = .non) = o.isNone := by
  cases o with
  | none => exact decide_eq_true h
  | some q => exact decide_eq_false (IsRow.nn h)
section
variable {K : PySem.W.Frag} {σ : L2.St} {H H' : Hp} {ta tb tc te tl tx : TE} {t u : TT} {x y z v : V} {D : Ends}
/-- while row is not None: found.append(row); row = ahead[row]; return found[::-1] -/
theorem chase {Ls : List (List (List Int))} {R : List (List Int)} {lev : List Int → Nat} {ahd : List Int → Option (List Int)} {g : List Int → V} {ia jf ir : Nat} {p2 fl : Addr} {B : Hp} {v0 : V} {o0 : Option (List Int)} {M : Nat}
    (L : LevOn Ls R lev ahd) (h60 : R.length ≤ 60) (h1 : σ[ia]? = some (some (.ref p2))) (h2 : σ[jf]? = some (some (.ref fl))) (h3 : σ[ir]? = some (some v0)) (n1 : ia ≠ ir) (n2 : jf ≠ ir) (eB : Ex B H) (nf : B fl = none) (hf : H fl = some (.lst [])) (hp2 : H p2 = some (.dT (dtab R g)))
    (hg : ∀ r ∈ R, AhV H (g r) (ahd r)) (hv : AhV H v0 o0) (ho : ∀ r, o0 = some r → r ∈ R) (hM : oLev lev o0 = M) (hM60 : M ≤ 1000)
    (k : ∀ p H2 ys ds, B p = none → Ex B H2 → H2 p = some (.lst ys) → Paired (IsRow H2) ys ds → Chn Ls ds → (∀ q ∈ ds, q ∈ R) → ds.length = M → D.rt (.ref p) H2) :
    tSeq (tWhile (tB (tNotN (tVar ir))) (tSeq (tDrop (tBM K "list" rAppend (tVar jf) (tCons (tVar ir) tNil))) (tAsg (tDGet (tVar ia) (tVar ir)) (gName ir)))) (tRet (tRevL K (tVar jf))) D σ H := by
  have hir : ir < σ.length := (List.getElem?_eq_some_iff.mp h3).1
  let W : Nat → L2.St → Hp → Prop := fun m σ' H' => Ex B H' ∧ H' p2 = some (.dT (dtab R g)) ∧ (∀ r ∈ R, AhV H' (g r) (ahd r)) ∧ ∃ (v : V) (o : Option (List Int)) (fs : List V) (ds : List (List Int)), σ' = σ.set ir (some v) ∧ AhV H' v o ∧ (∀ r, o = some r → r ∈ R) ∧ m = oLev lev o ∧
    H' fl = some (.lst fs) ∧ Paired (IsRow H') fs ds.reverse ∧ Chn Ls ds ∧ (∀ q ∈ ds, q ∈ R) ∧ ds.length + m = M ∧ (∀ r q l, o = some r → ds = q :: l → Ah Ls r q = true)
  have e0 : σ.set ir (some v0) = σ := by
    apply List.ext_getElem?
    intro i
    by_cases e : ir = i
    · subst e
      rw [List.getElem?_set_self hir, h3]
    · rw [List.getElem?_set_ne e]
  refine q_while W M ⟨eB, hp2, hg, v0, o0, [], [], e0.symm, hv, ho, hM.symm, hf, .nil, trivial, fun q hq => (by cases hq), Nat.zero_add _, fun r q l _ e => (by cases e)⟩ ?_
  rintro m σ' H' ⟨e', d2, dg, v, o, fs, ds, rfl, hv', ho', hm, hfs, hpr, hch, hmem, hlen, hlink⟩
  have gr : (σ.set ir (some v))[ir]? = some (some v) := List.getElem?_set_self hir
  have ga : (σ.set ir (some v))[ia]? = some (some (.ref p2)) := by rw [List.getElem?_set_ne (Ne.symm n1)]; exact h1
  have gf : (σ.set ir (some v))[jf]? = some (some (.ref fl)) := by rw [List.getElem?_set_ne (Ne.symm n2)]; exact h2
  refine ⟨!decide (v = .non), fun H1 e1 Q q => ⟨v, gr, _, rfl, q H1 (Ex.refl H1)⟩, fun hb H1 e1 => ?_, fun hb H1 e1 => ?_⟩
  · rw [AhV.non_iff hv'] at hb
    cases o with
    | none => cases hb
    | some r =>
      have hr : r ∈ R := ho' r rfl
      have hrow : IsRow H' v r := hv'
      have hm : m = lev r + 1 := hm
      refine ⟨fun σ2 H2 => ∃ m', m' < m ∧ W m' σ2 H2, fun _ _ h => h, ?_⟩
      refine q_app (e1 _ _ hfs) (ev_var gf) (ev_var gr) (by have a := Paired.length hpr; rw [List.length_reverse] at a; omega) fun H2 e2 => ?_
      have e12 := e1.trans e2
      have nt : ∀ xs', HO.lst fs ≠ .tup xs' := fun _ z => by cases z
      have mv : ∀ {x : V} {q : List Int}, IsRow H' x q → IsRow (upd H2 fl (.lst (fs ++ [v]))) x q := fun h => (h.ex e12).upd (e12 _ _ hfs) nt
      have mvA : ∀ {x : V} {o : Option (List Int)}, AhV H' x o → AhV (upd H2 fl (.lst (fs ++ [v]))) x o := fun h => AhV.upd (h.ex e12) (e12 _ _ hfs) nt
      have npf : p2 ≠ fl := fun z => by rw [z, hfs] at d2; cases d2
      have d2' : upd H2 fl (.lst (fs ++ [v])) p2 = some (.dT (dtab R g)) := by rw [upd_ne npf]; exact e12 _ _ d2
      refine s_asg (ev_dget (ev_var ga) (ev_var gr) d2' (mv hrow) hr) fun H3 e3 => ?_
      have hg' := mvA (dg r hr)
      have hlen' : ∀ m', (oLev lev (ahd r) = m') → m' = lev r := fun m' h => by
        rcases L.how r hr with ⟨z1, z2⟩ | ⟨q, _, _, z1, z2⟩
        · rw [z2] at h
          show m' = lev r
          rw [z1]; exact h.symm
        · rw [z2] at h
          rw [z1]; exact h.symm
      have hm' := hlen' _ rfl
      refine ⟨_, ?_, (Ex.mut (e'.trans e12) nf).trans e3, e3 _ _ d2', fun q hq => (mvA (dg q hq)).ex e3, g r, ahd r, fs ++ [v], r :: ds, ?_, hg'.ex e3, fun q hq => ?_, rfl, e3 _ _ upd_same, ?_, ?_, fun q hq => ?_, ?_, fun q q2 l hq he => ?_⟩
      · rw [hm', hm]; exact Nat.lt_succ_self _
      · rw [List.set_set]
      · rcases L.how r hr with ⟨_, z2⟩ | ⟨q', h1, _, _, z2⟩
        · rw [z2] at hq; cases hq
        · rw [z2] at hq; cases hq; exact h1
      · rw [List.reverse_cons]
        exact Paired.append (Paired.imp (fun _ _ h => (mv h).ex e3) hpr) (.cons ((mv hrow).ex e3) .nil)
      · cases ds with
        | nil => exact trivial
        | cons q l => exact ⟨hlink r q l rfl rfl, hch⟩
      · rcases List.mem_cons.mp hq with z | z
        · rw [z]; exact hr
        · exact hmem q z
      · rw [List.length_cons, hm']
        omega
      · cases he
        rcases L.how r hr with ⟨_, z2⟩ | ⟨q', _, h2, _, z2⟩
        · rw [z2] at hq; cases hq
        · rw [z2] at hq; cases hq; exact h2
  · rw [AhV.non_iff hv'] at hb
    cases o with
    | some r => cases hb
    | none =>
      have hm : m = 0 := hm
      refine ⟨_, gf, fl, fs, rfl, sq_of (e1 _ _ hfs), fun p hp => ?_⟩
      have eN : Ex H1 (upd H1 p (.lst fs.reverse)) := Ex.new hp
      refine k p _ fs.reverse ds (fresh_back (e'.trans e1) hp) ((e'.trans e1).trans eN) upd_same ?_ hch hmem (by omega)
      have z := Paired.rev hpr
      rw [List.reverse_reverse] at z
      exact Paired.imp (fun _ _ h => h.ex (e1.trans eN)) z
/-- the greatest value of a dict by rows -/
theorem ev_maxV {p : Addr} {R : List (List Int)} {lev : List Int → Nat} {m : Nat} (ha : Ev ta σ H (.ref p)) (hp : H p = some (.dT (dtab R fun r => .int (lev r : Nat)))) (hR : R ≠ []) (hm : ∃ r ∈ R, lev r = m) (hb : ∀ r ∈ R, lev r ≤ m) :
    Ev (tCB rMaxV (tCons (tBM0 K "dict" rValuesT ta) tNil)) σ H (.int (m : Int)) := fun H1 e Q q =>
  ha H1 e _ fun H2 e2 => ⟨.inr (.inr (.inl ⟨rfl, .inr ⟨_, (e.trans e2) _ _ hp⟩⟩)), p, _, rfl, rfl, (e.trans e2) _ _ hp, fun s hs => by
    have eN : Ex H2 (upd H2 s (valuesO s p)) := Ex.new hs
    refine ⟨s, p, _, R.map fun r => (lev r : Int), rfl, upd_same, eN _ _ ((e.trans e2) _ _ hp), ?_, fun z => hR (List.map_eq_nil_iff.mp z), fun mx hmx => ?_⟩
    · unfold dtab
      rw [List.map_map, List.map_map]
      rfl
    · obtain ⟨r0, h0, e0⟩ := hm
      obtain ⟨r1, h1, e1⟩ := List.mem_map.mp hmx.1
      have a1 := hmx.2 _ (List.mem_map_of_mem (f := fun r => (lev r : Int)) h0)
      have a2 := hb r1 h1
      have a1 : (lev r0 : Int) ≤ mx := a1
      have e1 : (lev r1 : Int) = mx := e1
      have em : mx = (m : Int) := by omega
      rw [em]
      exact q _ (e2.trans eN)⟩
theorem ev_maxVD {p : Addr} {R : List (List Int)} {lev : List Int → Nat} {M : Nat} (ha : Ev ta σ H (.ref p)) (hb : Ev tb σ H (.int (-1))) (hp : H p = some (.dT (dtab R fun r => .int (lev r : Nat)))) (hM : IsCount R lev M) :
    Ev (tCKw rMaxVD (tCons (tBM0 K "dict" rValuesT ta) tNil) (tCons tb tNil)) σ H (.int ((M : Int) - 1)) := fun H1 e Q q =>
  ha H1 e _ fun H2 e2 => ⟨.inr (.inr (.inl ⟨rfl, .inr ⟨_, (e.trans e2) _ _ hp⟩⟩)), p, _, rfl, rfl, (e.trans e2) _ _ hp, fun s hs => by
    have eN : Ex H2 (upd H2 s (valuesO s p)) := Ex.new hs
    refine hb _ ((e.trans e2).trans eN) _ fun H3 e3 => ?_
    refine ⟨s, p, _, R.map fun r => (lev r : Int), .int (-1), rfl, rfl, e3 _ _ upd_same, (eN.trans e3) _ _ ((e.trans e2) _ _ hp), ?_, fun z => ?_, fun mx hmx => ?_⟩
    · unfold dtab
      rw [List.map_map, List.map_map]
      rfl
    · rw [hM.nil (List.map_eq_nil_iff.mp z)] at q
      exact q _ ((e2.trans eN).trans e3)
    · obtain ⟨r1, h1, e1⟩ := List.mem_map.mp hmx.1
      obtain ⟨r0, h0, e0⟩ := hM.hit fun z => by rw [z] at h1; cases h1
      have a1 := hmx.2 _ (List.mem_map_of_mem (f := fun r => (lev r : Int)) h0)
      have a2 := hM.lt r1 h1
      have a1 : (lev r0 : Int) ≤ mx := a1
      have e1 : (lev r1 : Int) = mx := e1
      have em : mx = (M : Int) - 1 := by omega
      rw [em]
      exact q _ ((e2.trans eN).trans e3)⟩
theorem cutV_1 (xs : List V) : cutV xs none (some 1) = xs.take 1 := by
  unfold cutV
  show (xs.drop 0).take (HT.sIx xs.length xs.length (some ((1 : Nat) : Int)) - 0) = xs.take 1
  rw [HT.sIx_nat, List.drop_zero, Nat.sub_zero]
  cases xs with
  | nil => rfl
  | cons x l =>
    have : min 1 (x :: l).length = 1 := by rw [List.length_cons]; omega
    rw [this]
theorem el_slN {tl th : TO} {xs : List V} {lo hi : Option Int} (h : EvL te σ H xs) (h1 : EvO tl σ H lo) (h2 : EvO th σ H hi) : EvL (tSl (rSlL K) te tl th) σ H (cutV xs lo hi) := fun H1 e _ q =>
  h H1 e _ fun a H2 _ e2 hs => h1 H2 (e.trans e2) _ fun H3 e3 => h2 H3 ((e.trans e2).trans e3) _ fun H4 e4 =>
    ⟨a, xs, rfl, sq_of ((e3.trans e4) _ _ hs), fun p hp => q p _ (fresh_back ((e2.trans e3).trans e4) hp) (((e2.trans e3).trans e4).trans (Ex.new hp)) upd_same⟩
/-- xs != [] , xs == [] -/
theorem ev_neNil {a : Addr} {xs : List V} (ha : Ev ta σ H (.ref a)) (hx : SqL K H a xs) : Ev (tOp (rNilEq K true) ta (tLst tNil)) σ H (.bl (!xs.isEmpty)) := fun H1 e Q q =>
  ha H1 e _ fun H2 e2 => ⟨Nat.zero_le _, fun p hp => ⟨a, p, xs, rfl, rfl, ex_l ((e.trans e2).trans (Ex.new hp)) hx, sq_of upd_same, q _ (e2.trans (Ex.new hp))⟩⟩
theorem ev_eqNil {a : Addr} {xs : List V} (ha : Ev ta σ H (.ref a)) (hx : SqL K H a xs) : Ev (tOp (rNilEq K false) ta (tLst tNil)) σ H (.bl xs.isEmpty) := fun H1 e Q q =>
  ha H1 e _ fun H2 e2 => ⟨Nat.zero_le _, fun p hp => ⟨a, p, xs, rfl, rfl, ex_l ((e.trans e2).trans (Ex.new hp)) hx, sq_of upd_same, q _ (e2.trans (Ex.new hp))⟩⟩
theorem ev_neNilN {xs : List V} (ha : EvL ta σ H xs) : Ev (tOp (rNilEq K true) ta (tLst tNil)) σ H (.bl (!xs.isEmpty)) := fun H1 e Q q =>
  ha H1 e _ fun a H2 _ e2 hx => ⟨Nat.zero_le _, fun p hp => ⟨a, p, xs, rfl, rfl, sq_of ((Ex.new hp) _ _ hx), sq_of upd_same, q _ (e2.trans (Ex.new hp))⟩⟩
theorem ev_eqNilN {xs : List V} (ha : EvL ta σ H xs) : Ev (tOp (rNilEq K false) ta (tLst tNil)) σ H (.bl xs.isEmpty) := fun H1 e Q q =>
  ha H1 e _ fun a H2 _ e2 hx => ⟨Nat.zero_le _, fun p hp => ⟨a, p, xs, rfl, rfl, sq_of ((Ex.new hp) _ _ hx), sq_of upd_same, q _ (e2.trans (Ex.new hp))⟩⟩
theorem ev_ixL {p : Addr} {xs : List V} {i : Int} (ha : Ev ta σ H (.ref p)) (hb : Ev tb σ H (.int i)) (h : SqL K H p xs) (hi : atI xs i = some v) : Ev (tOp (rIxL K) ta tb) σ H v := ev_op ha hb (rv_ixL h hi)
end
open Classical in
/-- the filter by what a row is -/
noncomputable def byRow (H : Hp) (g : List Int → Bool) (x : V) : Bool := decide (∃ r, IsRow H x r ∧ g r = true)
open Classical in
theorem byRow_eq {H : Hp} {g : List Int → Bool} {x : V} {r : List Int} (h : IsRow H x r) : byRow H g x = g r := by
  unfold byRow
  cases e : g r with
  | true => exact decide_eq_true ⟨r, h, e⟩
  | false =>
    refine decide_eq_false fun ⟨q, hq, eq⟩ => ?_
    rw [← h.fn hq, e] at eq
    cases eq
theorem exists_count (R : List (List Int)) (lev : List Int → Nat) : ∃ M, IsCount R lev M := by
  induction R with
  | nil => exact ⟨0, ⟨fun r h => absurd h (by simp), fun _ => rfl, fun h => absurd rfl h⟩⟩
  | cons r R ih =>
    obtain ⟨M, hM⟩ := ih
    by_cases h : lev r + 1 ≤ M
    · refine ⟨M, ⟨fun q hq => ?_, fun z => absurd z (by simp), fun _ => ?_⟩⟩
      · rcases List.mem_cons.mp hq with z | z
        · rw [z]; exact h
        · exact hM.lt q z
      · have hne : R ≠ [] := fun z => by have := hM.nil z; omega
        obtain ⟨q, hq, e⟩ := hM.hit hne
        exact ⟨q, List.mem_cons_of_mem _ hq, e⟩
    · refine ⟨lev r + 1, ⟨fun q hq => ?_, fun z => absurd z (by simp), fun _ => ⟨r, List.mem_cons_self, rfl⟩⟩⟩
      rcases List.mem_cons.mp hq with z | z
      · rw [z]; exact Nat.lt_succ_self _
      · have := hM.lt q z; omega
theorem LevOn.bound {Ls : List (List (List Int))} {R : List (List Int)} {lev : List Int → Nat} {ahd : List Int → Option (List Int)} (L : LevOn Ls R lev ahd) {R0 : List (List Int)} (h0 : R0 ∈ Ls) : ∀ (k : Nat) (r : List Int), r ∈ R → R0.idxOf r = k → lev r ≤ k := by
  intro k
  induction k using Nat.strongRecOn with
  | ind k ih =>
    intro r hr e
    rcases L.how r hr with ⟨z, _⟩ | ⟨q, hq, h1, h2, _⟩
    · omega
    · have lt := Ah.lt h1 h0
      have := ih (R0.idxOf q) (by omega) q hq rfl
      omega
section
variable {P : Program} {w : World} {K : PySem.W.Frag} {mg : Str → Option Value} {base : Heap} {a : Nat → Addr} {d : Nat → FuncData} {tk : Nat → Tok}
theorem count_few {Ls : List (List (List Int))} {R : List (List Int)} {lev : List Int → Nat} {ahd : List Int → Option (List Int)} {M : Nat} (L : LevOn Ls R lev ahd) (hR : R ∈ Ls) (hM : IsCount R lev M) : M ≤ R.length := by
  rcases Classical.em (R = []) with z | z
  · rw [hM.nil z]; exact Nat.zero_le _
  · obtain ⟨r, hr, e⟩ := hM.hit z
    have a := L.bound hR (R.idxOf r) r hr rfl
    have b := List.idxOf_lt_length_iff.mpr hr
    omega
/-! common_rows -/
def RowsRes (Ls : List (List (List Int))) (R : List (List Int)) (p : Addr) (H2 : Hp) : Prop := ∃ (ys : List V) (ds : List (List Int)) (lev : List Int → Nat) (ahd : List Int → Option (List Int)) (M : Nat), H2 p = some (.lst ys) ∧ Paired (IsRow H2) ys ds ∧ Chn Ls ds ∧ (∀ q ∈ ds, q ∈ R) ∧ LevOn Ls R lev ahd ∧ IsCount R lev M ∧ ds.length = M
def sp_common_rows : Sp := fun vs H Q _ => ∃ (x : V) (Ls : List (List (List Int))) (R : List (List Int)) (n : Nat), vs = [x] ∧ Lss H x Ls ∧ OkLists n Ls ∧ Ls[0]? = some R ∧ ∀ p H2, H p = none → Ex H H2 → RowsRes Ls R p H2 → Q (.ref p) H2
/-! common_levels -/
def LevsRes (H : Hp) (Ls : List (List (List Int))) (R : List (List Int)) (p : Addr) (H2 : Hp) : Prop := ∃ (ys : List V) (lev : List Int → Nat) (ahd : List Int → Option (List Int)) (M : Nat), H2 p = some (.lst ys) ∧ ys.length = M ∧ LevOn Ls R lev ahd ∧ IsCount R lev M ∧
  ∀ (i : Nat) (y : V), ys[i]? = some y → ∃ q zs, y = .ref q ∧ H q = none ∧ H2 q = some (.lst zs) ∧ Paired (IsRow H2) zs (R.filter fun r => decide (lev r = i))
def sp_common_levels : Sp := fun vs H Q _ => ∃ (x : V) (Ls : List (List (List Int))) (R : List (List Int)) (n : Nat), vs = [x] ∧ Lss H x Ls ∧ OkLists n Ls ∧ Ls[0]? = some R ∧ ∀ p H2, H p = none → Ex H H2 → LevsRes H Ls R p H2 → Q (.ref p) H2
end
end Mv
/-! piles_of, longest_of, stays. -/
namespace Mv
open PySem PySem.Spec PyProof.Rows L2 Evl
/-- the piles' tops behind the rows S -/
structure Pls (rs qs S tops : List (List Int)) (lev : List Int → Nat) (ahd : List Int → Option (List Int)) : Prop where
  mem : ∀ (k : Nat) (t : List Int), tops[k]? = some t → t ∈ S ∧ lev t = k
  bd : ∀ r ∈ S, ∃ t, tops[lev r]? = some t ∧ qs.idxOf t ≤ qs.idxOf r
  inc : ∀ (k k' : Nat) (t t' : List Int), k < k' → tops[k]? = some t → tops[k']? = some t' → qs.idxOf t < qs.idxOf t'
  L : LevOn [rs, qs] S lev ahd
theorem idxOf_inj {qs : List (List Int)} {r t : List Int} (hr : r ∈ qs) (ht : t ∈ qs) (e : qs.idxOf r = qs.idxOf t) : r = t := by
  have h1 := List.idxOf_lt_length_iff.mpr hr
  have h2 := List.idxOf_lt_length_iff.mpr ht
  have e1 : qs[qs.idxOf r] = r := List.getElem_idxOf h1
  have e2 : qs[qs.idxOf t] = t := List.getElem_idxOf h2
  rw [← e1, ← e2]
  congr 1
def newTops (tops : List (List Int)) (low : Nat) (r : List Int) : List (List Int) := if low = tops.length then tops ++ [r] else tops.set low r
theorem newTops_at {tops : List (List Int)} {low : Nat} {r : List Int} (h : low ≤ tops.length) (k : Nat) : (newTops tops low r)[k]? = if k = low then some r else tops[k]? := by
  unfold newTops
  by_cases e : low = tops.length
  · rw [if_pos e]
    subst e
    rcases Nat.lt_trichotomy k tops.length with z | z | z
    · rw [List.getElem?_append_left z, if_neg (by omega)]
    · subst z
      simp
    · rw [List.getElem?_eq_none (by rw [List.length_append, List.length_singleton]; omega), if_neg (by omega), List.getElem?_eq_none (by omega)]
  · rw [if_neg e]
    by_cases e2 : k = low
    · subst e2
      rw [if_pos rfl, List.getElem?_set_self (by omega)]
    · rw [if_neg e2, List.getElem?_set_ne (Ne.symm e2)]
def prevTop (tops : List (List Int)) (low : Nat) : Option (List Int) := if 0 < low then tops[low - 1]? else none
theorem Pls.step {rs qs S tops : List (List Int)} {lev : List Int → Nat} {ahd : List Int → Option (List Int)} (h : Pls rs qs S tops lev ahd) {r : List Int} {low : Nat} (hr : r ∉ S) (rq : r ∈ qs) (Sq : ∀ q ∈ S, q ∈ qs) (first : ∀ q ∈ S, rs.idxOf q < rs.idxOf r)
    (hl : low ≤ tops.length) (lo : ∀ (k : Nat) (t : List Int), k < low → tops[k]? = some t → qs.idxOf t < qs.idxOf r) (hi : ∀ (k : Nat) (t : List Int), low ≤ k → tops[k]? = some t → ¬ qs.idxOf t < qs.idxOf r) :
    Pls rs qs (S ++ [r]) (newTops tops low r) (nset lev r low) (nset ahd r (prevTop tops low)) := by
  have m : ∀ {q : List Int}, q ∈ S → q ≠ r := fun hq e => hr (e ▸ hq)
  have hi' : ∀ (k : Nat) (t : List Int), low ≤ k → tops[k]? = some t → qs.idxOf r < qs.idxOf t := fun k t h1 h2 => by
    have a := hi k t h1 h2
    have tS := (h.mem k t h2).1
    have b : qs.idxOf t ≠ qs.idxOf r := fun e => m tS (idxOf_inj (Sq t tS) rq e)
    omega
  have irr : Ah [rs, qs] r r = false := by
    cases z : Ah [rs, qs] r r with
    | false => rfl
    | true => exact absurd (Ah.lt z List.mem_cons_self) (Nat.lt_irrefl _)
  have back : ∀ q ∈ S, Ah [rs, qs] r q = false := fun q hq => by
    cases z : Ah [rs, qs] r q with
    | false => rfl
    | true =>
      have a := Ah.lt z List.mem_cons_self
      have b := first q hq
      omega
  refine ⟨fun k t ht => ?_, fun q hq => ?_, fun k k' t t' hk h1 h2 => ?_, h.L.snoc hr irr back ⟨fun q hq _ ha => ?_, ?_⟩⟩
  · rw [newTops_at hl] at ht
    by_cases e : k = low
    · rw [if_pos e] at ht
      cases ht
      exact ⟨List.mem_append_right _ List.mem_cons_self, by rw [nset_same, e]⟩
    · rw [if_neg e] at ht
      obtain ⟨a, b⟩ := h.mem k t ht
      exact ⟨List.mem_append_left _ a, by rw [nset_ne (m a)]; exact b⟩
  · rcases List.mem_append.mp hq with hq | hq
    · rw [nset_ne (m hq), newTops_at hl]
      obtain ⟨t, h1, h2⟩ := h.bd q hq
      by_cases e : lev q = low
      · rw [if_pos e]
        have := hi' (lev q) t (by omega) h1
        exact ⟨r, rfl, by omega⟩
      · rw [if_neg e]
        exact ⟨t, h1, h2⟩
    · rw [List.mem_singleton.mp hq, nset_same, newTops_at hl, if_pos rfl]
      exact ⟨r, rfl, Nat.le_refl _⟩
  · rw [newTops_at hl] at h1 h2
    by_cases e1 : k = low
    · rw [if_pos e1] at h1
      cases h1
      rw [if_neg (by omega)] at h2
      exact hi' k' t' (by omega) h2
    · rw [if_neg e1] at h1
      by_cases e2 : k' = low
      · rw [if_pos e2] at h2
        cases h2
        exact lo k t (by omega) h1
      · rw [if_neg e2] at h2
        exact h.inc k k' t t' hk h1 h2
  · obtain ⟨t, h1, h2⟩ := h.bd q hq
    have a := Ah.lt ha (List.mem_cons_of_mem _ List.mem_cons_self)
    refine Nat.lt_of_not_le fun z => ?_
    exact hi (lev q) t z h1 (by omega)
  · rcases Nat.eq_zero_or_pos low with z | z
    · refine .inl ⟨z, ?_⟩
      unfold prevTop
      rw [if_neg (by omega)]
    · have hlt : low - 1 < tops.length := by omega
      have g := List.getElem?_eq_getElem hlt
      obtain ⟨a, b⟩ := h.mem _ _ g
      refine .inr ⟨tops[low - 1], a, ?_, by rw [b]; omega, ?_⟩
      · have c := lo (low - 1) _ (by omega) g
        have d := first _ a
        unfold Ah
        rw [List.all_cons, List.all_cons, List.all_nil, decide_eq_true d, decide_eq_true c] <;> rfl
      · unfold prevTop
        rw [if_pos z]
        exact g
theorem Pls.count {rs qs tops : List (List Int)} {lev : List Int → Nat} {ahd : List Int → Option (List Int)} (h : Pls rs qs rs tops lev ahd) : IsCount rs lev tops.length := by
  refine ⟨fun r hr => ?_, fun z => ?_, fun z => ?_⟩
  · obtain ⟨t, h1, _⟩ := h.bd r hr
    exact (List.getElem?_eq_some_iff.mp h1).1
  · refine Nat.eq_zero_of_not_pos fun hp => ?_
    have := (h.mem 0 _ (List.getElem?_eq_getElem hp)).1
    rw [z] at this
    cases this
  · obtain ⟨r, hr⟩ := List.exists_mem_of_ne_nil rs z
    obtain ⟨t, h1, _⟩ := h.bd r hr
    have hp : 0 < tops.length := Nat.lt_of_le_of_lt (Nat.zero_le _) (List.getElem?_eq_some_iff.mp h1).1
    have hlt : tops.length - 1 < tops.length := by omega
    obtain ⟨a, b⟩ := h.mem _ _ (List.getElem?_eq_getElem hlt)
    exact ⟨_, a, by rw [b]; omega⟩
/-- a pile with this top, of at most n rows: the rows of S at the top's level -/
def PileAt (lev : List Int → Nat) (S : List (List Int)) (n : Nat) (H : Hp) (b : Addr) (t : List Int) : Prop := ∃ zi zt, H b = some (.lst (zi ++ [zt])) ∧ IsRow H zt t ∧ zi.length < n ∧ Paired (IsRow H) (zi ++ [zt]) (S.filter fun q => decide (lev q = lev t))
theorem PileAt.ex {lev : List Int → Nat} {S : List (List Int)} {n : Nat} {H H' : Hp} {b : Addr} {t : List Int} (h : PileAt lev S n H b t) (e : Ex H H') : PileAt lev S n H' b t := let ⟨zi, zt, h1, h2, h3, h4⟩ := h; ⟨zi, zt, e _ _ h1, h2.ex e, h3, Paired.imp (fun _ _ z => z.ex e) h4⟩
theorem filt_new {S : List (List Int)} {lev : List Int → Nat} {r : List Int} {lo : Nat} (nr : r ∉ S) : (S ++ [r]).filter (fun q => decide (nset lev r lo q = nset lev r lo r)) = S.filter (fun q => decide (lev q = lo)) ++ [r] := by
  rw [List.filter_append, nset_same]
  congr 1
  · refine List.filter_congr fun q hq => ?_
    rw [nset_ne (r := r) (q := q) (show q ≠ r from fun e => nr (e ▸ hq))]
  · rw [List.filter_cons, nset_same, decide_eq_true rfl] <;> rfl
theorem filt_old {S : List (List Int)} {lev : List Int → Nat} {r t : List Int} {lo : Nat} (nr : r ∉ S) (ht : t ∈ S) (hne : lev t ≠ lo) : (S ++ [r]).filter (fun q => decide (nset lev r lo q = nset lev r lo t)) = S.filter (fun q => decide (lev q = lev t)) := by
  have nt : t ≠ r := fun e => nr (e ▸ ht)
  rw [List.filter_append, nset_ne nt]
  have e : [r].filter (fun q => decide (nset lev r lo q = lev t)) = [] := by
    rw [List.filter_cons, nset_same, decide_eq_false (Ne.symm hne)] <;> rfl
  rw [e, List.append_nil]
  refine List.filter_congr fun q hq => ?_
  rw [nset_ne (r := r) (q := q) (show q ≠ r from fun e => nr (e ▸ hq))]
section
variable {K : PySem.W.Frag} {σ : L2.St} {H H' : Hp} {ta tb tc te tl tx td ty tv : TE} {t u : TT} {x y z v : V} {D : Ends} {tz : TS}
theorem q_dput {p : Addr} (hv : Ev tv σ H v) (ho : Ev td σ H (.ref p)) (hi : Ev ty σ H x) (k : ∀ H3, Ex H H3 → ∃ H4, DPut H3 p x v H4 ∧ tz D σ H4) : tSeq (sDPut td ty tv) tz D σ H :=
  hv H (Ex.refl H) _ fun H1 e1 => ho H1 e1 _ fun H2 e2 => hi H2 (e1.trans e2) _ fun H3 e3 => by
    obtain ⟨H4, h1, h2⟩ := k H3 ((e1.trans e2).trans e3)
    exact ⟨p, H4, rfl, h1, h2⟩
theorem ev_par {i j : Nat} (ha : Ev ta σ H x) (hb : Ev tb σ H y) (k : ∀ H1, Ex H H1 → tz D ((σ.set i (some x)).set j (some y)) H1) : tSeq (tPar i j (tCons ta (tCons tb tNil))) tz D σ H :=
  (show EvA (tCons ta (tCons tb tNil)) σ H [x, y] from ea_cons ha (ea_cons hb ea_nil)) H (Ex.refl H) (fun vs H1 => ∃ v w, vs = [v, w] ∧ tz D ((σ.set i (some v)).set j (some w)) H1) fun H1 e1 => ⟨x, y, rfl, k H1 e1⟩
end
section
variable {P : Program} {w : World} {K : PySem.W.Frag} {mg : Str → Option Value} {base : Heap} {a : Nat → Addr} {d : Nat → FuncData} {tk : Nat → Tok}
def PilesRes (rs qs : List (List Int)) (H : Hp) (t : Addr) (H2 : Hp) : Prop := ∃ (p1 p2 : Addr) (bs : List Addr) (tops : List (List Int)) (lev : List Int → Nat) (ahd : List Int → Option (List Int)) (g : List Int → V), H2 t = some (.tup [.ref p1, .ref p2]) ∧ H2 p1 = some (.lst (bs.map V.ref)) ∧ Paired (PileAt lev rs 100 H2) bs tops ∧
  (∀ b ∈ bs, H b = none ∧ b ≠ p1) ∧ bs.Nodup ∧ H p1 = none ∧ H2 p2 = some (.dT (dtab rs g)) ∧ (∀ r ∈ rs, AhV H2 (g r) (ahd r)) ∧ Pls rs qs rs tops lev ahd
def sp_piles_of : Sp := fun vs H Q _ => ∃ (x y : V) (rs qs : List (List Int)) (n : Nat), vs = [x, y] ∧ Rws H x rs ∧ Rws H y qs ∧ OkRows n rs ∧ qs.Perm rs ∧ ∀ t H2, Ex H H2 → PilesRes rs qs H t H2 → Q (.ref t) H2
theorem ok_piles_of (T : All K mg a d tk) : FnOk P w K mg base CX0 2 (a 8) (d 8) ["one", "other"] sp_piles_of := by
  refine T.F_piles_of.fn.ok sc_piles_of (fun vs H Q E h => ?_) (fun cdv A outer s H vs Q E hr h => ?_)
  · obtain ⟨x, y, rs, qs, n, rfl, _⟩ := h
    rfl
  · obtain ⟨x, y, rs, qs, n, rfl, hx, hy, ho, pm, k⟩ := h
    have nd := sc_piles_of.nd
    have hu := hu_of hr
    have oq := ho.perm pm
    have h60 := ho.few
    obtain ⟨a0, xs0, rfl, hs0, hp0⟩ := id hx
    have hlen0 : xs0.length = rs.length := Paired.length hp0
    refine ⟨_, (pss_cons (ps_set (i := 2) nd rfl (Or.inl rfl) (pe_call (ok_places_of T) (hr.mono (by decide)) rfl T.F_places_of.m T.F_places_of.kp T.F_places_of.b .nil pass0 (pa_cons (pv 1) pa_nil)))
 (pss_cons (ps_par (i := 3) (j := 4) rfl nd rfl rfl (by decide) rfl rfl (pa_cons (pe_lst pa_nil) (pa_cons pe_dnewT pa_nil)) (by rfl))
 (pss_cons (ps_for PassesOwn.never rfl (pi_seq (pv 0)) (pg_name (i := 5) nd rfl (Or.inl rfl))
 (pss_cons (ps_par (i := 6) (j := 7) rfl nd rfl rfl (by decide) rfl rfl (pa_cons pe_int (pa_cons (pe_callB call_len_seq (by rfl) T.n_len PySem.boot_len (pa_cons (pv 3) pa_nil)) pa_nil)) (by rfl))
 (pss_cons (ps_while PassesOwn.never (pt_cmpR op_lt (pv 6) (pv 7) (nomark _))
 (pss_cons (ps_set (i := 8) nd rfl (Or.inl rfl) (pe_op op_fdivW (pe_op op_add (pv 6) (pv 7)) pe_int))
 (pss_one (ps_if (pt_cmpR op_lt (pe_dget hu (pv 2) (pe_ix ix_list (pe_ix ix_list (pv 3) (pv 8) (fun _ _ => rfl)) (pe_un un_neg pe_int) (fun _ _ => rfl)) (fun _ _ => rfl)) (pe_dget hu (pv 2) (pv 5) (fun _ _ => rfl)) (nomark _))
 (pss_one (ps_set (i := 6) nd rfl (Or.inl rfl) (pe_op op_add (pv 8) pe_int)))
 (pss_one (ps_set (i := 7) nd rfl (Or.inl rfl) (pv 8)))))))
 (pss_cons (ps_dput hu (pv 4) (pv 5) (pe_ifExp (pt_cmpR op_gt (pv 6) pe_int (nomark _)) (pe_ix ix_list (pe_ix ix_list (pv 3) (pe_op op_sub (pv 6) pe_int) (fun _ _ => rfl)) (pe_un un_neg pe_int) (fun _ _ => rfl)) pe_non) rfl)
 (pss_cons (ps_if (pt_cmpR op_eq (pv 6) (pe_callB call_len_seq (by rfl) T.n_len PySem.boot_len (pa_cons (pv 3) pa_nil)) (nomark _))
 (pss_one (ps_expr (pe_bm PySem.F.plainAttrs_list PySem.F.slot_list_append PySem.F.type_list_append mt_append (pv 3) (pa_cons (pe_lst pa_nil) pa_nil))))
 pss_nil)
 (pss_one (ps_expr (pe_bm PySem.F.plainAttrs_list PySem.F.slot_list_append PySem.F.type_list_append mt_append (pe_ix ix_list (pv 3) (pv 6) (fun _ _ => rfl)) (pa_cons (pv 5) pa_nil)))))))))
 (pss_one (ps_ret (pe_tup (pa_cons (pv 3) (pa_cons (pv 4) pa_nil)))))))), ?_⟩
    refine ⟨_, rfl, y, qs, rfl, hy, oq.nd, oq.few, fun pd B npd eB hpd => ?_⟩
    refine ⟨Nat.zero_le _, fun p1 np1 p2 np2 => ⟨_, _, rfl, ?_⟩⟩
    have np2B : B p2 = none := by
      cases q : B p2 with
      | none => rfl
      | some o =>
        have z := (Ex.new (o := .lst []) np1) p2 o q
        rw [z] at np2
        cases np2
    have n12 : p1 ≠ p2 := fun z => by
      rw [← z, upd_same] at np2
      cases np2
    generalize hH1 : upd (upd B p1 (HO.lst [])) p2 (HO.dT []) = H1
    have eBH : Ex B H1 := by
      rw [← hH1]
      exact (Ex.new np1).trans (Ex.new np2)
    have hp1 : H1 p1 = some (.lst []) := by rw [← hH1, upd_ne n12, upd_same]
    have hp2 : H1 p2 = some (.dT []) := by rw [← hH1, upd_same]
    have s0B : Seq B a0 xs0 := hs0.ex eB
    have rowB : ∀ (j : Nat) (y : V), xs0[j]? = some y → ∃ r, rs[j]? = some r ∧ IsRow B y r := fun j y hy => by
      obtain ⟨r, h1, h2⟩ := Paired.at_l hp0 j y hy
      exact ⟨r, h1, h2.ex eB⟩
    have ix : ∀ {j : Nat} {r : List Int}, rs[j]? = some r → rs.idxOf r = j := fun h => idxOf_at ho.nd h
    let Ov : Nat → L2.St → Hp → Prop := fun j σ' H' => Ex B H' ∧ ∃ (bs : List Addr) (tops : List (List Int)) (lev : List Int → Nat) (ahd : List Int → Option (List Int)) (g : List Int → V) (v5 v6 v7 v8 : Option V), σ' = [some (.ref a0), some y, some (.ref pd), some (.ref p1), some (.ref p2), v5, v6, v7, v8] ∧
      H' p1 = some (.lst (bs.map V.ref)) ∧ H' p2 = some (.dT (dtab (rs.take j) g)) ∧ Paired (PileAt lev (rs.take j) (j + 1) H') bs tops ∧ (∀ b ∈ bs, B b = none ∧ b ≠ p1) ∧ bs.Nodup ∧ (∀ r ∈ rs.take j, AhV H' (g r) (ahd r)) ∧ Pls rs qs (rs.take j) tops lev ahd
    refine q_forS (a := a0) (xs := xs0) (ev_var rfl) (s0B.ex eBH) Ov (fun H2 e2 => ⟨eBH.trans e2, [], [], fun _ => 0, fun _ => none, fun _ => .non, none, none, none, none, rfl, e2 _ _ hp1, e2 _ _ hp2, .nil, fun b hb => (by cases hb), List.nodup_nil, fun r hr => by simp at hr, ⟨fun k t h => by simp at h, fun r hr => by simp at hr, fun k k' t t' _ h => by simp at h, ⟨fun r hr => by simp at hr, fun r hr => by simp at hr⟩⟩⟩)
      (fun j σ' H' _ ⟨e', _⟩ => s0B.elim (fun z => (e' _ _ z).trans (eBH _ _ z).symm) fun z => (e' _ _ z).trans (eBH _ _ z).symm) ?_ ?_
    · rintro j yr σ' H' hyj ⟨e', bs, tops, lev, ahd, g, v5, v6, v7, v8, rfl, h1, h2, h3, h4, h5, h6, h7⟩
      obtain ⟨r, hr, hrow⟩ := rowB j yr hyj
      have hj : j < rs.length := (List.getElem?_eq_some_iff.mp hr).1
      have ej := ix hr
      have memT : ∀ q ∈ rs.take j, rs.idxOf q < j ∧ q ∈ rs := fun q hq => by
        obtain ⟨i, hi, ei⟩ := List.mem_iff_getElem.mp hq
        have hi2 : i < j := by rw [List.length_take] at hi; omega
        rw [List.getElem_take] at ei
        have g1 : rs[i]? = some q := by rw [← ei]; exact List.getElem?_eq_getElem _
        exact ⟨by rw [ix g1]; exact hi2, List.mem_of_getElem? g1⟩
      have nr : r ∉ rs.take j := fun h => by have := (memT r h).1; omega
      have eT : rs.take (j + 1) = rs.take j ++ [r] := take_next hr
      have rq : r ∈ qs := pm.mem_iff.mpr (List.mem_of_getElem? hr)
      have Sq : ∀ q ∈ rs.take j, q ∈ qs := fun q hq => pm.mem_iff.mpr (memT q hq).2
      have first : ∀ q ∈ rs.take j, rs.idxOf q < rs.idxOf r := fun q hq => by rw [ej]; exact (memT q hq).1
      have l60 : (rs.take j).length ≤ 100 := by rw [List.length_take]; omega
      have lbt : bs.length = tops.length := Paired.length h3
      have ltj : tops.length ≤ 60 := by
        rcases Nat.eq_zero_or_pos tops.length with z | z
        · omega
        · have g0 := List.getElem?_eq_getElem (l := tops) (i := tops.length - 1) (by omega)
          obtain ⟨m1, m2⟩ := h7.mem _ _ g0
          have b1 := h7.L.bound (R0 := rs) List.mem_cons_self _ _ m1 rfl
          have b2 := (memT _ m1).1
          omega
      refine ev_par (i := 6) (j := 7) ev_c (ev_lenS (ev_var rfl) (.inl h1)) fun H2 e2 => ?_
      have llen : ((bs.map V.ref).length : Int) = (tops.length : Int) := by rw [List.length_map, lbt]
      rw [llen]
      have topv : ∀ (σ2 : L2.St) (H5 : Hp) (te : TE) (k : Nat) (t : List Int), σ2[3]? = some (some (.ref p1)) → Ex H' H5 → Ev te σ2 H5 (.int (k : Int)) → tops[k]? = some t → ∃ z, IsRow H5 z t ∧ Ev (tOp (rIxL K) (tOp (rIxL K) (tVar 3) te) (tUn (rU fun i => .int (-i)) (tC (.int 1)))) σ2 H5 z := fun σ2 H5 te k t hσ e5 hk ht => by
        obtain ⟨b, hb, zi, zt, z1, z2, _⟩ := Paired.at_r h3 k t ht
        refine ⟨zt, z2.ex e5, ev_ixL (i := -1) (ev_ixL (i := (k : Int)) (ev_var hσ) hk (sq_of (e5 _ _ h1)) (atI_nat (by rw [List.getElem?_map, hb] <;> rfl))) (ev_un ev_c ru_neg) (sq_of (e5 _ _ z1)) (atI_last zi zt)⟩
      let W : Nat → L2.St → Hp → Prop := fun m σ' H5 => Ex H2 H5 ∧ ∃ (lo hi : Nat) (v8 : Option V), σ' = [some (.ref a0), some y, some (.ref pd), some (.ref p1), some (.ref p2), some yr, some (.int (lo : Int)), some (.int (hi : Int)), v8] ∧ m = hi - lo ∧ lo ≤ hi ∧ hi ≤ tops.length ∧
        (∀ (k : Nat) (t : List Int), k < lo → tops[k]? = some t → qs.idxOf t < qs.idxOf r) ∧ (∀ (k : Nat) (t : List Int), hi ≤ k → tops[k]? = some t → ¬ qs.idxOf t < qs.idxOf r)
      refine q_while W tops.length ⟨Ex.refl H2, 0, tops.length, v8, rfl, (Nat.sub_zero _).symm, Nat.zero_le _, Nat.le_refl _, fun k t h => absurd h (Nat.not_lt_zero _), fun k t h ht => by
        have := (List.getElem?_eq_some_iff.mp ht).1
        omega⟩ ?_
      rintro m σ' H5 ⟨e5, lo, hi, v8, rfl, hm, hlh, hht, hlo, hhi⟩
      refine ⟨decide ((lo : Int) < (hi : Int)), et_I0 (ev_var rfl) (ev_var rfl), fun hb H6 e6 => ?_, fun hb H6 e6 => ?_⟩
      · have hlt : lo < hi := by have := of_decide_eq_true hb; omega
        have em : ((lo : Int) + (hi : Int)) / 2 = (((lo + hi) / 2 : Nat) : Int) := by omega
        refine ⟨fun σ2 H2 => ∃ m', m' < m ∧ W m' σ2 H2, fun _ _ h => h, ?_⟩
        refine q_asg (v := .int (((lo + hi) / 2 : Nat) : Int)) (ev_is (ev_I (ev_I0 (ev_var rfl) (ev_var rfl)) ev_c (wide_div (b := 2) (by decide) (by decide) (by decide) (by decide))) (by rw [em])) fun H7 e7 => ?_
        have e27 := (e5.trans e6).trans e7
        have hmid : (lo + hi) / 2 < tops.length := by omega
        have gt := List.getElem?_eq_getElem hmid
        obtain ⟨z, zr, ze⟩ := topv [some (.ref a0), some y, some (.ref pd), some (.ref p1), some (.ref p2), some yr, some (.int (lo : Int)), some (.int (hi : Int)), some (.int (((lo + hi) / 2 : Nat) : Int))] H7 (tVar 8) _ _ rfl (e2.trans e27) (ev_var rfl) gt
        have tq : tops[(lo + hi) / 2] ∈ qs := Sq _ (h7.mem _ _ gt).1
        have hpd7 : H7 pd = some (.dT (dtab qs (plc qs))) := (e'.trans (e2.trans e27)) _ _ hpd
        have b1 := ev_dget (ta := tVar 2) (ev_var (σ := [some (.ref a0), some y, some (.ref pd), some (.ref p1), some (.ref p2), some yr, some (.int (lo : Int)), some (.int (hi : Int)), some (.int (((lo + hi) / 2 : Nat) : Int))]) (i := 2) rfl) ze hpd7 zr tq
        have b2 := ev_dget (ta := tVar 2) (tb := tVar 5) (ev_var (σ := [some (.ref a0), some y, some (.ref pd), some (.ref p1), some (.ref p2), some yr, some (.int (lo : Int)), some (.int (hi : Int)), some (.int (((lo + hi) / 2 : Nat) : Int))]) (i := 2) rfl) (ev_var rfl) hpd7 (hrow.ex (e'.trans (e2.trans e27))) rq
        refine s_if (et_I0 b1 b2) (fun hc H8 e8 => ?_) fun hc H8 e8 => ?_
        · have hc : qs.idxOf tops[(lo + hi) / 2] < qs.idxOf r := by have := of_decide_eq_true hc; omega
          refine s_asg (v := .int (((lo + hi) / 2 + 1 : Nat) : Int)) (ev_is (ev_I0 (ev_var rfl) ev_c) (by rw [Int.natCast_succ])) fun H9 e9 => ?_
          refine ⟨_, ?_, (e27.trans e8).trans e9, (lo + hi) / 2 + 1, hi, _, rfl, rfl, by omega, hht, fun k t hk ht => ?_, hhi⟩
          · omega
          · rcases Nat.lt_or_ge k ((lo + hi) / 2) with z | z
            · have := h7.inc k _ t _ z ht gt
              omega
            · have e : k = (lo + hi) / 2 := by omega
              subst e
              rw [gt] at ht
              cases ht
              exact hc
        · have hc : ¬ qs.idxOf tops[(lo + hi) / 2] < qs.idxOf r := by have := of_decide_eq_false hc; omega
          refine s_asg (v := .int (((lo + hi) / 2 : Nat) : Int)) (ev_var rfl) fun H9 e9 => ?_
          refine ⟨_, ?_, (e27.trans e8).trans e9, lo, (lo + hi) / 2, _, rfl, rfl, by omega, by omega, hlo, fun k t hk ht => ?_⟩
          · omega
          · rcases Nat.lt_or_ge ((lo + hi) / 2) k with z | z
            · have := h7.inc _ k _ t z gt ht
              omega
            · have e : k = (lo + hi) / 2 := by omega
              subst e
              rw [gt] at ht
              cases ht
              exact hc
      · have hle : lo = hi := by have := of_decide_eq_false hb; omega
        subst hle
        have e26 := e5.trans e6
        have e06 := e2.trans e26
        have prev : ∃ z, AhV H6 z (prevTop tops lo) ∧ Ev (tIf (tTest (tOp (rI0 fun i j => .bl (decide (j < i))) (tVar 6) (tC (.int 0)))) (tOp (rIxL K) (tOp (rIxL K) (tVar 3) (tOp (rI0 fun i j => .int (i - j)) (tVar 6) (tC (.int 1)))) (tUn (rU fun i => .int (-i)) (tC (.int 1)))) (tC .non))
            [some (.ref a0), some y, some (.ref pd), some (.ref p1), some (.ref p2), some yr, some (.int (lo : Int)), some (.int (lo : Int)), v8] H6 z := by
          rcases Nat.eq_zero_or_pos lo with z | z
          · refine ⟨.non, ?_, ev_if (et_I0 (ev_var rfl) ev_c) (fun h => ?_) fun _ => ev_c⟩
            · unfold prevTop
              rw [if_neg (by omega)]
              exact rfl
            · have := of_decide_eq_true h
              omega
          · have hlt : lo - 1 < tops.length := by omega
            obtain ⟨zv, zr, ze⟩ := topv [some (.ref a0), some y, some (.ref pd), some (.ref p1), some (.ref p2), some yr, some (.int (lo : Int)), some (.int (lo : Int)), v8] H6 (tOp (rI0 fun i j => .int (i - j)) (tVar 6) (tC (.int 1))) (lo - 1) _ rfl e06 (ev_is (ev_I0 (ev_var rfl) ev_c) (by congr 1; omega)) (List.getElem?_eq_getElem hlt)
            refine ⟨zv, ?_, ev_if (et_I0 (ev_var rfl) ev_c) (fun _ => ze) fun h => ?_⟩
            · unfold prevTop
              rw [if_pos z, List.getElem?_eq_getElem hlt]
              exact zr
            · have := of_decide_eq_false h
              omega
        obtain ⟨zv, zr, ze⟩ := prev
        refine q_dput ze (ev_var rfl) (ev_var rfl) fun H7 e7 => ?_
        have e07 := e06.trans e7
        have w1 := dput_new (v := zv) (e07 _ _ h2) ((hrow.ex e').ex e07) nr l60
        refine ⟨_, w1, ?_⟩
        generalize hH8 : upd H7 p2 (HO.dT (dtab (rs.take j ++ [r]) (fset g r zv))) = H8
        have ntd : ∀ (S : List (List Int)) (f : List Int → V) (xs : List V), HO.dT (dtab S f) ≠ .tup xs := fun _ _ _ z => by cases z
        have eB8 : Ex B H8 := by rw [← hH8]; exact Ex.mut (e'.trans e07) np2B
        have f1 : H8 p1 = some (.lst (bs.map V.ref)) := by rw [← hH8, upd_ne n12]; exact e07 _ _ h1
        have f2 : H8 p2 = some (.dT (dtab (rs.take j ++ [r]) (fset g r zv))) := by rw [← hH8, upd_same]
        have mvR : ∀ {v : V} {q : List Int}, IsRow H' v q → IsRow H8 v q := fun h => by
          rw [← hH8]
          exact (h.ex e07).upd (e07 _ _ h2) (ntd _ _)
        have mvA : ∀ {v : V} {o : Option (List Int)}, AhV H7 v o → AhV H8 v o := fun h => by
          rw [← hH8]
          exact AhV.upd h (e07 _ _ h2) (ntd _ _)
        have f3 : Paired (PileAt lev (rs.take j) (j + 1) H8) bs tops := Paired.imp (fun b t ⟨zi, zt, z1, z2, z3, z4⟩ => ⟨zi, zt, by rw [← hH8, upd_ne (fun z => by rw [z, h2] at z1; cases z1)]; exact e07 _ _ z1, mvR z2, z3, Paired.imp (fun _ _ h => mvR h) z4⟩) h3
        have f6 : ∀ q ∈ rs.take (j + 1), AhV H8 (fset g r zv q) (nset ahd r (prevTop tops lo) q) := fun q hq => by
          rw [eT] at hq
          show AhV H8 (if q = r then zv else g q) (if q = r then prevTop tops lo else ahd q)
          rcases List.mem_append.mp hq with hq | hq
          · have ne : q ≠ r := fun e => nr (e ▸ hq)
            rw [if_neg ne, if_neg ne]
            exact mvA ((h6 q hq).ex e07)
          · have e := List.mem_singleton.mp hq
            rw [if_pos e, if_pos e]
            exact mvA (zr.ex e7)
        have P2 := h7.step nr rq Sq first hht hlo hhi
        rw [← eT] at P2 f2
        have last : ∀ (H9 : Hp) (bs2 : List Addr), Ex B H9 → H9 p1 = some (.lst (bs2.map V.ref)) → H9 p2 = some (.dT (dtab (rs.take (j + 1)) (fset g r zv))) → (∀ q ∈ rs.take (j + 1), AhV H9 (fset g r zv q) (nset ahd r (prevTop tops lo) q)) → IsRow H9 yr r → (∀ b ∈ bs2, B b = none ∧ b ≠ p1) → bs2.Nodup →
            bs2.length = (newTops tops lo r).length → (∀ (k : Nat) (b : Addr) (t : List Int), k ≠ lo → bs2[k]? = some b → tops[k]? = some t → PileAt lev (rs.take j) (j + 1) H9 b t) → (∃ (b : Addr) (zs : List V), bs2[lo]? = some b ∧ H9 b = some (.lst zs) ∧ zs.length ≤ j + 1 ∧ Paired (IsRow H9) zs ((rs.take j).filter fun q => decide (lev q = lo))) →
            tDrop (tBM K "list" rAppend (tOp (rIxL K) (tVar 3) (tVar 6)) (tCons (tVar 5) tNil)) { nx := Ov (j + 1), rt := Q, bk := fun σ' H' => tRet (tTup (tCons (tVar 3) (tCons (tVar 4) tNil))) { nx := fun _ H' => Q .non H', rt := Q } σ' H', ct := Ov (j + 1) }
              [some (.ref a0), some y, some (.ref pd), some (.ref p1), some (.ref p2), some yr, some (.int (lo : Int)), some (.int (lo : Int)), v8] H9 := by
          intro H9 bs2 eB9 g1 g2 g6 gr g4 g5 g7 g3 ⟨b, zs, gb, gz, gl, gp⟩
          have hb := g4 b (List.mem_of_getElem? gb)
          refine s_app gz (ev_ixL (i := (lo : Int)) (ev_var rfl) (ev_var rfl) (sq_of g1) (atI_nat (by rw [List.getElem?_map, gb] <;> rfl))) (ev_var rfl) (by omega) fun H10 e10 => ?_
          have ntl : ∀ xs', HO.lst zs ≠ .tup xs' := fun _ z => by cases z
          have nb2 : p2 ≠ b := fun z => by rw [z, gz] at g2; cases g2
          refine ⟨Ex.mut (eB9.trans e10) hb.1, bs2, newTops tops lo r, nset lev r lo, nset ahd r (prevTop tops lo), fset g r zv, _, _, _, _, rfl, ?_, ?_, ?_, g4, g5, fun q hq => ?_, P2⟩
          · rw [upd_ne (Ne.symm hb.2)]
            exact e10 _ _ g1
          · rw [upd_ne nb2]
            exact e10 _ _ g2
          · refine paired_of g7 fun k b' t hb' ht => ?_
            rw [newTops_at hht] at ht
            by_cases e : k = lo
            · rw [if_pos e] at ht
              cases ht
              rw [e, gb] at hb'
              cases hb'
              refine ⟨zs, yr, upd_same, (gr.ex e10).upd (e10 _ _ gz) ntl, by omega, ?_⟩
              rw [eT, filt_new nr]
              exact Paired.append (Paired.imp (fun _ _ h => (h.ex e10).upd (e10 _ _ gz) ntl) gp) (.cons ((gr.ex e10).upd (e10 _ _ gz) ntl) .nil)
            · rw [if_neg e] at ht
              obtain ⟨zi, zt, z1, z2, z3, z4⟩ := g3 k b' t e hb' ht
              obtain ⟨mt, lt⟩ := h7.mem k t ht
              have nbb : b' ≠ b := fun z => by
                rw [z] at hb'
                have i1 := (List.getElem?_eq_some_iff.mp hb')
                have i2 := (List.getElem?_eq_some_iff.mp gb)
                obtain ⟨p1', q1⟩ := i1
                obtain ⟨p2', q2⟩ := i2
                exact e ((List.getElem_inj g5).mp (q1.trans q2.symm))
              refine ⟨zi, zt, by rw [upd_ne nbb]; exact e10 _ _ z1, (z2.ex e10).upd (e10 _ _ gz) ntl, by omega, ?_⟩
              rw [eT, filt_old nr mt (by omega)]
              exact Paired.imp (fun _ _ h => (h.ex e10).upd (e10 _ _ gz) ntl) z4
          · exact AhV.upd ((g6 q hq).ex e10) (e10 _ _ gz) ntl
        have lnt : (newTops tops lo r).length = if lo = tops.length then tops.length + 1 else tops.length := by
          unfold newTops
          by_cases e : lo = tops.length
          · rw [if_pos e, if_pos e, List.length_append, List.length_singleton]
          · rw [if_neg e, if_neg e, List.length_set]
        have llen8 : ((bs.map V.ref).length : Int) = (tops.length : Int) := llen
        refine q_when (b := decide (V.int (lo : Int) = V.int ((bs.map V.ref).length : Int))) (et_test (ev_op (ev_var rfl) (ev_lenS (ev_var rfl) (.inl f1)) (rv_eq rfl))) (fun hb H9 e9 => ?_) fun hb H9 e9 => ?_
        · have elo : lo = tops.length := by
            have z := of_decide_eq_true hb
            injection z with z
            omega
          refine s_appL (ys := []) (e9 _ _ f1) (ev_var rfl) (el_lst ea_nil (Nat.zero_le _)) (by rw [List.length_map]; omega) fun nb H10 hnb e10 h10 => ?_
          have e810 := e9.trans e10
          have ntp : ∀ xs', HO.lst (bs.map V.ref) ≠ .tup xs' := fun _ z => by cases z
          have nb1 : nb ≠ p1 := fun z => by rw [z, e9 _ _ f1] at hnb; cases hnb
          have nbs : nb ∉ bs := fun hm => by
            obtain ⟨t, _, zi, zt, z1, _⟩ := Paired.mem_l f3 nb hm
            rw [e9 _ _ z1] at hnb
            cases hnb
          have em : bs.map V.ref ++ [V.ref nb] = (bs ++ [nb]).map V.ref := by rw [List.map_append] <;> rfl
          rw [em]
          have gA : upd H10 p1 (HO.lst ((bs ++ [nb]).map V.ref)) nb = some (.lst []) := by rw [upd_ne nb1]; exact h10
          refine last _ (bs ++ [nb]) (Ex.mut (eB8.trans e810) np1) upd_same (by rw [upd_ne n12.symm]; exact e810 _ _ f2) (fun q hq => AhV.upd ((f6 q hq).ex e810) (e810 _ _ f1) ntp) (((mvR (hrow.ex e')).ex e810).upd (e810 _ _ f1) ntp) (fun b hb => ?_) ?_ ?_ (fun k b t hk hb ht => ?_) ⟨nb, [], ?_, gA, Nat.zero_le _, ?_⟩
          · rcases List.mem_append.mp hb with hb | hb
            · exact h4 b hb
            · rw [List.mem_singleton.mp hb]
              exact ⟨fresh_back (eB8.trans e9) hnb, nb1⟩
          · rw [List.nodup_append]
            refine ⟨h5, List.nodup_cons.mpr ⟨by simp, List.nodup_nil⟩, fun x hx y hy e => ?_⟩
            rw [List.mem_singleton.mp hy] at e
            exact nbs (e ▸ hx)
          · rw [List.length_append, List.length_singleton, lnt, if_pos elo, lbt]
          · have hk2 : k < bs.length := by
              have := (List.getElem?_eq_some_iff.mp ht).1
              omega
            rw [List.getElem?_append_left hk2] at hb
            obtain ⟨t', ht', zi, zt, z1, z2, z3, z4⟩ := Paired.at_l f3 k b hb
            rw [ht] at ht'
            cases ht'
            have nbp : b ≠ p1 := (h4 b (List.mem_of_getElem? hb)).2
            exact ⟨zi, zt, by rw [upd_ne nbp]; exact e810 _ _ z1, (z2.ex e810).upd (e810 _ _ f1) ntp, z3, Paired.imp (fun _ _ h => (h.ex e810).upd (e810 _ _ f1) ntp) z4⟩
          · rw [List.getElem?_append_right (by omega)]
            have : lo - bs.length = 0 := by omega
            rw [this] <;> rfl
          · have : ((rs.take j).filter fun q => decide (lev q = lo)) = [] := by
              refine List.filter_eq_nil_iff.mpr fun q hq => ?_
              obtain ⟨t, t1, _⟩ := h7.bd q hq
              have := (List.getElem?_eq_some_iff.mp t1).1
              rw [decide_eq_false (by omega)]
              simp
            rw [this]
            exact .nil
        · have elo : lo ≠ tops.length := fun z => by
            refine of_decide_eq_false hb ?_
            congr 1
            omega
          have hlt : lo < bs.length := by omega
          have gb := List.getElem?_eq_getElem hlt
          obtain ⟨t, ht, zi, zt, z1, z2, z3, z4⟩ := Paired.at_l f3 lo _ gb
          rw [(h7.mem lo t ht).2] at z4
          refine last H9 bs (eB8.trans e9) (e9 _ _ f1) (e9 _ _ f2) (fun q hq => (f6 q hq).ex e9) ((mvR (hrow.ex e')).ex e9) h4 h5 (by rw [lnt, if_neg elo, lbt]) (fun k b t hk hb ht => ?_) ⟨_, _, gb, e9 _ _ z1, by rw [List.length_append, List.length_singleton]; omega, Paired.imp (fun _ _ h => h.ex e9) z4⟩
          obtain ⟨t', ht', hz⟩ := Paired.at_l f3 k b hb
          rw [ht] at ht'
          cases ht'
          exact hz.ex e9
    · rintro σ' H' ⟨e', bs, tops, lev, ahd, g, v5, v6, v7, v8, rfl, h1, h2, h3, h4, h5, h6, h7⟩
      rw [hlen0] at h3
      rw [hlen0, List.take_length] at h2 h6 h7
      rw [List.take_length] at h3
      refine s_retU (eu_tup (ea_cons (ev_var rfl) (ea_cons (ev_var rfl) ea_nil)) (show 2 ≤ 100000 by decide)) fun t H2 ht e2 h => ?_
      exact k t H2 (eB.trans (e'.trans e2)) ⟨p1, p2, bs, tops, lev, ahd, g, h, e2 _ _ h1, Paired.imp (fun b t ⟨zi, zt, z1, z2, z3, z4⟩ => ⟨zi, zt, e2 _ _ z1, z2.ex e2, by omega, Paired.imp (fun _ _ h => h.ex e2) z4⟩) h3, (fun b hb => ⟨fresh_back eB (h4 b hb).1, (h4 b hb).2⟩), h5, fresh_back eB np1, e2 _ _ h2, fun r hr => (h6 r hr).ex e2, h7⟩
/-! longest_of -/
def LongRes (rs qs : List (List Int)) (p : Addr) (H2 : Hp) : Prop := ∃ (ys : List V) (ds : List (List Int)) (lev : List Int → Nat) (ahd : List Int → Option (List Int)) (M : Nat), H2 p = some (.lst ys) ∧ ys.length = M ∧ Paired (IsRow H2) ys ds ∧ Chn [rs, qs] ds ∧ (∀ q ∈ ds, q ∈ rs) ∧ LevOn [rs, qs] rs lev ahd ∧ IsCount rs lev M
def sp_longest_of : Sp := fun vs H Q _ => ∃ (x y : V) (rs qs : List (List Int)) (n : Nat), vs = [x, y] ∧ Rws H x rs ∧ Rws H y qs ∧ OkRows n rs ∧ qs.Perm rs ∧ ∀ p H2, H p = none → Ex H H2 → LongRes rs qs p H2 → Q (.ref p) H2
theorem ok_longest_of (T : All K mg a d tk) : FnOk P w K mg base CX0 3 (a 9) (d 9) ["one", "other"] sp_longest_of := by
  refine T.F_longest_of.fn.ok sc_longest_of (fun vs H Q E h => ?_) (fun cdv A outer s H vs Q E hr h => ?_)
  · obtain ⟨x, y, rs, qs, n, rfl, _⟩ := h
    rfl
  · obtain ⟨x, y, rs, qs, n, rfl, hx, hy, ho, pm, k⟩ := h
    have nd := sc_longest_of.nd
    have hu := hu_of hr
    have hu0 := hr.units0
    have h60 := ho.few
    refine ⟨_, (pss_cons (ps_asg (pe_call (ok_piles_of T) (hr.mono (by decide)) rfl T.F_piles_of.m T.F_piles_of.kp T.F_piles_of.b .nil pass0 (pa_cons (pv 0) (pa_cons (pv 1) pa_nil))) (pg_tup rfl (pgs_cons (pg_name (i := 2) nd rfl (Or.inl rfl)) (pgs_cons (pg_name (i := 3) nd rfl (Or.inl rfl)) pgs_nil))) (hw := by rfl))
 (pss_cons (ps_set (i := 4) nd rfl (Or.inl rfl) (pe_lst pa_nil))
 (pss_cons (ps_set (i := 5) nd rfl (Or.inl rfl) (pe_ifExp (pt_cmpR (op_neNil hu0) (pv 2) (pe_lst pa_nil) (nomark _)) (pe_ix ix_list (pe_ix ix_list (pv 2) (pe_un un_neg pe_int) (fun _ _ => rfl)) (pe_un un_neg pe_int) (fun _ _ => rfl)) pe_non))
 (pss_cons (ps_while PassesOwn.never (pt_cmp (pc_notN (pv 5)))
 (pss_cons (ps_expr (pe_bm PySem.F.plainAttrs_list PySem.F.slot_list_append PySem.F.type_list_append mt_append (pv 4) (pa_cons (pv 5) pa_nil)))
 (pss_one (ps_set (i := 5) nd rfl (Or.inl rfl) (pe_dget hu (pv 3) (pv 5) (fun _ _ => rfl))))))
 (pss_one (ps_ret (pe_revL (pv 4)))))))), ?_⟩
    refine ⟨_, rfl, _, rfl, x, y, rs, qs, n, rfl, hx, hy, ho, pm, fun t H2 e2 ⟨p1, p2, bs, tops, lev, ahd, g, ht, hp1, hb, _, _, _, hp2, hg, hP⟩ => ?_⟩
    refine ⟨t, _, rfl, st_of ht, rfl, _, _, rfl, _, _, rfl, rfl, ?_⟩
    have hM := hP.count
    have hMR := count_few hP.L List.mem_cons_self hM
    have lbt : bs.length = tops.length := Paired.length hb
    refine q_asgL (el_lst ea_nil (Nat.zero_le _)) fun fl H4 hfl e4 hf4 => ?_
    have finish : ∀ (v0 : V) (o0 : Option (List Int)) H5, Ex H4 H5 → AhV H5 v0 o0 → (∀ r, o0 = some r → r ∈ rs) → oLev lev o0 = tops.length → tSeq (tWhile (tB (tNotN (tVar 5))) (tSeq (tDrop (tBM K "list" rAppend (tVar 4) (tCons (tVar 5) tNil))) (tAsg (tDGet (tVar 3) (tVar 5)) (gName 5)))) (tRet (tRevL K (tVar 4))) { nx := fun _ H' => Q .non H', rt := Q }
        [some x, some y, some (.ref p1), some (.ref p2), some (.ref fl), some v0] H5 := fun v0 o0 H5 e5 hv ho' hm => by
      refine chase hP.L h60 rfl rfl rfl (by decide) (by decide) (e4.trans e5) hfl (e5 _ _ hf4) ((e4.trans e5) _ _ hp2) (fun r hr => (hg r hr).ex (e4.trans e5)) hv ho' hm (by omega) fun pr H6 ys ds h1 h2 h3 h4 h5 h6 h7 => ?_
      exact k pr H6 (fresh_back e2 h1) (e2.trans h2) ⟨ys, ds, lev, ahd, tops.length, h3, by rw [← h7]; exact Paired.length h4, h4, h5, h6, hP.L, hM⟩
    rcases Nat.eq_zero_or_pos tops.length with z | z
    · have hb0 : bs.map V.ref = [] := by
        have : bs = [] := List.eq_nil_of_length_eq_zero (by omega)
        rw [this] <;> rfl
      rw [hb0] at hp1
      refine q_asg (v := .non) (ev_if (et_test (ev_neNil (ev_var rfl) (sq_of (e4 _ _ hp1)))) (fun h => nomatch h) fun _ => ev_c) fun H5 e5 => ?_
      exact finish .non none H5 e5 rfl (fun r h => nomatch h) z.symm
    · have hlt : tops.length - 1 < tops.length := by omega
      have gt := List.getElem?_eq_getElem hlt
      obtain ⟨m1, m2⟩ := hP.mem _ _ gt
      obtain ⟨b, gb, zi, zt, z1, z2, _⟩ := Paired.at_r hb _ _ gt
      have lb : atI (bs.map V.ref) (-1) = some (V.ref b) := by
        have hne : bs ≠ [] := fun e => by rw [e] at lbt; simp at lbt; omega
        obtain ⟨bi, bl, rfl⟩ : ∃ bi bl, bs = bi ++ [bl] := ⟨bs.dropLast, bs.getLast hne, (List.dropLast_concat_getLast hne).symm⟩
        have e : bl = b := by
          rw [List.length_append, List.length_singleton] at lbt
          rw [List.getElem?_append_right (by omega)] at gb
          have : tops.length - 1 - bi.length = 0 := by omega
          rw [this] at gb
          exact Option.some.inj gb
        rw [List.map_append]
        subst e
        exact atI_last (bi.map V.ref) (V.ref bl)
      have hne : (!(bs.map V.ref).isEmpty) = true := by
        cases bs with
        | nil => simp at lbt; omega
        | cons b l => rfl
      refine q_asg (v := zt) (ev_if (et_test (b := true) (ev_is (ev_neNil (ev_var rfl) (sq_of (e4 _ _ hp1))) (by rw [hne]))) (fun _ => ev_ixL (i := -1) (ev_ixL (i := -1) (ev_var rfl) (ev_un ev_c ru_neg) (sq_of (e4 _ _ hp1)) lb) (ev_un ev_c ru_neg) (sq_of (e4 _ _ z1)) (atI_last zi zt)) fun h => nomatch h) fun H5 e5 => ?_
      exact finish zt (some _) H5 e5 (z2.ex (e4.trans e5)) (fun q e => by cases e; exact m1) (by show lev _ + 1 = _; rw [m2]; omega)
/-! stays -/
theorem ok_stays (T : All K mg a d tk) : FnOk P w K mg base CX0 7 (a 10) (d 10) ["one", "other"] sp_longest_of := by
  refine T.F_stays.fn.ok sc_stays (fun vs H Q E h => ?_) (fun cdv A outer s H vs Q E hr h => ?_)
  · obtain ⟨x, y, rs, qs, n, rfl, _⟩ := h
    rfl
  · obtain ⟨x, y, rs, qs, n, rfl, hx, hy, ho, pm, k⟩ := h
    have nd := sc_stays.nd
    refine ⟨_, (pss_cons (ps_expr (pe_call (ok_need_pair T) (hr.mono (by decide)) rfl T.F_need_pair.m T.F_need_pair.kp T.F_need_pair.b .nil pass0 (pa_cons (pv 0) (pa_cons (pv 1) pa_nil))))
 (pss_one (ps_ret (pe_call (ok_longest_of T) (hr.mono (by decide)) rfl T.F_longest_of.m T.F_longest_of.kp T.F_longest_of.b .nil pass0 (pa_cons (pv 0) (pa_cons (pv 1) pa_nil)))))), ?_⟩
    refine q_drop (ev_call (ea_cons (ev_var rfl) (ea_cons (ev_var rfl) ea_nil)) (spv_need_pair hx hy ho pm)) fun H1 e1 => ?_
    exact ⟨_, rfl, _, rfl, x, y, rs, qs, n, rfl, hx.ex e1, hy.ex e1, ho, pm, fun p H2 np e2 h => k p H2 (fresh_back e1 np) (e1.trans e2) h⟩
end
end Mv
/-! The law's own places, its table. -/
namespace Mv
open PySem PySem.Spec PyProof.Rows L2 Evl
/-- a list (no tuple) of rows; a list of these -/
def LRw (H : Hp) (x : V) (rs : List (List Int)) : Prop := ∃ b ys, x = .ref b ∧ H b = some (.lst ys) ∧ Paired (IsRow H) ys rs
def LLs (H : Hp) (x : V) (Ls : List (List (List Int))) : Prop := ∃ b ys, x = .ref b ∧ H b = some (.lst ys) ∧ Paired (LRw H) ys Ls
theorem LRw.ex {H H' : Hp} {x : V} {rs : List (List Int)} (h : LRw H x rs) (e : Ex H H') : LRw H' x rs := let ⟨b, ys, h1, h2, h3⟩ := h; ⟨b, ys, h1, e _ _ h2, Paired.imp (fun _ _ z => z.ex e) h3⟩
theorem LLs.ex {H H' : Hp} {x : V} {Ls : List (List (List Int))} (h : LLs H x Ls) (e : Ex H H') : LLs H' x Ls := let ⟨b, ys, h1, h2, h3⟩ := h; ⟨b, ys, h1, e _ _ h2, Paired.imp (fun _ _ z => LRw.ex z e) h3⟩
theorem LRw.rws {H : Hp} {x : V} {rs : List (List Int)} (h : LRw H x rs) : Rws H x rs := let ⟨b, ys, h1, h2, h3⟩ := h; ⟨b, ys, h1, .inl h2, h3⟩
theorem LLs.lss {H : Hp} {x : V} {Ls : List (List (List Int))} (h : LLs H x Ls) : Lss H x Ls := let ⟨b, ys, h1, h2, h3⟩ := h; ⟨b, ys, h1, .inl h2, Paired.imp (fun _ _ z => LRw.rws z) h3⟩
def posL (Ls : List (List (List Int))) (r : List Int) : List V := Ls.map fun L => .int (L.idxOf r : Nat)
/-- the law's places -/
def PosAt (H : Hp) (p : Addr) (Ls : List (List (List Int))) (R : List (List Int)) : Prop := ∃ g : List Int → V, H p = some (.dT (dtab R g)) ∧ ∀ r ∈ R, ∃ b, g r = .ref b ∧ H b = some (.lst (posL Ls r))
theorem PosAt.ex {H H' : Hp} {p : Addr} {Ls : List (List (List Int))} {R : List (List Int)} (h : PosAt H p Ls R) (e : Ex H H') : PosAt H' p Ls R := let ⟨g, h1, h2⟩ := h; ⟨g, e _ _ h1, fun r hr => let ⟨b, h3, h4⟩ := h2 r hr; ⟨b, h3, e _ _ h4⟩⟩
theorem yes_go {σ : L2.St} {H : Hp} {F G : Hp → Prop} (h : F H) : tYes σ H fun b H3 => if b = true then F H3 else G H3 := by
  show (if true = true then F H else G H)
  rw [if_pos rfl]
  exact h
theorem dtab_fold {f : List Int → V} : ∀ (R S : List (List Int)), (S ++ R).Nodup → (R.map fun r => (ky r, f r)).foldl (fun acc p => putK acc p.1 p.2) (dtab S f) = dtab (S ++ R) f
  | [], S, _ => by rw [List.append_nil] <;> rfl
  | r :: R, S, h => by
    have hr : r ∉ S := fun hm => by
      rw [List.nodup_append] at h
      exact h.2.2 r hm r List.mem_cons_self rfl
    rw [List.map_cons, List.foldl_cons, dtab_put_new hr]
    have e : dtab (S ++ [r]) (fset f r (f r)) = dtab (S ++ [r]) f := dtab_congr fun q _ => by
      unfold fset
      by_cases e : q = r
      · rw [if_pos e, e]
      · rw [if_neg e]
    show List.foldl _ (dtab (S ++ [r]) (fset f r (f r))) _ = _
    rw [e, dtab_fold R (S ++ [r]) (by rw [List.append_assoc]; exact h), List.append_assoc] <;> rfl
section
variable {P : Program} {w : World} {K : PySem.W.Frag} {mg : Str → Option Value} {base : Heap} {a : Nat → Addr} {d : Nat → FuncData} {tk : Nat → Tok}
/-! _law_places -/
def sp__law_places : Sp := fun vs H Q _ => ∃ (x : V) (Ls : List (List (List Int))) (R : List (List Int)) (n : Nat), vs = [x] ∧ LLs H x Ls ∧ OkLists n Ls ∧ Ls[0]? = some R ∧ ∀ p H2, H p = none → Ex H H2 → PosAt H2 p Ls R → Q (.ref p) H2
end
end Mv
/-! _law_ahead, _law_most. -/
namespace Mv
open PySem PySem.Spec PyProof.Rows L2 Evl
theorem any_ge (Ls : List (List (List Int))) (q r : List Int) : ((posL Ls q).zip (posL Ls r)).length = Ls.length := by
  unfold posL
  rw [List.length_zip, List.length_map, List.length_map, Nat.min_self]
theorem lev_unique {Ls : List (List (List Int))} {R : List (List Int)} {lev lev' : List Int → Nat} {ahd ahd' : List Int → Option (List Int)} (L : LevOn Ls R lev ahd) (L' : LevOn Ls R lev' ahd') {R0 : List (List Int)} (h0 : R0 ∈ Ls) : ∀ (k : Nat) (r : List Int), r ∈ R → R0.idxOf r = k → lev r = lev' r := by
  intro k
  induction k using Nat.strongRecOn with
  | ind k ih =>
    intro r hr e
    have h : ∀ {lev lev' : List Int → Nat} {ahd ahd' : List Int → Option (List Int)}, LevOn Ls R lev ahd → LevOn Ls R lev' ahd' → (∀ q ∈ R, R0.idxOf q < k → lev q = lev' q) → lev r ≤ lev' r := fun {lev lev' ahd ahd'} L L' same => by
      rcases L.how r hr with ⟨z, _⟩ | ⟨q, hq, h1, h2, _⟩
      · omega
      · have a := L'.lt r hr q hq h1
        have b := same q hq (by have := Ah.lt h1 h0; omega)
        omega
    refine Nat.le_antisymm (h L L' fun q hq hk => ih _ hk q hq rfl) (h L' L fun q hq hk => (ih _ hk q hq rfl).symm)
theorem count_unique {Ls : List (List (List Int))} {R : List (List Int)} {lev lev' : List Int → Nat} {ahd ahd' : List Int → Option (List Int)} {M M' : Nat} (L : LevOn Ls R lev ahd) (L' : LevOn Ls R lev' ahd') {R0 : List (List Int)} (h0 : R0 ∈ Ls) (c : IsCount R lev M) (c' : IsCount R lev' M') : M = M' := by
  have e : ∀ r ∈ R, lev r = lev' r := fun r hr => lev_unique L L' h0 _ r hr rfl
  rcases Classical.em (R = []) with z | z
  · rw [c.nil z, c'.nil z]
  · obtain ⟨r, hr, h1⟩ := c.hit z
    obtain ⟨r', hr', h2⟩ := c'.hit z
    have a := c'.lt r hr
    have b := c.lt r' hr'
    have e1 := e r hr
    have e2 := e r' hr'
    omega
section
variable {K : PySem.W.Frag} {σ : L2.St} {H H' : Hp} {ta tb tc te tl tx : TE} {t u : TT} {x y z v : V} {D : Ends}
/-- a comprehension over zip(xs, ys) -/
theorem el_lcZ {ta : TA} {p q : Addr} {xs ys : List V} {j1 j2 : Nat} {vs : List Nat} (f : Nat → Bool) (v : Nat → V) (h : EvA ta σ H [.ref p, .ref q]) (hx : SqL K H p xs) (hy : SqL K H q ys) (hl : xs.length = ys.length) (hz : xs.length ≤ 40000) (hw : ∀ x y, wipe (((wipe σ vs).set j1 (some x)).set j2 (some y)) vs = wipe σ vs)
    (ht : ∀ (i : Nat) (x y : V) H1, Ex H H1 → xs[i]? = some x → ys[i]? = some y → EvT t (((wipe σ vs).set j1 (some x)).set j2 (some y)) H1 (f i)) (he : ∀ (i : Nat) (x y : V) H1, Ex H H1 → xs[i]? = some x → ys[i]? = some y → f i = true → Ev te (((wipe σ vs).set j1 (some x)).set j2 (some y)) H1 (v i)) :
    EvL (tLc (iZip K ta) (gTup K 2 (gCons (gName j1) (gCons (gName j2) gNil))) t te vs) σ H (given xs.length f v) := fun H0 e Q k => h H0 e _ fun H1 e1 => ⟨p, q, xs, ys, rfl, ex_l (e.trans e1) hx, ex_l (e.trans e1) hy, fun Dl hD => by
  refine lc_it (walk_zip (K := K) (a := p) (b := q) (n := xs.length) (by rw [← hl, Nat.min_self])) (Cw H1 f v Dl) ⟨hD, Ex.new hD, upd_same⟩ (fun i H' _ pv => ⟨ex_l ((e.trans e1).trans pv.2.1) hx, ex_l ((e.trans e1).trans pv.2.1) hy⟩) ?_ fun H' pv => k Dl H' (fresh_back e1 pv.1) (e1.trans pv.2.1) pv.2.2
  rintro i x H' H'' hi pv ⟨T0, x1, x2, rfl, hT, rfl, g1, g2⟩
  obtain ⟨p1, p2, p3⟩ := pv
  have eT : Ex H' (upd H' T0 (.tup [x1, x2])) := Ex.new hT
  exact ⟨T0, _, rfl, st_of upd_same, rfl, _, _, rfl, _, _, rfl, rfl, hw _ _, cw_turn ⟨p1, p2.trans eT, eT _ _ p3⟩ (by omega) (ht i x1 x2 H1 (e.trans e1) g1 g2) (fun hf => he i x1 x2 H1 (e.trans e1) g1 g2 hf)⟩⟩
theorem given_empty {n : Nat} {f : Nat → Bool} {v : Nat → V} : (given n f v).isEmpty = (List.range n).all fun i => !f i := by
  unfold given
  rw [Bool.eq_iff_iff, List.isEmpty_iff, List.map_eq_nil_iff, List.filter_eq_nil_iff, List.all_eq_true]
  constructor
  · intro h i hi
    have := h i hi
    simpa using this
  · intro h i hi
    have := h i hi
    simpa using this
end
section
variable {P : Program} {w : World} {K : PySem.W.Frag} {mg : Str → Option Value} {base : Heap} {a : Nat → Addr} {d : Nat → FuncData} {tk : Nat → Tok}
/-! _law_ahead -/
def sp__law_ahead : Sp := fun vs H Q _ => ∃ (p : Addr) (x y : V) (Ls : List (List (List Int))) (R : List (List Int)) (q r : List Int), vs = [.ref p, x, y] ∧ PosAt H p Ls R ∧ IsRow H x q ∧ IsRow H y r ∧ q ∈ R ∧ r ∈ R ∧ Ls.length ≤ 6 ∧ RetV (.bl (Ah Ls q r)) H Q
/-! _law_most -/
theorem max_zero (l : List Nat) : ∃ m, (m = 0 ∨ m ∈ l) ∧ ∀ x ∈ l, x ≤ m := by
  induction l with
  | nil => exact ⟨0, .inl rfl, fun x h => by cases h⟩
  | cons a l ih =>
    obtain ⟨m, h1, h2⟩ := ih
    by_cases h : m ≤ a
    · refine ⟨a, .inr List.mem_cons_self, fun x hx => ?_⟩
      rcases List.mem_cons.mp hx with e | hx
      · omega
      · have := h2 x hx; omega
    · refine ⟨m, h1.imp id fun h => List.mem_cons_of_mem _ h, fun x hx => ?_⟩
      rcases List.mem_cons.mp hx with e | hx
      · omega
      · exact h2 x hx
/-- max(xs + [0]) -/
theorem ev_max0 {K : PySem.W.Frag} {σ : L2.St} {H : Hp} {ta : TE} {p : Addr} {l : List Nat} {m : Nat} (ha : Ev ta σ H (.ref p)) (hp : H p = some (.lst (l.map fun n : Nat => V.int (n : Int)))) (hl : l.length ≤ 1000) (h1 : m = 0 ∨ m ∈ l) (h2 : ∀ x ∈ l, x ≤ m) :
    Ev (tCB (rMax K) (tCons (tOp rCat ta (tLst (tCons (tC (.int 0)) tNil))) tNil)) σ H (.int (m : Int)) := fun H1 e Q q =>
  ha H1 e _ fun H2 e2 => ⟨sz_of (show 1 ≤ 100000 by decide), fun s hs => by
    have e3 : Ex H2 (upd H2 s (.lst [.int 0])) := Ex.new hs
    refine ⟨p, s, _, [.int 0], rfl, rfl, (e.trans (e2.trans e3)) _ _ hp, upd_same, ?_, fun u hu => ?_⟩
    · rw [List.length_map]
      exact sz_of (by show l.length + 1 ≤ 100000; omega)
    · have e4 := Ex.new (o := .lst ((l.map fun n : Nat => V.int (n : Int)) ++ [.int 0])) hu
      refine ⟨u, (l.map fun n : Nat => (n : Int)) ++ [0], rfl, sq_of ?_, ?_, fun mx hm hb => ?_⟩
      · rw [upd_same, List.map_append, List.map_map]
        rfl
      · rw [List.length_append, List.length_singleton]
        omega
      · have em : mx = (m : Int) := by
          have a1 : (m : Int) ≤ mx := by
            rcases h1 with z | z
            · have := hb 0 (List.mem_append_right _ List.mem_cons_self)
              omega
            · exact hb _ (List.mem_append_left _ (List.mem_map_of_mem (f := fun n : Nat => (n : Int)) z))
          rcases List.mem_append.mp hm with z | z
          · obtain ⟨n, hn, en⟩ := List.mem_map.mp z
            have := h2 n hn
            have en : (n : Int) = mx := en
            omega
          · have := List.mem_singleton.mp z
            omega
        rw [em]
        exact q _ ((e2.trans e3).trans e4)⟩
def PosN (H : Hp) (p : Addr) (Ls : List (List (List Int))) (R : List (List Int)) (kn : Addr) : Prop := ∃ g : List Int → V, H p = some (.dT (dtab R g)) ∧ ∀ r ∈ R, ∃ b, g r = .ref b ∧ H b = some (.lst (posL Ls r)) ∧ b ≠ kn
theorem PosN.at {H : Hp} {p : Addr} {Ls : List (List (List Int))} {R : List (List Int)} {kn : Addr} (h : PosN H p Ls R kn) : PosAt H p Ls R := let ⟨g, h1, h2⟩ := h; ⟨g, h1, fun r hr => let ⟨b, h3, h4, _⟩ := h2 r hr; ⟨b, h3, h4⟩⟩
theorem PosN.ex {H H' : Hp} {p : Addr} {Ls : List (List (List Int))} {R : List (List Int)} {kn : Addr} (h : PosN H p Ls R kn) (e : Ex H H') : PosN H' p Ls R kn := let ⟨g, h1, h2⟩ := h; ⟨g, e _ _ h1, fun r hr => let ⟨b, h3, h4, h5⟩ := h2 r hr; ⟨b, h3, e _ _ h4, h5⟩⟩
def sp__law_most : Sp := fun vs H Q _ => ∃ (x : V) (Ls : List (List (List Int))) (R : List (List Int)) (n : Nat), vs = [x] ∧ LLs H x Ls ∧ OkLists n Ls ∧ Ls[0]? = some R ∧ ∀ lev ahd M H2, LevOn Ls R lev ahd → IsCount R lev M → Ex H H2 → Q (.int (M : Int)) H2
end
end Mv
/-! _law_are_right. -/
namespace Mv
open PySem PySem.Spec PyProof.Rows L2 Evl
theorem lev_hit {Ls : List (List (List Int))} {R : List (List Int)} {lev : List Int → Nat} {ahd : List Int → Option (List Int)} {M : Nat} (L : LevOn Ls R lev ahd) (hM : IsCount R lev M) : ∀ i, i < M → ∃ r ∈ R, lev r = i := by
  have down : ∀ k, ∀ r ∈ R, lev r = k → ∀ i, i ≤ k → ∃ q ∈ R, lev q = i := by
    intro k
    induction k with
    | zero =>
      intro r hr e i hi
      exact ⟨r, hr, by omega⟩
    | succ k ih =>
      intro r hr e i hi
      by_cases h : i = k + 1
      · exact ⟨r, hr, by omega⟩
      · rcases L.how r hr with ⟨z, _⟩ | ⟨q, hq, _, h2, _⟩
        · omega
        · exact ih q hq (by omega) i (by omega)
  intro i hi
  have hne : R ≠ [] := fun z => by have := hM.nil z; omega
  obtain ⟨r, hr, e⟩ := hM.hit hne
  exact down (lev r) r hr rfl i (by omega)
def flatLev (R : List (List Int)) (lev : List Int → Nat) (M : Nat) : List (List Int) := ((List.range M).map fun i => R.filter fun r => decide (lev r = i)).flatten
theorem flat_perm (R : List (List Int)) (lev : List Int → Nat) : ∀ M, (flatLev R lev M).Perm (R.filter fun r => decide (lev r < M))
  | 0 => by
    have : (R.filter fun r => decide (lev r < 0)) = [] := List.filter_eq_nil_iff.mpr fun r _ => by simp
    rw [this]
    exact .refl _
  | M + 1 => by
    have e : flatLev R lev (M + 1) = flatLev R lev M ++ R.filter fun r => decide (lev r = M) := by
      unfold flatLev
      rw [List.range_succ, List.map_append, List.flatten_append]
      simp
    rw [e]
    have z := List.filter_append_perm (fun r => decide (lev r < M)) (R.filter fun r => decide (lev r < M + 1))
    rw [List.filter_filter, List.filter_filter] at z
    have z1 : (R.filter fun r => decide (lev r < M) && decide (lev r < M + 1)) = R.filter fun r => decide (lev r < M) := List.filter_congr fun r _ => by
      by_cases h : lev r < M
      · rw [decide_eq_true h, decide_eq_true (by omega)] <;> rfl
      · rw [decide_eq_false h] <;> rfl
    have z2 : (R.filter fun r => !decide (lev r < M) && decide (lev r < M + 1)) = R.filter fun r => decide (lev r = M) := List.filter_congr fun r _ => by
      by_cases h : lev r = M
      · rw [decide_eq_true h, decide_eq_false (by omega), decide_eq_true (by omega)] <;> rfl
      · rw [decide_eq_false h]
        by_cases h2 : lev r < M
        · rw [decide_eq_true h2] <;> rfl
        · rw [decide_eq_false h2, decide_eq_false (by omega)] <;> rfl
    rw [z1, z2] at z
    exact ((flat_perm R lev M).append_right _).trans z
theorem flat_all {R : List (List Int)} {lev : List Int → Nat} {M : Nat} (h : ∀ r ∈ R, lev r < M) : (flatLev R lev M).Perm R := by
  have z := flat_perm R lev M
  have e : (R.filter fun r => decide (lev r < M)) = R := List.filter_eq_self.mpr fun r hr => decide_eq_true (h r hr)
  rwa [e] at z
theorem chn_at {Ls : List (List (List Int))} : ∀ {ds : List (List Int)}, Chn Ls ds → ∀ (i : Nat) (q r : List Int), ds[i]? = some q → ds[i + 1]? = some r → Ah Ls q r = true
  | [], _, i, q, r, h, _ => by simp at h
  | [_], _, i, q, r, _, h => by simp at h
  | a :: b :: l, hc, 0, q, r, h1, h2 => by
    cases (Option.some.inj (show some _ = some q from h1))
    cases (Option.some.inj (show some _ = some r from h2))
    exact hc.1
  | a :: b :: l, hc, i + 1, q, r, h1, h2 => chn_at (ds := b :: l) hc.2 i q r h1 h2
/-- the levels as a list of lists -/
def LevV (H : Hp) (y : V) (R : List (List Int)) (lev : List Int → Nat) (M : Nat) : Prop := ∃ l ys, y = .ref l ∧ H l = some (.lst ys) ∧ ys.length = M ∧ ∀ (i : Nat) (z : V), ys[i]? = some z → LRw H z (R.filter fun r => decide (lev r = i))
theorem LevV.ex {H H' : Hp} {y : V} {R : List (List Int)} {lev : List Int → Nat} {M : Nat} (h : LevV H y R lev M) (e : Ex H H') : LevV H' y R lev M := let ⟨l, ys, h1, h2, h3, h4⟩ := h; ⟨l, ys, h1, e _ _ h2, h3, fun i z hz => (h4 i z hz).ex e⟩
theorem lists_of {H : Hp} : ∀ (ys : List V) (f : Nat → List (List Int)) (k : Nat), (∀ (i : Nat) (z : V), ys[i]? = some z → LRw H z (f (k + i))) → ∃ ls : List (Addr × List V), ys = ls.map (fun p => V.ref p.1) ∧ (∀ p ∈ ls, H p.1 = some (.lst p.2)) ∧ Paired (IsRow H) (ls.map (·.2)).flatten ((List.range' k ys.length).map f).flatten
  | [], f, k, _ => ⟨[], rfl, fun p h => (by cases h), .nil⟩
  | y :: ys, f, k, h => by
    obtain ⟨ls, e1, e2, e3⟩ := lists_of ys f (k + 1) fun i z hz => by
      have := h (i + 1) z hz
      have e : k + (i + 1) = k + 1 + i := by omega
      rw [e] at this
      exact this
    obtain ⟨b, zs, z1, z2, z3⟩ := h 0 y rfl
    refine ⟨(b, zs) :: ls, by rw [List.map_cons, e1, z1] <;> simp, fun p hp => ?_, ?_⟩
    · rcases List.mem_cons.mp hp with e | hp
      · rw [e]; exact z2
      · exact e2 p hp
    · rw [List.length_cons, List.range'_succ, List.map_cons, List.map_cons, List.flatten_cons, List.flatten_cons]
      exact Paired.append z3 e3
section
variable {K : PySem.W.Frag} {σ : L2.St} {H H' : Hp} {ta tb tc te tl tx : TE} {t u : TT} {x y z v : V} {D : Ends}
theorem ep_sum {R : List (List Int)} {lev : List Int → Nat} {M : Nat} (ha : Ev ta σ H y) (hy : LevV H y R lev M) (hz : (flatLev R lev M).length ≤ 1000) : EvP (tCB rSumL (tCons ta (tCons (tLst tNil) tNil))) σ H (fun v H2 => Rws H2 v (flatLev R lev M)) := fun H1 e Q q =>
  ha H1 e _ fun H2 e2 => ⟨Nat.zero_le _, fun s hs => by
    have e3 : Ex H2 (upd H2 s (.lst [])) := Ex.new hs
    obtain ⟨l, ys, rfl, hl, hM, hL⟩ := hy.ex (e.trans (e2.trans e3))
    obtain ⟨ls, g1, g2, g3⟩ := lists_of ys (fun i => R.filter fun r => decide (lev r = i)) 0 fun i z hz => by
      rw [Nat.zero_add]
      exact hL i z hz
    rw [hM, ← List.range_eq_range'] at g3
    have g3 : Paired (IsRow (upd H2 s (.lst []))) (ls.map (·.2)).flatten (flatLev R lev M) := g3
    have len := Paired.length g3
    refine ⟨l, s, ls, [], rfl, by rw [hl, g1], g2, upd_same, ?_, fun hn => ?_, fun p hp => ?_⟩
    · rw [List.length_nil, Nat.zero_add, len]
      exact sz_of (by omega)
    · refine q _ _ (e2.trans e3) ⟨s, [], rfl, .inl upd_same, ?_⟩
      rw [hn] at g3
      exact g3
    · have e4 : Ex (upd H2 s (.lst [])) (upd (upd H2 s (.lst [])) p (.lst ([] ++ (ls.map (·.2)).flatten))) := Ex.new hp
      refine q _ _ ((e2.trans e3).trans e4) ⟨p, _, rfl, .inl upd_same, ?_⟩
      rw [List.nil_append]
      exact Paired.imp (fun _ _ h => h.ex e4) g3⟩
theorem ef_sortedP {n : Nat} {rs : List (List Int)} (ha : EvP ta σ H (fun x H2 => Rws H2 x rs)) (ho : ∀ r ∈ rs, OkRow n r) (h60 : rs.length < 64) : EvF (tCB (rSortS K n 1000) (tCons ta tNil)) σ H (NewRows fun cs => SortedRows cs rs) := fun H1 e Q q =>
  ha H1 e _ fun x H2 e2 hx => by
    have z := ef_sorted (K := K) (σ := [some x]) (ta := tVar 0) (ev_var rfl) hx ho h60
    obtain ⟨v, hv, h⟩ := z H2 (Ex.refl H2) Q fun p H3 hp e3 h => q p H3 (fresh_back e2 hp) (e2.trans e3) h
    have hv : some (some x) = some (some v) := hv
    cases hv
    exact h
theorem et_sortedNeP {n : Nat} {rs qs : List (List Int)} (ha : EvP ta σ H (fun x H2 => Rws H2 x rs)) (hb : EvP tb σ H (fun x H2 => Rws H2 x qs)) (ho : ∀ r ∈ rs, OkRow n r) (h60 : rs.length < 64) (pm : qs.Perm rs) :
    EvT (tTest (tOp (rNeD K) (tCB (rSortS K n 1000) (tCons ta tNil)) (tCB (rSortS K n 1000) (tCons tb tNil)))) σ H false := fun H1 e Q q =>
  ef_sortedP ha ho h60 H1 e _ fun p H2 _ e2 ⟨cs, xs, h1, h2, h3⟩ =>
    ef_sortedP hb (fun r hr => ho r (pm.mem_iff.mp hr)) (by rw [pm.length_eq]; exact h60) H2 (e.trans e2) _ fun p' H3 _ e3 ⟨ds, ys, g1, g2, g3⟩ => by
      have e0 : cs = ds := sorted_same h1 g1 ho pm
      subst e0
      refine ⟨.list (cs.map rd), .list (cs.map rd), .lst (sq_of (e3 _ _ h2)) (dp_rows (Paired.imp (fun _ _ z => z.ex e3) h3)), .lst (sq_of g2) (dp_rows g3), shaped_rows _, shaped_rows _, false, ?_, q H3 (e2.trans e3)⟩
      rw [SeqAt.eqv_refl _ (SeqAt.canLay_of_shaped (shaped_rows cs))] <;> rfl
theorem mem_cutV {xs : List V} {lo hi : Option Int} {x : V} (h : x ∈ cutV xs lo hi) : x ∈ xs := by
  unfold cutV at h
  exact List.mem_of_mem_drop (List.mem_of_mem_take h)
end
section
variable {P : Program} {w : World} {K : PySem.W.Frag} {mg : Str → Option Value} {base : Heap} {a : Nat → Addr} {d : Nat → FuncData} {tk : Nat → Tok}
def sp__law_are_right : Sp := fun vs H Q _ => ∃ (x : V) (f : Addr) (y : V) (Ls : List (List (List Int))) (R : List (List Int)) (n : Nat) (ys : List V) (ds : List (List Int)) (lev : List Int → Nat) (ahd : List Int → Option (List Int)) (M : Nat), vs = [x, .ref f, y] ∧ LLs H x Ls ∧ OkLists n Ls ∧ Ls[0]? = some R ∧
  H f = some (.lst ys) ∧ Paired (IsRow H) ys ds ∧ Chn Ls ds ∧ (∀ q ∈ ds, q ∈ R) ∧ ds.length = M ∧ LevOn Ls R lev ahd ∧ IsCount R lev M ∧ LevV H y R lev M ∧ RetV (.bl true) H Q
end
end Mv
/-! The law's draws. -/
namespace Mv
open PySem PySem.Spec PyProof.Rows L2 Evl
/-- all but p stays -/
def ExB (p : Addr) (H H' : Hp) : Prop := ∀ a o, a ≠ p → H a = some o → H' a = some o
theorem Ex.b {p : Addr} {H H' : Hp} (e : Ex H H') : ExB p H H' := fun a o _ h => e a o h
theorem ExB.trans {p : Addr} {H H1 H2 : Hp} (a : ExB p H H1) (b : ExB p H1 H2) : ExB p H H2 := fun x o n h => b x o n (a x o n h)
theorem ExB.refl {p : Addr} (H : Hp) : ExB p H H := fun _ _ _ h => h
theorem ExB.mut {p q : Addr} {H H' : Hp} {o : HO} (e : ExB p H H') (h : H q = none) : ExB p H (upd H' q o) := fun a u n ha => by
  rw [upd_ne (ne_of_none ha h)]
  exact e a u n ha
theorem ExB.own {p : Addr} {H H' : Hp} {o : HO} (e : ExB p H H') : ExB p H (upd H' p o) := fun a u n ha => by
  rw [upd_ne n]
  exact e a u n ha
theorem ExB.back {p q : Addr} {H H' : Hp} (e : ExB p H H') (n : q ≠ p) (h : H' q = none) : H q = none := by
  cases z : H q with
  | none => rfl
  | some o =>
    rw [e q o n z] at h
    cases h
/-- the law's box behind at most n draws of the second kind -/
def BoxAt (H : Hp) (p : Addr) (n : Nat) : Prop := ∃ b0 b1 b2 : Int, H p = some (.lst [.int b0, .int b1, .int b2]) ∧ 0 ≤ b1 ∧ b1 < 2147483629 ∧ 0 ≤ b2 ∧ b2 ≤ (n : Int)
theorem BoxAt.ex {H H' : Hp} {p : Addr} {n : Nat} (h : BoxAt H p n) (e : Ex H H') : BoxAt H' p n := let ⟨b0, b1, b2, h1, h2⟩ := h; ⟨b0, b1, b2, e _ _ h1, h2⟩
theorem BoxAt.mono {H : Hp} {p : Addr} {n m : Nat} (h : BoxAt H p n) (l : n ≤ m) : BoxAt H p m := let ⟨b0, b1, b2, h1, h2, h3, h4, h5⟩ := h; ⟨b0, b1, b2, h1, h2, h3, h4, by omega⟩
theorem BoxAt.upd {H : Hp} {p q : Addr} {n : Nat} {o : HO} (h : BoxAt H p n) (ne : p ≠ q) : BoxAt (L2.upd H q o) p n := let ⟨b0, b1, b2, h1, h2⟩ := h; ⟨b0, b1, b2, by rw [upd_ne ne]; exact h1, h2⟩
theorem BoxAt.some {H : Hp} {p : Addr} {n : Nat} (h : BoxAt H p n) : H p ≠ none := fun z => by
  obtain ⟨_, _, _, h1, _⟩ := h
  rw [z] at h1
  cases h1
theorem BoxAt.ne {H : Hp} {p q : Addr} {n : Nat} (h : BoxAt H p n) (hq : H q = none) : p ≠ q := fun z => h.some (z ▸ hq)
theorem IsRow.exB {H H' : Hp} {p : Addr} {n : Nat} {x : V} {r : List Int} (h : IsRow H x r) (hb : BoxAt H p n) (e : ExB p H H') : IsRow H' x r := by
  obtain ⟨b, rfl, h1⟩ := h
  obtain ⟨_, _, _, h2, _⟩ := hb
  exact ⟨b, rfl, e _ _ (fun z => by rw [z, h2] at h1; cases h1) h1⟩
theorem rows_box {H : Hp} {p q : Addr} {n : Nat} {ys : List V} {rs : List (List Int)} (hb : BoxAt H p n) (hq : H q = some (.lst ys)) (hp : Paired (IsRow H) ys rs) : q ≠ p := fun z => by
  obtain ⟨b0, b1, b2, h2, _⟩ := hb
  rw [z, h2] at hq
  injection hq with hq
  injection hq with hq
  subst hq
  cases hp with
  | cons h _ =>
    obtain ⟨_, e, _⟩ := h
    cases e
theorem LRw.exB {H H' : Hp} {p : Addr} {n : Nat} {x : V} {rs : List (List Int)} (h : LRw H x rs) (hb : BoxAt H p n) (e : ExB p H H') : LRw H' x rs := by
  obtain ⟨b, ys, rfl, h1, h2⟩ := h
  exact ⟨b, ys, rfl, e _ _ (rows_box hb h1 h2) h1, Paired.imp (fun _ _ z => z.exB hb e) h2⟩
theorem LRw.upd {H : Hp} {q : Addr} {x : V} {rs : List (List Int)} {o o' : HO} (h : LRw H x rs) (hq : H q = some o) (ne : ∀ xs, o ≠ .tup xs) (hx : x ≠ .ref q) : LRw (L2.upd H q o') x rs := by
  obtain ⟨b, ys, rfl, h1, h2⟩ := h
  exact ⟨b, ys, rfl, by rw [upd_ne (fun z => hx (by rw [z]))]; exact h1, Paired.imp (fun _ _ z => z.upd hq ne) h2⟩
theorem erase_perm {α : Type} : ∀ {l : List α} {i : Nat} (h : i < l.length), (l[i] :: l.eraseIdx i).Perm l
  | _ :: _, 0, _ => List.Perm.refl _
  | a :: l, i + 1, h => by
    have h2 : i < l.length := by simpa using h
    have ih := erase_perm (l := l) (i := i) h2
    show (l[i] :: a :: l.eraseIdx i).Perm (a :: l)
    exact (List.Perm.swap _ _ _).trans (ih.cons a)
theorem lst_ntup (ys : List V) : ∀ xs, HO.lst ys ≠ .tup xs := fun _ z => by cases z
theorem Paired.take {α β : Type} {F : α → β → Prop} : ∀ {xs : List α} {ys : List β} (n : Nat), Paired F xs ys → Paired F (xs.take n) (ys.take n)
  | _, _, 0, _ => by rw [List.take_zero, List.take_zero]; exact .nil
  | _, _, _ + 1, .nil => .nil
  | _, _, n + 1, .cons h t => .cons h (Paired.take n t)
theorem Paired.drop {α β : Type} {F : α → β → Prop} : ∀ {xs : List α} {ys : List β} (n : Nat), Paired F xs ys → Paired F (xs.drop n) (ys.drop n)
  | _, _, 0, h => h
  | _, _, _ + 1, .nil => .nil
  | _, _, n + 1, .cons _ t => Paired.drop n t
theorem Paired.erase {α β : Type} {F : α → β → Prop} : ∀ {xs : List α} {ys : List β} (n : Nat), Paired F xs ys → Paired F (xs.eraseIdx n) (ys.eraseIdx n)
  | _, _, _, .nil => .nil
  | _, _, 0, .cons _ t => t
  | _, _, n + 1, .cons h t => .cons h (Paired.erase n t)
section
variable {P : Program} {w : World} {K : PySem.W.Frag} {mg : Str → Option Value} {base : Heap} {a : Nat → Addr} {d : Nat → FuncData} {tk : Nat → Tok}
/-! _law_cell, _law_box -/
def sp__law_cell (K : PySem.W.Frag) : Sp := fun vs H Q _ => ∃ (p : Addr) (ns : List Int) (k : Nat), vs = [.ref p, .int (k : Int)] ∧ SqL K H p (ns.map V.int) ∧ k ≤ 100 ∧ ∀ c, RetV (.int c) H Q
theorem ok__law_cell (T : All K mg a d tk) : FnOk P w K mg base CX0 1 (a 23) (d 23) ["script", "k"] (sp__law_cell K) := by
  refine T.F__law_cell.fn.ok sc__law_cell (fun vs H Q E h => ?_) (fun cdv A outer s H vs Q E hr h => ?_)
  · obtain ⟨p, ns, k, rfl, _⟩ := h
    rfl
  · obtain ⟨p, ns, k, rfl, hs, hk, kk⟩ := h
    have nd := sc__law_cell.nd
    refine ⟨_, (pss_cons (ps_if (pt_cmpR op_lt (pv 1) (pe_callB call_len_seq (by rfl) T.n_len PySem.boot_len (pa_cons (pv 0) pa_nil)) (nomark _))
 (pss_one (ps_ret (pe_ix ix_list (pv 0) (pv 1) (fun _ _ => rfl))))
 pss_nil)
 (pss_one (ps_ret (pe_op op_add (pe_op op_mul pe_int (pv 1)) pe_int)))), ?_⟩
    refine q_when (et_I0 (ev_var rfl) (ev_len (ev_var rfl) hs)) (fun hb H1 e1 => ?_) fun hb H1 e1 => ?_
    · have hb := of_decide_eq_true hb
      have hlt : k < (ns.map V.int).length := by omega
      obtain ⟨c, hc⟩ : ∃ c, (ns.map V.int)[k]? = some (V.int c) := by
        rw [List.length_map] at hlt
        exact ⟨ns[k], by rw [List.getElem?_map, List.getElem?_eq_getElem hlt] <;> rfl⟩
      exact s_ret (ev_ixL (i := (k : Int)) (ev_var rfl) (ev_var rfl) (ex_l e1 hs) (atI_nat hc)) fun H2 e2 => kk c H2 (e1.trans e2)
    · exact s_ret (ev_I0 (ev_I ev_c (ev_var rfl) (.inl ⟨by decide, by decide⟩)) ev_c) fun H2 e2 => kk _ H2 (e1.trans e2)
def sp__law_box : Sp := fun vs H Q _ => ∃ c : Int, vs = [.int c] ∧ ∀ p H2, H p = none → Ex H H2 → BoxAt H2 p 0 → Q (.ref p) H2
theorem ok__law_box (T : All K mg a d tk) : FnOk P w K mg base CX0 1 (a 24) (d 24) ["cell"] sp__law_box := by
  refine T.F__law_box.fn.ok sc__law_box (fun vs H Q E h => ?_) (fun cdv A outer s H vs Q E hr h => ?_)
  · obtain ⟨c, rfl, _⟩ := h
    rfl
  · obtain ⟨c, rfl, k⟩ := h
    have nd := sc__law_box.nd
    refine ⟨_, (pss_one (ps_ret (pe_lst (pa_cons (pe_callB (call_max2 rfl) (by rfl) T.n_max PyProof.Rows.boot_max (pa_cons pe_int (pa_cons (pe_op op_sub (pv 0) (pe_op op_pow pe_int pe_int)) pa_nil))) (pa_cons (pe_op op_mod (pv 0) pe_int) (pa_cons pe_int pa_nil)))))), ?_⟩
    refine s_retL (el_lst (ea_cons (ev_max2 ev_c (ev_I0 (ev_var rfl) (ev_I (i := 10) (j := 18) ev_c ev_c ⟨by decide, by decide, by decide⟩))) (ea_cons (ev_I (j := 2147483629) (ev_var rfl) ev_c (by show (0 : Int) < 2147483629; decide)) (ea_cons ev_c ea_nil))) (show 3 ≤ 100000 by decide)) fun p H1 hp e h => ?_
    exact k p H1 hp e ⟨_, _, _, h, Int.emod_nonneg _ (by decide), Int.emod_lt_of_pos _ (by decide), Int.le_refl _, Int.le_refl _⟩
/-! _law_take -/
def sp__law_take : Sp := fun vs H Q _ => ∃ (p : Addr) (m : Int) (n : Nat), vs = [.ref p, .int m] ∧ 1 ≤ m ∧ m ≤ 100000 ∧ BoxAt H p n ∧ n ≤ 100000 ∧ ∀ (i : Int) (H2 : Hp), 0 ≤ i → i < m → ExB p H H2 → BoxAt H2 p (n + 1) → Q (.int i) H2
theorem ok__law_take (T : All K mg a d tk) : FnOk P w K mg base CX0 1 (a 25) (d 25) ["box", "many"] sp__law_take := by
  refine T.F__law_take.fn.ok sc__law_take (fun vs H Q E h => ?_) (fun cdv A outer s H vs Q E hr h => ?_)
  · obtain ⟨p, m, n, rfl, _⟩ := h
    rfl
  · obtain ⟨p, m, n, rfl, h1, h2, ⟨b0, b1, b2, hb, c1, c2, c3, c4⟩, hn, k⟩ := h
    have nd := sc__law_take.nd
    refine ⟨_, (pss_cons (ps_if (pt_cmpR op_gt (pe_ix ix_list (pv 0) pe_int (fun _ _ => rfl)) pe_int (nomark _))
 (pss_cons (ps_set (i := 2) nd rfl (Or.inl rfl) (pe_op op_mod (pe_ix ix_list (pv 0) pe_int (fun _ _ => rfl)) (pv 1)))
 (pss_cons (ps_asg (pe_op op_fdivW (pe_ix ix_list (pv 0) pe_int (fun _ _ => rfl)) (pv 1)) (pg_sub (pv 0) pe_int set_list))
 (pss_one (ps_ret (pv 2)))))
 pss_nil)
 (pss_cons (ps_asg (pe_op op_add (pe_ix ix_list (pv 0) pe_int (fun _ _ => rfl)) pe_int) (pg_sub (pv 0) pe_int set_list))
 (pss_cons (ps_set (i := 3) nd rfl (Or.inl rfl) (pe_op op_mod (pe_op op_pow (pe_op op_add (pe_op op_add (pe_ix ix_list (pv 0) pe_int (fun _ _ => rfl)) (pe_op op_mul pe_int (pe_ix ix_list (pv 0) pe_int (fun _ _ => rfl)))) pe_int) pe_int) pe_int))
 (pss_cons (ps_set (i := 3) nd rfl (Or.inl rfl) (pe_op op_mod (pe_op op_pow (pe_op op_add (pv 3) (pe_op op_mul pe_int (pe_ix ix_list (pv 0) pe_int (fun _ _ => rfl)))) pe_int) pe_int))
 (pss_one (ps_ret (pe_op op_mod (pe_op op_fdivW (pv 3) pe_int) (pv 1)))))))), ?_⟩
    have g0 : ∀ {H' : Hp} {σ' : L2.St} {x y z : Int}, σ'[0]? = some (some (.ref p)) → H' p = some (.lst [.int x, .int y, .int z]) → Ev (tOp (rIxL K) (tVar 0) (tC (.int 0))) σ' H' (.int x) := fun hσ h => ev_ixL (i := 0) (ev_var hσ) ev_c (sq_of h) rfl
    have g1 : ∀ {H' : Hp} {σ' : L2.St} {x y z : Int}, σ'[0]? = some (some (.ref p)) → H' p = some (.lst [.int x, .int y, .int z]) → Ev (tOp (rIxL K) (tVar 0) (tC (.int 1))) σ' H' (.int y) := fun hσ h => ev_ixL (i := 1) (ev_var hσ) ev_c (sq_of h) rfl
    have g2 : ∀ {H' : Hp} {σ' : L2.St} {x y z : Int}, σ'[0]? = some (some (.ref p)) → H' p = some (.lst [.int x, .int y, .int z]) → Ev (tOp (rIxL K) (tVar 0) (tC (.int 2))) σ' H' (.int z) := fun hσ h => ev_ixL (i := 2) (ev_var hσ) ev_c (sq_of h) rfl
    refine q_when (et_I0 (g0 rfl hb) ev_c) (fun _ H1 e1 => ?_) fun _ H1 e1 => ?_
    · refine q_asg (ev_I (j := m) (g0 rfl (e1 _ _ hb)) (ev_var rfl) (by show (0 : Int) < m; omega)) fun H2 e2 => ?_
      have e12 := e1.trans e2
      refine q_setL (j := 0) (e12 _ _ hb) (ev_I (j := m) (g0 rfl (e12 _ _ hb)) (ev_var rfl) (wide_div (b := 40) (by omega) (by omega) (by decide) (by decide))) (ev_var rfl) ev_c (show 0 < 3 by decide) fun H3 e3 => ?_
      refine s_ret (ev_var rfl) fun H4 e4 => k _ H4 (Int.emod_nonneg _ (by omega)) (Int.emod_lt_of_pos _ (by omega)) ((Ex.b (e12.trans e3)).own.trans (Ex.b e4)) ⟨_, b1, b2, e4 _ _ upd_same, c1, c2, c3, by omega⟩
    · refine q_setL (j := 2) (e1 _ _ hb) (ev_I0 (g2 rfl (e1 _ _ hb)) ev_c) (ev_var rfl) ev_c (show 2 < 3 by decide) fun H2 e2 => ?_
      have e12 := e1.trans e2
      have hb2 : upd H2 p (.lst ([V.int b0, .int b1, .int b2].set 2 (.int (b2 + 1)))) p = some (.lst [.int b0, .int b1, .int (b2 + 1)]) := upd_same
      generalize hH : upd H2 p (.lst ([V.int b0, .int b1, .int b2].set 2 (.int (b2 + 1)))) = H3 at hb2
      have eB : ExB p H H3 := by rw [← hH]; exact (Ex.b e12).own
      have mb : ∀ {i j : Int}, -(2 ^ 64) < i ∧ i < 2 ^ 64 → CMul i j := fun h => .inl h
      refine q_asg (ev_I (j := 2147483647) (ev_I (j := 5) (ev_I0 (ev_I0 (g1 rfl hb2) (ev_I ev_c (g2 rfl hb2) (mb ⟨by decide, by decide⟩))) ev_c) ev_c ⟨by decide, by decide, ?_⟩) ev_c (by show (0 : Int) < 2147483647; decide)) fun H4 e4 => ?_
      · have : (2 : Nat) ^ 64 = 18446744073709551616 := by decide
        rw [this]
        omega
      generalize hmx : (b1 + 15487657 * (b2 + 1) + 379) ^ Int.toNat 5 % 2147483647 = mx
      have q1 : 0 ≤ mx := by rw [← hmx]; exact Int.emod_nonneg _ (by decide)
      have q2 : mx < 2147483647 := by rw [← hmx]; exact Int.emod_lt_of_pos _ (by decide)
      refine q_asg (ev_I (j := 2147483587) (ev_I (j := 3) (ev_I0 (ev_var rfl) (ev_I ev_c (g2 rfl (e4 _ _ hb2)) (mb ⟨by decide, by decide⟩))) ev_c ⟨by decide, by decide, ?_⟩) ev_c (by show (0 : Int) < 2147483587; decide)) fun H5 e5 => ?_
      · have : (2 : Nat) ^ 64 = 18446744073709551616 := by decide
        rw [this]
        omega
      refine s_ret (ev_I (j := m) (ev_I (j := 16) (ev_var rfl) ev_c (wide_div (b := 40) (by decide) (by decide) (by decide) (by decide))) (ev_var rfl) (by show (0 : Int) < m; omega)) fun H6 e6 => ?_
      exact k _ H6 (Int.emod_nonneg _ (by omega)) (Int.emod_lt_of_pos _ (by omega)) (eB.trans (Ex.b ((e4.trans e5).trans e6))) ⟨b0, b1, b2 + 1, (e4.trans (e5.trans e6)) _ _ hb2, c1, c2, by omega, by omega⟩
/-! _law_mixed -/
def PermRes (p : Addr) (n : Nat) (H : Hp) (rs : List (List Int)) (Q : VK) : Prop := ∀ (v : V) (cs : List (List Int)) (H2 : Hp), LRw H2 v cs → cs.Perm rs → ExB p H H2 → BoxAt H2 p n → Q v H2
def sp__law_mixed : Sp := fun vs H Q _ => ∃ (p : Addr) (x : V) (rs : List (List Int)) (n : Nat), vs = [.ref p, x] ∧ LRw H x rs ∧ rs.length ≤ 60 ∧ BoxAt H p n ∧ n ≤ 90000 ∧ PermRes p (n + 100) H rs Q
theorem ok__law_mixed (T : All K mg a d tk) : FnOk P w K mg base CX0 2 (a 26) (d 26) ["box", "things"] sp__law_mixed := by
  refine T.F__law_mixed.fn.ok sc__law_mixed (fun vs H Q E h => ?_) (fun cdv A outer s H vs Q E hr h => ?_)
  · obtain ⟨p, x, rs, n, rfl, _⟩ := h
    rfl
  · obtain ⟨p, x, rs, n, rfl, ⟨xb, xs, rfl, hx, hxp⟩, h60, hB, hn, k⟩ := h
    have nd := sc__law_mixed.nd
    have hu0 := hr.units0
    refine ⟨_, (pss_cons (ps_par (i := 2) (j := 3) rfl nd rfl rfl (by decide) rfl rfl (pa_cons (pe_callTy call_list_of rfl T.n_list PyProof.Rows.boot_list (pa_cons (pv 1) pa_nil)) (pa_cons (pe_lst pa_nil) pa_nil)) (by rfl))
 (pss_cons (ps_while PassesOwn.never (pt_cmpR (op_neNil hu0) (pv 2) (pe_lst pa_nil) (nomark _))
 (pss_one (ps_expr (pe_bm PySem.F.plainAttrs_list PySem.F.slot_list_append PySem.F.type_list_append mt_append (pv 3) (pa_cons (pe_bm PySem.F.plainAttrs_list PySem.F.slot_list_pop PySem.F.type_list_pop mt_popAt (pv 2) (pa_cons (pe_call (ok__law_take T) (hr.mono (by decide)) rfl T.F__law_take.m T.F__law_take.kp T.F__law_take.b .nil pass0 (pa_cons (pv 0) (pa_cons (pe_callB call_len_seq (by rfl) T.n_len PySem.boot_len (pa_cons (pv 2) pa_nil)) pa_nil))) pa_nil)) pa_nil)))))
 (pss_one (ps_ret (pv 3))))), ?_⟩
    refine ⟨_, rfl, xb, xs, rfl, .inl (sq_of hx), fun lf hlf => ⟨Nat.zero_le _, fun fd hfd => ⟨_, _, rfl, ?_⟩⟩⟩
    have eL : Ex H (upd H lf (.lst xs)) := Ex.new hlf
    have nfd : H fd = none := fresh_back eL hfd
    have nlf : lf ≠ fd := fun z => by rw [← z, upd_same] at hfd; cases hfd
    have eF : Ex (upd H lf (.lst xs)) (upd (upd H lf (.lst xs)) fd (.lst [])) := Ex.new hfd
    have e0 := eL.trans eF
    have bl : p ≠ lf := hB.ne hlf
    have bf : p ≠ fd := hB.ne nfd
    let W : Nat → L2.St → Hp → Prop := fun m σ' H' => ExB p H H' ∧ ∃ (ls fs : List V) (cl cf : List (List Int)), σ' = [some (.ref p), some (.ref xb), some (.ref lf), some (.ref fd)] ∧ H' lf = some (.lst ls) ∧ H' fd = some (.lst fs) ∧ Paired (IsRow H') ls cl ∧ Paired (IsRow H') fs cf ∧ (cl ++ cf).Perm rs ∧ ls.length = m ∧ m ≤ rs.length ∧ BoxAt H' p (n + (rs.length - m))
    have lx : xs.length = rs.length := Paired.length hxp
    refine q_while W rs.length ⟨Ex.b e0, xs, [], rs, [], rfl, eF _ _ upd_same, upd_same, Paired.imp (fun _ _ h => h.ex e0) hxp, .nil, by rw [List.append_nil], lx, Nat.le_refl _, by rw [Nat.sub_self]; exact hB.ex e0⟩ ?_
    rintro m σ' H' ⟨e', ls, fs, cl, cf, rfl, hl, hf, hlp, hfp, pm, hlm, hmr, hBx⟩
    refine ⟨!ls.isEmpty, et_test (ev_neNil (ev_var rfl) (sq_of hl)), fun hb H1 e1 => ?_, fun hb H1 e1 => ?_⟩
    · have hne : ls ≠ [] := fun z => by rw [z] at hb; cases hb
      have hm : 0 < m := by rw [← hlm]; exact List.length_pos_iff.mpr hne
      have lenl : cl.length = ls.length := (Paired.length hlp).symm
      have lenf : fs.length ≤ 60 := by
        have a := Paired.length hfp
        have b := pm.length_eq
        rw [List.length_append] at b
        omega
      refine ⟨fun σ2 H2 => ∃ m', m' < m ∧ W m' σ2 H2, fun _ _ h => h, ?_⟩
      refine ⟨_, rfl, .inl ⟨rfl, fs, sq_of (e1 _ _ hf)⟩, _, rfl, .inl ⟨rfl, ls, sq_of (e1 _ _ hl)⟩, _, rfl, _, rfl, lf, ls, rfl, .inl (sq_of (e1 _ _ hl)), ?_⟩
      refine ⟨p, _, n + (rs.length - m), rfl, by omega, by omega, hBx.ex e1, by omega, fun i H2 i0 i1 e2 hB2 => ?_⟩
      have hl2 : H2 lf = some (.lst ls) := e2 _ _ (Ne.symm bl) (e1 _ _ hl)
      have hf2 : H2 fd = some (.lst fs) := e2 _ _ (Ne.symm bf) (e1 _ _ hf)
      have hBx1 := hBx.ex e1
      have hlp2 : Paired (IsRow H2) ls cl := Paired.imp (fun _ _ h => (h.ex e1).exB hBx1 e2) hlp
      have hfp2 : Paired (IsRow H2) fs cf := Paired.imp (fun _ _ h => (h.ex e1).exB hBx1 e2) hfp
      have hi : i.toNat < ls.length := by omega
      have gy := List.getElem?_eq_getElem hi
      obtain ⟨r, hr, hrow⟩ := Paired.at_l hlp2 _ _ gy
      have hrl : i.toNat < cl.length := by omega
      refine ⟨lf, ls, i, i.toNat, _, rfl, rfl, hl2, by omega, by omega, seqIndex_of i0 i1, gy, ?_⟩
      refine ⟨fd, fs, _, rfl, rfl, by rw [upd_ne (Ne.symm nlf)]; exact hf2, Nat.lt_of_le_of_lt lenf (show 60 < sizeLine by decide), ?_⟩
      have mv : ∀ {x : V} {q : List Int}, IsRow H2 x q → IsRow (upd (upd H2 lf (.lst (ls.eraseIdx i.toNat))) fd (.lst (fs ++ [ls[i.toNat]]))) x q := fun h => (h.upd hl2 (lst_ntup _)).upd (by rw [upd_ne (Ne.symm nlf)]; exact hf2) (lst_ntup fs)
      refine ⟨m - 1, by omega, (((e'.trans (Ex.b e1)).trans e2).mut hlf).mut nfd, ls.eraseIdx i.toNat, fs ++ [ls[i.toNat]], cl.eraseIdx i.toNat, cf ++ [r], rfl, by rw [upd_ne nlf, upd_same], upd_same, Paired.erase _ (Paired.imp (fun _ _ h => mv h) hlp2), Paired.append (Paired.imp (fun _ _ h => mv h) hfp2) (.cons (mv hrow) .nil), ?_, ?_, by omega, ?_⟩
      · have hr' : cl[i.toNat] = r := by
          rw [List.getElem?_eq_getElem hrl] at hr
          exact Option.some.inj hr
        have z := erase_perm hrl
        rw [hr'] at z
        have z2 : (cl.eraseIdx i.toNat ++ (cf ++ [r])).Perm ((r :: cl.eraseIdx i.toNat) ++ cf) := by
          rw [← List.append_assoc]
          refine (List.perm_append_comm).trans ?_
          rw [List.cons_append]
          exact List.Perm.refl _
        exact (z2.trans (z.append_right cf)).trans pm
      · rw [List.length_eraseIdx_of_lt hi]
        omega
      · have : n + (rs.length - (m - 1)) = n + (rs.length - m) + 1 := by omega
        rw [this]
        exact (hB2.upd bl).upd bf
    · have hls : ls = [] := by
        cases ls with
        | nil => rfl
        | cons _ _ => cases hb
      subst hls
      cases hlp
      refine s_ret (ev_var rfl) fun H2 e2 => ?_
      have e12 := e1.trans e2
      exact k _ cf H2 ⟨fd, fs, rfl, e12 _ _ hf, Paired.imp (fun _ _ h => h.ex e12) hfp⟩ pm (e'.trans (Ex.b e12)) ((hBx.ex e12).mono (by omega))
end
end Mv
/-! _law_rows, _law_other. -/
namespace Mv
open PySem PySem.Spec PyProof.Rows L2 Evl
theorem add_go {i w : Int} {Q : VK} {H : Hp} (e : 1 + i = w) (h : Q (.int w) H) : rI0 (fun i j => V.int (i + j)) (.int 1) (.int i) H Q := ⟨1, i, rfl, rfl, by
  show Q (.int (1 + i)) H
  rw [e]
  exact h⟩
theorem cutV_from (xs : List V) (n : Nat) (h : n ≤ xs.length) : cutV xs (some (n : Int)) none = xs.drop n := by
  unfold cutV
  rw [HT.sIx_nat, HT.sIx_none, Nat.min_eq_left h]
  exact List.take_of_length_le (by rw [List.length_drop]; omega)
theorem cutV_to (xs : List V) (n : Nat) (h : n ≤ xs.length) : cutV xs none (some (n : Int)) = xs.take n := by
  unfold cutV
  rw [HT.sIx_nat, HT.sIx_none, Nat.min_eq_left h, List.drop_zero, Nat.sub_zero]
section
variable {K : PySem.W.Frag} {σ : L2.St} {H H' : Hp} {ta tb tc te tl tx : TE} {t u : TT} {x y z v : V} {D : Ends}
/-- a new list of two new lists -/
theorem el_cat {xs ys : List V} (ha : EvL ta σ H xs) (hb : EvL tb σ H ys) (hz : xs.length + ys.length ≤ 100000) : EvL (tOp rCat ta tb) σ H (xs ++ ys) := fun H1 e Q q =>
  ha H1 e _ fun p1 H2 hp1 e2 h1 => hb H2 (e.trans e2) _ fun p2 H3 hp2 e3 h2 => ⟨p1, p2, xs, ys, rfl, rfl, e3 _ _ h1, h2, sz_of hz, fun p hp => q p _ (fresh_back (e2.trans e3) hp) ((e2.trans e3).trans (Ex.new hp)) upd_same⟩
theorem el_rev {xs : List V} (ha : EvL ta σ H xs) : EvL (tRevL K ta) σ H xs.reverse := fun H1 e Q q =>
  ha H1 e _ fun p1 H2 hp1 e2 h1 => ⟨p1, xs, rfl, sq_of h1, fun p hp => q p _ (fresh_back e2 hp) (e2.trans (Ex.new hp)) upd_same⟩
/-- a row in a list of rows -/
theorem rv_inRows {f : Addr} {ys : List V} {rs : List (List Int)} {r : List Int} (hf : H f = some (.lst ys)) (hp : Paired (IsRow H) ys rs) (hx : IsRow H x r) : RV (rInD K) x (.ref f) H (.bl (decide (r ∈ rs))) := fun H1 e Q q => by
  refine ⟨rd r, rs.map rd, (hx.ex e).dp, .lst (sq_of (e _ _ hf)) (dp_rows (Paired.imp (fun _ _ h => h.ex e) hp)), shaped_row r, shaped_rows rs, ?_⟩
  have ee : ((rs.map rd).any fun z => PyData.eqv z (rd r)) = decide (r ∈ rs) := by
    rw [List.any_map, Bool.eq_iff_iff, List.any_eq_true, decide_eq_true_eq]
    constructor
    · rintro ⟨q, hq, e⟩
      have e : PyData.eqv (rd q) (rd r) = true := e
      rw [eqv_row] at e
      rw [← of_decide_eq_true e]
      exact hq
    · intro h
      exact ⟨r, h, by show PyData.eqv (rd r) (rd r) = true; rw [eqv_row, decide_eq_true rfl]⟩
  rw [ee]
  exact q H1 (Ex.refl H1)
theorem rv_ninRows {f : Addr} {ys : List V} {rs : List (List Int)} {r : List Int} (hf : H f = some (.lst ys)) (hp : Paired (IsRow H) ys rs) (hx : IsRow H x r) : RV (rNotInD K) x (.ref f) H (.bl (!decide (r ∈ rs))) := fun H1 e Q q => by
  refine ⟨rd r, rs.map rd, (hx.ex e).dp, .lst (sq_of (e _ _ hf)) (dp_rows (Paired.imp (fun _ _ h => h.ex e) hp)), shaped_row r, shaped_rows rs, ?_⟩
  have ee : ((rs.map rd).any fun z => PyData.eqv z (rd r)) = decide (r ∈ rs) := by
    rw [List.any_map, Bool.eq_iff_iff, List.any_eq_true, decide_eq_true_eq]
    constructor
    · rintro ⟨q, hq, e⟩
      have e : PyData.eqv (rd q) (rd r) = true := e
      rw [eqv_row] at e
      rw [← of_decide_eq_true e]
      exact hq
    · intro h
      exact ⟨r, h, by show PyData.eqv (rd r) (rd r) = true; rw [eqv_row, decide_eq_true rfl]⟩
  rw [ee]
  exact q H1 (Ex.refl H1)
/-- (k,) * width -/
theorem ep_rep {i : Int} {w : Nat} (ha : Ev ta σ H (.int i)) (hb : Ev tb σ H (.int (w : Int))) (h1 : 1 ≤ w) (h5 : w ≤ 5) : EvP (tOp (rRepU K) (tTup (tCons ta tNil)) tb) σ H (fun v H2 => IsRow H2 v (List.replicate w i)) := fun H1 e Q q =>
  ha H1 e _ fun H2 e2 => ⟨sz_of (show 1 ≤ 100000 by decide), fun t ht => by
    have e3 : Ex H2 (upd H2 t (.tup [.int i])) := Ex.new ht
    refine hb _ ((e.trans e2).trans e3) _ fun H4 e4 => ?_
    have g := e4 _ _ (upd_same (H := H2) (a := t) (o := .tup [.int i]))
    refine ⟨t, (w : Int), [.int i], rfl, rfl, st_of g, by simp, by omega, by omega, show 1 ≤ 1000 by decide, fun hw => ?_, fun hw p hp => ?_⟩
    · have e1 : w = 1 := by omega
      subst e1
      exact q _ _ ((e2.trans e3).trans e4) ⟨t, rfl, g⟩
    · refine q _ _ (((e2.trans e3).trans e4).trans (Ex.new hp)) ⟨p, rfl, ?_⟩
      rw [upd_same, Int.toNat_natCast]
      congr 2
      clear q e4 g hw h1 h5 hb
      induction w with
      | zero => rfl
      | succ w ih =>
        rw [List.replicate_succ, List.flatten_cons, ih, List.replicate_succ, List.map_cons] <;> rfl⟩
end
section
variable {P : Program} {w : World} {K : PySem.W.Frag} {mg : Str → Option Value} {base : Heap} {a : Nat → Addr} {d : Nat → FuncData} {tk : Nat → Tok}
/-! _law_rows -/
def sp__law_rows : Sp := fun vs H Q _ => ∃ (p : Addr) (m : Nat) (n : Nat), vs = [.ref p, .int (m : Int)] ∧ m ≤ 60 ∧ BoxAt H p n ∧ n ≤ 80000 ∧ ∀ (v : V) (rs : List (List Int)) (w : Nat) (H2 : Hp), LRw H2 v rs → OkRows w rs → ExB p H H2 → BoxAt H2 p (n + 1000) → Q v H2
theorem ok__law_rows (T : All K mg a d tk) : FnOk P w K mg base CX0 2 (a 27) (d 27) ["box", "many"] sp__law_rows := by
  refine T.F__law_rows.fn.ok sc__law_rows (fun vs H Q E h => ?_) (fun cdv A outer s H vs Q E hr h => ?_)
  · obtain ⟨p, m, n, rfl, _⟩ := h
    rfl
  · obtain ⟨p, m, n, rfl, hm, hB, hn, k⟩ := h
    have nd := sc__law_rows.nd
    have hu65 := hu65_of hr
    refine ⟨_, (pss_cons (ps_asg (pe_tup (pa_cons (pe_op op_add pe_int (pe_call (ok__law_take T) (hr.mono (by decide)) rfl T.F__law_take.m T.F__law_take.kp T.F__law_take.b .nil pass0 (pa_cons (pv 0) (pa_cons pe_int pa_nil)))) (pa_cons (pe_ix ix_list (pe_lst (pa_cons pe_int (pa_cons pe_int (pa_cons pe_int pa_nil)))) (pe_call (ok__law_take T) (hr.mono (by decide)) rfl T.F__law_take.m T.F__law_take.kp T.F__law_take.b .nil pass0 (pa_cons (pv 0) (pa_cons pe_int pa_nil))) (fun _ _ => rfl)) pa_nil))) (pg_tup rfl (pgs_cons (pg_name (i := 2) nd rfl (Or.inl rfl)) (pgs_cons (pg_name (i := 3) nd rfl (Or.inr rfl)) pgs_nil))) (hw := by rfl))
 (pss_cons (ps_set (i := 4) nd rfl (Or.inl rfl) (pe_lst pa_nil))
 (pss_cons (ps_for PassesOwn.never rfl (pi_range1 rfl T.n_range (pa_cons (pv 1) pa_nil)) (pg_name (i := 5) nd rfl (Or.inl rfl))
 (pss_cons (ps_set (i := 6) nd rfl (Or.inl rfl) (pe_callTy call_tuple_of rfl T.n_tuple PyProof.Rows.boot_tuple (pa_cons (pe_lc (own := [("column", 7)]) (g := (gName 7)) rfl nd (pi_range1 rfl T.n_range (pa_cons (pv 2) pa_nil)) (blkOk_by (N := N__law_rows) (sc := defScope s__law_rows) (by decide +kernel)) (fun _ _ _ _ _ => (pg_name (i := 7) nd rfl (Or.inl rfl))) (fun _ _ _ _ _ => pts_nil) (fun _ _ _ _ _ => (pe_call (ok__law_take T) (hr.mono (by decide)) rfl T.F__law_take.m T.F__law_take.kp T.F__law_take.b .nil pass0 (pa_cons (pv 0) (pa_cons (pv 3) pa_nil))))) pa_nil)))
 (pss_cons (ps_if (pt_cmpR (op_inD hu65) (pv 6) (pv 4) rfl)
 (pss_one (ps_set (i := 6) nd rfl (Or.inl rfl) (pe_ifExp (pt_cmpR (op_notInD hu65) (pe_op op_repU (pe_tup (pa_cons (pv 5) pa_nil)) (pv 2)) (pv 4) rfl) (pe_op op_repU (pe_tup (pa_cons (pv 5) pa_nil)) (pv 2)) (pe_op op_repU (pe_tup (pa_cons (pe_op op_sub pe_int (pv 5)) pa_nil)) (pv 2)))))
 pss_nil)
 (pss_one (ps_if (pt_cmpR (op_notInD hu65) (pv 6) (pv 4) rfl)
 (pss_one (ps_expr (pe_bm PySem.F.plainAttrs_list PySem.F.slot_list_append PySem.F.type_list_append mt_append (pv 4) (pa_cons (pv 6) pa_nil))))
 pss_nil)))))
 (pss_one (ps_ret (pv 4)))))), ?_⟩
    refine ⟨_, rfl, p, 5, n, rfl, by decide, by decide, hB, by omega, fun i0 H1 i0a i0b e1 hB1 => ?_⟩
    obtain ⟨wd, hwd, w1, w5⟩ : ∃ wd : Nat, 1 + i0 = (wd : Int) ∧ 1 ≤ wd ∧ wd ≤ 5 := ⟨(1 + i0).toNat, by omega, by omega, by omega⟩
    refine add_go hwd ?_
    refine ⟨sz_of (show 3 ≤ 100000 by decide), fun tl htl => ?_⟩
    have hBl : BoxAt (upd H1 tl (.lst [V.int 8, .int 30, .int 1000])) p (n + 1) := hB1.upd (hB1.ne htl)
    refine ⟨_, rfl, p, 3, n + 1, rfl, by decide, by decide, hBl, by omega, fun i1 H2 i1a i1b e2 hB2 => ?_⟩
    have htl2 : H2 tl = some (.lst [V.int 8, .int 30, .int 1000]) := e2 _ _ (Ne.symm (hB1.ne htl)) upd_same
    obtain ⟨top, htop, t1, t2⟩ : ∃ top : Int, atI [V.int 8, .int 30, .int 1000] i1 = some (.int top) ∧ 1 ≤ top ∧ top ≤ 1000 := by
      have : i1 = 0 ∨ i1 = 1 ∨ i1 = 2 := by omega
      rcases this with z | z | z
      · subst z; exact ⟨8, rfl, by decide, by decide⟩
      · subst z; exact ⟨30, rfl, by decide, by decide⟩
      · subst z; exact ⟨1000, rfl, by decide, by decide⟩
    refine ⟨tl, _, i1, _, rfl, rfl, sq_of htl2, htop, ?_⟩
    refine ⟨sz_of (show 2 ≤ 100000 by decide), fun tt htt => ?_⟩
    refine ⟨tt, _, rfl, st_of upd_same, rfl, _, _, rfl, _, _, rfl, rfl, ?_⟩
    have hB3 : BoxAt (upd H2 tt (.tup [V.int (wd : Int), .int top])) p (n + 1 + 1) := hB2.upd (hB2.ne htt)
    have eB3 : ExB p H (upd H2 tt (.tup [V.int (wd : Int), .int top])) := (e1.trans ((Ex.b (Ex.new htl)).trans e2)).trans (Ex.b (Ex.new htt))
    generalize hH3 : upd H2 tt (HO.tup [V.int (wd : Int), V.int top]) = H3 at hB3 eB3
    refine q_asgL (el_lst ea_nil (Nat.zero_le _)) fun fd H4 hfd e4 hf4 => ?_
    have bf : p ≠ fd := hB3.ne hfd
    have nfd : H fd = none := eB3.back (Ne.symm bf) hfd
    have eB4 := eB3.trans (Ex.b e4)
    let Ov : Nat → L2.St → Hp → Prop := fun j σ' H' => ExB p H H' ∧ BoxAt H' p (n + 2 + 5 * j) ∧ ∃ (ys : List V) (rs : List (List Int)) (v5 v6 : Option V), σ' = [some (.ref p), some (.int (m : Int)), some (.int (wd : Int)), some (.int top), some (.ref fd), v5, v6, none] ∧
      H' fd = some (.lst ys) ∧ Paired (IsRow H') ys rs ∧ rs.Nodup ∧ (∀ r ∈ rs, OkRow wd r) ∧ rs.length ≤ j
    refine q_forR1 (ea_cons (ev_var rfl) ea_nil) ⟨by omega, by omega⟩ Ov (fun H5 e5 => ⟨eB4.trans (Ex.b e5), (hB3.ex (e4.trans e5)).mono (by omega), [], [], none, none, rfl, e5 _ _ hf4, .nil, List.nodup_nil, fun r hr => (by cases hr), Nat.le_refl _⟩) ?_ ?_
    · rintro j σ' H5 hj ⟨e5, hB5, ys, rs, v5, v6, rfl, hf, hfp, hnd, hok, hlen⟩
      have hj60 : j < 60 := by omega
      have l60 : ys.length ≤ 60 := by rw [Paired.length hfp]; omega
      refine ⟨_, rfl, (wd : Int), rfl, by omega, by omega, fun Dl hD => ?_⟩
      have bD : p ≠ Dl := hB5.ne hD
      rw [Int.toNat_natCast]
      refine lc_it (walk_range (lo := 0) (n := wd)) (fun i H' => ExB p H5 H' ∧ BoxAt H' p (n + 2 + 5 * j + i) ∧ ∃ is : List Int, H' Dl = some (.lst (is.map V.int)) ∧ is.length = i ∧ ∀ x ∈ is, 0 ≤ x ∧ x ≤ 999) ⟨Ex.b (Ex.new hD), hB5.upd bD, [], upd_same, rfl, fun x h => (by cases h)⟩ (fun _ _ _ _ => trivial) ?_ ?_
      · rintro i x H6 H6' hi ⟨e6, hB6, is, g1, g2, g3⟩ ⟨rfl, rfl⟩
        refine ⟨rfl, yes_go ?_⟩
        refine ⟨_, rfl, _, rfl, p, top, _, rfl, t1, by omega, hB6, by omega, fun c H7 c0 c1 e7 hB7 => ?_⟩
        have g7 : H7 Dl = some (.lst (is.map V.int)) := e7 _ _ (Ne.symm bD) g1
        refine ⟨_, g7, Nat.lt_of_le_of_lt (by rw [List.length_map, g2]; omega) (show 1000 < sizeLine by decide), (e6.trans e7).mut hD, (hB7.upd bD).mono (by omega), is ++ [c], by rw [upd_same, List.map_append] <;> rfl, by rw [List.length_append, g2] <;> rfl, fun x hx => ?_⟩
        rcases List.mem_append.mp hx with hx | hx
        · exact g3 x hx
        · rw [List.mem_singleton.mp hx]
          omega
      · rintro H6 ⟨e6, hB6, is, g1, g2, g3⟩
        refine ⟨Dl, _, rfl, .inl ⟨sq_of g1, fun tr htr => ?_⟩⟩
        have eR : Ex H6 (upd H6 tr (.tup (is.map V.int))) := Ex.new htr
        have hB7 := hB6.ex eR
        have e57 : ExB p H5 (upd H6 tr (.tup (is.map V.int))) := e6.trans (Ex.b eR)
        have f7 : upd H6 tr (.tup (is.map V.int)) fd = some (.lst ys) := e57 _ _ (Ne.symm bf) hf
        have p7 : Paired (IsRow (upd H6 tr (.tup (is.map V.int)))) ys rs := Paired.imp (fun _ _ h => h.exB hB5 e57) hfp
        have r7 : IsRow (upd H6 tr (.tup (is.map V.int))) (.ref tr) is := ⟨tr, rfl, upd_same⟩
        generalize hH7 : upd H6 tr (HO.tup (is.map V.int)) = H7 at eR hB7 e57 f7 p7 r7
        have okIs : OkRow wd is := ⟨g2, g3⟩
        have okRep : ∀ c : Int, 0 ≤ c → c ≤ 999 → OkRow wd (List.replicate wd c) := fun c c0 c1 => ⟨List.length_replicate, fun x hx => by rw [(List.mem_replicate.mp hx).2]; exact ⟨c0, c1⟩⟩
        have last : ∀ (x : V) (r : List Int) (H8 : Hp), Ex H7 H8 → IsRow H8 x r → OkRow wd r →
            tIfS (tTest (tOp (rNotInD K) (tVar 6) (tVar 4))) (tDrop (tBM K "list" rAppend (tVar 4) (tCons (tVar 6) tNil))) tNext { nx := Ov (j + 1), rt := Q, ct := Ov (j + 1), bk := fun σ' H' => tRet (tVar 4) { nx := fun _ H' => Q .non H', rt := Q } σ' H' }
              [some (.ref p), some (.int (m : Int)), some (.int (wd : Int)), some (.int top), some (.ref fd), some (.int (j : Int)), some x, none] H8 := by
          intro x r H8 e8 hx hro
          have p8 : Paired (IsRow H8) ys rs := Paired.imp (fun _ _ h => h.ex e8) p7
          refine s_when (et_test (ev_op (ev_var rfl) (ev_var rfl) (rv_ninRows (e8 _ _ f7) p8 hx))) (fun hb H9 e9 => ?_) fun hb H9 e9 => ?_
          · have hnr : r ∉ rs := fun z => by rw [decide_eq_true z] at hb; cases hb
            refine s_app ((e8.trans e9) _ _ f7) (ev_var rfl) (ev_var rfl) (by omega) fun H10 e10 => ?_
            have e710 := (e8.trans e9).trans e10
            have mv : ∀ {x : V} {q : List Int}, IsRow H8 x q → IsRow (upd H10 fd (.lst (ys ++ [x]))) x q := fun h => (h.ex (e9.trans e10)).upd (e710 _ _ f7) (lst_ntup ys)
            refine ⟨((e5.trans e57).trans (Ex.b e710)).mut nfd, ((hB7.ex e710).upd bf).mono (by omega), ys ++ [x], rs ++ [r], _, _, rfl, upd_same, Paired.append (Paired.imp (fun _ _ h => (h.ex (e9.trans e10)).upd (e710 _ _ f7) (lst_ntup ys)) p8) (.cons ((hx.ex (e9.trans e10)).upd (e710 _ _ f7) (lst_ntup ys)) .nil), ?_, fun q hq => ?_, by rw [List.length_append, List.length_singleton]; omega⟩
            · rw [List.nodup_append]
              refine ⟨hnd, List.nodup_cons.mpr ⟨by simp, List.nodup_nil⟩, fun z hz u hu' e3 => ?_⟩
              rw [List.mem_singleton.mp hu'] at e3
              exact hnr (e3 ▸ hz)
            · rcases List.mem_append.mp hq with hq | hq
              · exact hok q hq
              · rw [List.mem_singleton.mp hq]; exact hro
          · have e79 := e8.trans e9
            exact ⟨(e5.trans e57).trans (Ex.b e79), (hB7.ex e79).mono (by omega), ys, rs, _, _, rfl, e79 _ _ f7, Paired.imp (fun _ _ h => h.ex e9) p8, hnd, hok, by omega⟩
        refine q_when (et_test (ev_op (ev_var rfl) (ev_var rfl) (rv_inRows f7 p7 r7))) (fun _ H8 e8 => ?_) fun _ H8 e8 => last _ _ H8 e8 (r7.ex e8) okIs
        have p8 : Paired (IsRow H8) ys rs := Paired.imp (fun _ _ h => h.ex e8) p7
        refine ep_rep (K := K) (i := (j : Int)) (w := wd) (ev_var rfl) (ev_var rfl) w1 w5 H8 (Ex.refl H8) _ fun v1 H9 e9 hv1 => ?_
        refine ⟨_, rfl, ?_⟩
        have e89 := e8.trans e9
        have p9 : Paired (IsRow H9) ys rs := Paired.imp (fun _ _ h => h.ex e9) p8
        refine rv_ninRows (e89 _ _ f7) p9 hv1 H9 (Ex.refl H9) _ fun H10 e10 => ⟨_, rfl, ?_⟩
        have e810 := e89.trans e10
        refine ite2 (fun _ => ?_) fun _ => ?_
        · refine ep_rep (K := K) (i := (j : Int)) (w := wd) (ev_var rfl) (ev_var rfl) w1 w5 H10 (Ex.refl H10) _ fun v2 H11 e11 hv2 => ?_
          exact last v2 _ H11 (e810.trans e11) hv2 (okRep _ (by omega) (by omega))
        · refine ep_rep (K := K) (i := 999 - (j : Int)) (w := wd) (ev_I0 ev_c (ev_var rfl)) (ev_var rfl) w1 w5 H10 (Ex.refl H10) _ fun v2 H11 e11 hv2 => ?_
          exact last v2 _ H11 (e810.trans e11) hv2 (okRep _ (by omega) (by omega))
    · rintro σ' H5 ⟨e5, hB5, ys, rs, v5, v6, rfl, hf, hfp, hnd, hok, hlen⟩
      rw [Int.toNat_natCast] at hB5 hlen
      refine s_ret (ev_var rfl) fun H6 e6 => ?_
      exact k _ rs wd H6 ⟨fd, ys, rfl, e6 _ _ hf, Paired.imp (fun _ _ h => h.ex e6) hfp⟩ ⟨w1, w5, hnd, hok, by omega⟩ (e5.trans (Ex.b e6)) ((hB5.ex e6).mono (by omega))
/-! _law_other -/
def sp__law_other : Sp := fun vs H Q _ => ∃ (p : Addr) (x : V) (rs : List (List Int)) (n : Nat), vs = [.ref p, x] ∧ LRw H x rs ∧ rs.length ≤ 60 ∧ BoxAt H p n ∧ n ≤ 80000 ∧ PermRes p (n + 200) H rs Q
theorem ok__law_other (T : All K mg a d tk) : FnOk P w K mg base CX0 3 (a 28) (d 28) ["box", "rows"] sp__law_other := by
  refine T.F__law_other.fn.ok sc__law_other (fun vs H Q E h => ?_) (fun cdv A outer s H vs Q E hr h => ?_)
  · obtain ⟨p, x, rs, n, rfl, _⟩ := h
    rfl
  · obtain ⟨p, x, rs, n, rfl, hx, h60, hB, hn, k⟩ := h
    have nd := sc__law_other.nd
    refine ⟨_, (pss_cons (ps_par (i := 2) (j := 3) rfl nd rfl rfl (by decide) rfl rfl (pa_cons (pe_call (ok__law_take T) (hr.mono (by decide)) rfl T.F__law_take.m T.F__law_take.kp T.F__law_take.b .nil pass0 (pa_cons (pv 0) (pa_cons pe_int pa_nil))) (pa_cons (pe_callB call_len_seq (by rfl) T.n_len PySem.boot_len (pa_cons (pv 1) pa_nil)) pa_nil)) (by rfl))
 (pss_cons (ps_if (PW.pt (pw_or (pt_cmpR op_eq (pv 2) pe_int (nomark _)) (pw_or1 (pt_cmpR op_eq (pv 3) pe_int (nomark _)))))
 (pss_one (ps_ret (pe_call (ok__law_mixed T) (hr.mono (by decide)) rfl T.F__law_mixed.m T.F__law_mixed.kp T.F__law_mixed.b .nil pass0 (pa_cons (pv 0) (pa_cons (pv 1) pa_nil)))))
 pss_nil)
 (pss_cons (ps_set (i := 4) nd rfl (Or.inl rfl) (pe_call (ok__law_take T) (hr.mono (by decide)) rfl T.F__law_take.m T.F__law_take.kp T.F__law_take.b .nil pass0 (pa_cons (pv 0) (pa_cons (pv 3) pa_nil))))
 (pss_cons (ps_if (pt_cmpR op_eq (pv 2) pe_int (nomark _))
 (pss_one (ps_ret (pe_op op_cat (pe_slice sl_list (pv 1) (po_some (pv 4)) po_none) (pe_slice sl_list (pv 1) po_none (po_some (pv 4))))))
 pss_nil)
 (pss_cons (ps_if (pt_cmpR op_eq (pv 2) pe_int (nomark _))
 (pss_one (ps_ret (pe_op op_cat (pe_slice sl_list (pv 1) po_none (po_some (pv 4))) (pe_revL (pe_slice sl_list (pv 1) (po_some (pv 4)) po_none)))))
 pss_nil)
 (pss_cons (ps_set (i := 5) nd rfl (Or.inl rfl) (pe_callTy call_list_of rfl T.n_list PyProof.Rows.boot_list (pa_cons (pv 1) pa_nil)))
 (pss_cons (ps_for PassesOwn.never rfl (pi_range1 rfl T.n_range (pa_cons (pe_op op_add pe_int (pe_call (ok__law_take T) (hr.mono (by decide)) rfl T.F__law_take.m T.F__law_take.kp T.F__law_take.b .nil pass0 (pa_cons (pv 0) (pa_cons pe_int pa_nil)))) pa_nil)) (pg_name (i := 6) nd rfl (Or.inl rfl))
 (pss_cons (ps_set (i := 7) nd rfl (Or.inl rfl) (pe_bm PySem.F.plainAttrs_list PySem.F.slot_list_pop PySem.F.type_list_pop mt_popAt (pv 5) (pa_cons (pe_call (ok__law_take T) (hr.mono (by decide)) rfl T.F__law_take.m T.F__law_take.kp T.F__law_take.b .nil pass0 (pa_cons (pv 0) (pa_cons (pv 3) pa_nil))) pa_nil)))
 (pss_one (ps_expr (pe_bm PySem.F.plainAttrs_list PySem.F.slot_list_insert PySem.F.type_list_insert mt_insert (pv 5) (pa_cons (pe_call (ok__law_take T) (hr.mono (by decide)) rfl T.F__law_take.m T.F__law_take.kp T.F__law_take.b .nil pass0 (pa_cons (pv 0) (pa_cons (pv 3) pa_nil))) (pa_cons (pv 7) pa_nil)))))))
 (pss_one (ps_ret (pv 5)))))))))), ?_⟩
    refine ⟨_, rfl, p, 5, n, rfl, by decide, by decide, hB, by omega, fun way H1 wa wb e1 hB1 => ?_⟩
    have hx1 := hx.exB hB e1
    obtain ⟨xb, xs, rfl, hxs, hxp⟩ := id hx1
    have lx : xs.length = rs.length := Paired.length hxp
    refine ⟨_, rfl, xb, xs, rfl, .inl (sq_of hxs), _, _, rfl, ?_⟩
    rw [lx]
    refine q_when (et_or (et_test (ev_op (ev_var rfl) ev_c (rv_eq rfl))) fun _ => et_test (ev_op (ev_var rfl) ev_c (rv_eq rfl))) (fun _ H2 e2 => ?_) fun hb H2 e2 => ?_
    · refine ⟨_, rfl, _, rfl, p, .ref xb, rs, n + 1, rfl, hx1.ex e2, h60, hB1.ex e2, by omega, fun v cs H3 h1 h2 h3 h4 => ?_⟩
      exact k v cs H3 h1 h2 ((e1.trans (Ex.b e2)).trans h3) (h4.mono (by omega))
    · obtain ⟨hb1, hb2⟩ := Bool.or_eq_false_iff.mp hb
      have hne : rs.length ≠ 0 := fun z => by
        rw [z] at hb2
        exact absurd hb2 (by decide)
      have hB2 := hB1.ex e2
      refine ⟨_, rfl, _, rfl, p, (rs.length : Int), n + 1, rfl, by omega, by omega, hB2, by omega, fun at_ H3 a0 a1 e3 hB3 => ?_⟩
      have hx3 := (hx1.ex e2).exB hB2 e3
      have eB3 : ExB p H H3 := (e1.trans (Ex.b e2)).trans e3
      obtain ⟨atn, rfl, hat⟩ : ∃ atn : Nat, at_ = (atn : Int) ∧ atn < rs.length := ⟨at_.toNat, by omega, by omega⟩
      obtain ⟨xb3, xs3, exb, hxs3, hxp3⟩ := id hx3
      cases exb
      have lx3 : xs3.length = rs.length := Paired.length hxp3
      have done : ∀ (zs : List V) (cs : List (List Int)) (pz : Addr) (H5 : Hp), Ex H3 H5 → H5 pz = some (.lst zs) → Paired (IsRow H3) zs cs → cs.Perm rs → Q (.ref pz) H5 := fun zs cs pz H5 e5 hz hp pm =>
        k _ cs H5 ⟨pz, zs, rfl, hz, Paired.imp (fun _ _ h => h.ex e5) hp⟩ pm (eB3.trans (Ex.b e5)) ((hB3.ex e5).mono (by omega))
      have pdrop := Paired.drop atn hxp3
      have ptake := Paired.take atn hxp3
      have slF : ∀ {σ' : L2.St} {H5 : Hp}, Ex H3 H5 → σ'[1]? = some (some (.ref xb)) → σ'[4]? = some (some (.int (atn : Int))) → EvL (tSl (rSlL K) (tVar 1) (tPart (tVar 4)) tNoPart) σ' H5 (xs3.drop atn) := fun e5 h1 h4 => by
        have z := el_sl (K := K) (lo := some (atn : Int)) (hi := none) (ev_var h1) (eo_some (ev_var h4)) eo_none (sq_of (e5 _ _ hxs3))
        rwa [cutV_from _ _ (by omega)] at z
      have slT : ∀ {σ' : L2.St} {H5 : Hp}, Ex H3 H5 → σ'[1]? = some (some (.ref xb)) → σ'[4]? = some (some (.int (atn : Int))) → EvL (tSl (rSlL K) (tVar 1) tNoPart (tPart (tVar 4))) σ' H5 (xs3.take atn) := fun e5 h1 h4 => by
        have z := el_sl (K := K) (lo := none) (hi := some (atn : Int)) (ev_var h1) eo_none (eo_some (ev_var h4)) (sq_of (e5 _ _ hxs3))
        rwa [cutV_to _ _ (by omega)] at z
      have ltk : (xs3.take atn).length ≤ 60 := by rw [List.length_take]; omega
      have ldr : (xs3.drop atn).length ≤ 60 := by rw [List.length_drop]; omega
      refine q_when (et_test (ev_op (ev_var rfl) ev_c (rv_eq rfl))) (fun _ H4 e4 => ?_) fun _ H4 e4 => ?_
      · refine s_retL (el_cat (slF e4 rfl rfl) (slT e4 rfl rfl) (by omega)) fun pz H5 _ e5 hz => ?_
        refine done _ (rs.drop atn ++ rs.take atn) pz H5 (e4.trans e5) hz (Paired.append pdrop ptake) ?_
        have z := List.perm_append_comm (l₁ := rs.drop atn) (l₂ := rs.take atn)
        rwa [List.take_append_drop] at z
      refine q_when (et_test (ev_op (ev_var rfl) ev_c (rv_eq rfl))) (fun _ H5 e5 => ?_) fun _ H5 e5 => ?_
      · refine s_retL (el_cat (slT (e4.trans e5) rfl rfl) (el_rev (slF (e4.trans e5) rfl rfl)) (by rw [List.length_reverse]; omega)) fun pz H6 _ e6 hz => ?_
        refine done _ (rs.take atn ++ (rs.drop atn).reverse) pz H6 ((e4.trans e5).trans e6) hz (Paired.append ptake (Paired.rev pdrop)) ?_
        have z := (List.reverse_perm (rs.drop atn)).append_left (rs.take atn)
        rwa [List.take_append_drop] at z
      have e35 := e4.trans e5
      refine ⟨_, rfl, xb, xs3, rfl, .inl (sq_of (e35 _ _ hxs3)), fun fd hfd => ?_⟩
      have eF : Ex H5 (upd H5 fd (.lst xs3)) := Ex.new hfd
      have hB5 := hB3.ex e35
      have bf : p ≠ fd := hB5.ne hfd
      have nfd : H fd = none := (eB3.trans (Ex.b e35)).back (Ne.symm bf) hfd
      refine ⟨_, rfl, p, 3, n + 2, rfl, by decide, by decide, hB5.ex eF, by omega, fun lp H6 la lb e6 hB6 => ?_⟩
      refine ⟨1, lp, rfl, rfl, ?_⟩
      refine ⟨1 + lp, rfl, by omega, by omega, ?_⟩
      have eB6 : ExB p H H6 := ((eB3.trans (Ex.b e35)).trans (Ex.b eF)).trans e6
      have hf6 : H6 fd = some (.lst xs3) := e6 _ _ (Ne.symm bf) upd_same
      have hfp6 : Paired (IsRow H6) xs3 rs := Paired.imp (fun _ _ h => (h.ex (e35.trans eF)).exB (hB5.ex eF) e6) hxp3
      let Ov : Nat → L2.St → Hp → Prop := fun j σ' H' => ExB p H H' ∧ BoxAt H' p (n + 3 + 2 * j) ∧ ∃ (ys : List V) (cs : List (List Int)) (v6 v7 : Option V), σ' = [some (.ref p), some (.ref xb), some (.int way), some (.int (rs.length : Int)), some (.int (atn : Int)), some (.ref fd), v6, v7] ∧
        H' fd = some (.lst ys) ∧ Paired (IsRow H') ys cs ∧ cs.Perm rs
      refine for_range (lo := 0) (n := (1 + lp).toNat) Ov ⟨eB6, hB6, xs3, rs, _, _, rfl, hf6, hfp6, .refl _⟩ ?_ ?_
      · rintro j σ' H7 hj ⟨e7, hB7, ys, cs, v6, v7, rfl, hf7, hfp7, pm⟩
        have lcs : cs.length = rs.length := pm.length_eq
        have lys : ys.length = rs.length := by rw [Paired.length hfp7, lcs]
        refine ⟨_, rfl, .inl ⟨rfl, ys, sq_of hf7⟩, _, rfl, _, rfl, p, (rs.length : Int), _, rfl, by omega, by omega, hB7, by omega, fun i H8 i0 i1 e8 hB8 => ?_⟩
        have hf8 : H8 fd = some (.lst ys) := e8 _ _ (Ne.symm bf) hf7
        have hfp8 : Paired (IsRow H8) ys cs := Paired.imp (fun _ _ h => h.exB hB7 e8) hfp7
        have hi : i.toNat < ys.length := by omega
        have hic : i.toNat < cs.length := by omega
        have gy := List.getElem?_eq_getElem hi
        obtain ⟨r, hr, hrow⟩ := Paired.at_l hfp8 _ _ gy
        refine ⟨fd, ys, i, i.toNat, _, rfl, rfl, hf8, by omega, by omega, seqIndex_of i0 (by omega), gy, ?_⟩
        have eP : ∀ {x : V} {q : List Int}, IsRow H8 x q → IsRow (upd H8 fd (.lst (ys.eraseIdx i.toNat))) x q := fun h => h.upd hf8 (lst_ntup ys)
        have hB9 : BoxAt (upd H8 fd (.lst (ys.eraseIdx i.toNat))) p (n + 3 + 2 * j + 1) := hB8.upd bf
        refine ⟨_, rfl, .inl ⟨rfl, _, sq_of upd_same⟩, _, rfl, _, rfl, p, (rs.length : Int), _, rfl, by omega, by omega, hB9, by omega, fun i2 H10 i20 i21 e10 hB10 => ⟨_, rfl, ?_⟩⟩
        have hf10 : H10 fd = some (.lst (ys.eraseIdx i.toNat)) := e10 _ _ (Ne.symm bf) upd_same
        have hfp10 : Paired (IsRow H10) (ys.eraseIdx i.toNat) (cs.eraseIdx i.toNat) := Paired.erase _ (Paired.imp (fun _ _ h => (eP h).exB hB9 e10) hfp8)
        have hrow10 : IsRow H10 ys[i.toNat] r := (eP hrow).exB hB9 e10
        refine ⟨fd, _, i2, _, rfl, rfl, hf10, Nat.lt_of_le_of_lt (by rw [List.length_eraseIdx_of_lt hi]; omega) (show 1000 < sizeLine by decide), i20, by omega, ?_⟩
        have mv : ∀ {x : V} {q : List Int}, IsRow H10 x q → IsRow (upd H10 fd (.lst ((ys.eraseIdx i.toNat).take i2.toNat ++ [ys[i.toNat]] ++ (ys.eraseIdx i.toNat).drop i2.toNat))) x q := fun h => h.upd hf10 (lst_ntup _)
        refine ⟨((e7.trans e8).mut nfd |>.trans e10).mut nfd, (hB10.upd bf).mono (by omega), _, (cs.eraseIdx i.toNat).take i2.toNat ++ [r] ++ (cs.eraseIdx i.toNat).drop i2.toNat, _, _, rfl, upd_same, ?_, ?_⟩
        · exact Paired.append (Paired.append (Paired.take _ (Paired.imp (fun _ _ h => mv h) hfp10)) (.cons (mv hrow10) .nil)) (Paired.drop _ (Paired.imp (fun _ _ h => mv h) hfp10))
        · have hr' : cs[i.toNat] = r := by
            rw [List.getElem?_eq_getElem hic] at hr
            exact Option.some.inj hr
          have z := erase_perm hic
          rw [hr'] at z
          refine List.Perm.trans ?_ (z.trans pm)
          have z2 : ((cs.eraseIdx i.toNat).take i2.toNat ++ [r] ++ (cs.eraseIdx i.toNat).drop i2.toNat).Perm (r :: ((cs.eraseIdx i.toNat).take i2.toNat ++ (cs.eraseIdx i.toNat).drop i2.toNat)) := by
            rw [List.append_assoc]
            exact List.perm_middle
          rwa [List.take_append_drop] at z2
      · rintro σ' H7 ⟨e7, hB7, ys, cs, v6, v7, rfl, hf7, hfp7, pm⟩
        refine s_ret (ev_var rfl) fun H8 e8 => ?_
        exact k _ cs H8 ⟨fd, ys, rfl, e8 _ _ hf7, Paired.imp (fun _ _ h => h.ex e8) hfp7⟩ pm (e7.trans (Ex.b e8)) ((hB7.ex e8).mono (by omega))
end
end Mv
/-! _law_right. -/
namespace Mv
open PySem PySem.Spec PyProof.Rows L2 Evl
/-- the lists as data -/
def ld (Ls : List (List (List Int))) : PyData := .list (Ls.map fun rs => .list (rs.map rd))
theorem int_small {i : Int} (h : 0 ≤ i ∧ i ≤ 999) : i.natAbs.log2 ≤ 9 := by
  by_cases z : i.natAbs = 0
  · rw [z]; decide
  · have : i.natAbs.log2 < 10 := (Nat.log2_lt z).mpr (by omega)
    omega
theorem ints_w : ∀ r : List Int, (∀ i ∈ r, 0 ≤ i ∧ i ≤ 999) → PyData.weightAll (r.map PyData.int) ≤ 11 * r.length ∧ PyData.showableAll (r.map PyData.int) = true
  | [], _ => ⟨Nat.le_refl _, rfl⟩
  | i :: r, h => by
    obtain ⟨h1, h2⟩ := ints_w r fun j hj => h j (List.mem_cons_of_mem _ hj)
    have hi := int_small (h i List.mem_cons_self)
    refine ⟨?_, ?_⟩
    · simp only [List.map_cons, PyData.weightAll, PyData.weight, List.length_cons]
      split <;> omega
    · rw [List.map_cons, PyData.showableAll, h2, PyData.showable, decide_eq_true (by omega)] <;> rfl
theorem row_w {n : Nat} {r : List Int} (h : OkRow n r) (h5 : n ≤ 5) : (rd r).weight ≤ 55 ∧ (rd r).showable = true ∧ (rd r).intsShort 13 = true := by
  obtain ⟨a, b⟩ := ints_w r h.2
  have := h.1
  unfold rd
  refine ⟨?_, ?_, ?_⟩
  · simp only [PyData.weight]
    omega
  · rw [PyData.showable, b]
  · rw [PyData.intsShort]
    exact PyData.intsShortAll_ints r fun i hi => by
      have := h.2 i hi
      omega
theorem rows_w {n : Nat} (h5 : n ≤ 5) : ∀ rs : List (List Int), (∀ r ∈ rs, OkRow n r) → PyData.weightAll (rs.map rd) ≤ 56 * rs.length ∧ PyData.showableAll (rs.map rd) = true ∧ PyData.intsShortAll 13 (rs.map rd) = true
  | [], _ => ⟨Nat.le_refl _, rfl, rfl⟩
  | r :: rs, h => by
    obtain ⟨a, b, c⟩ := rows_w h5 rs fun q hq => h q (List.mem_cons_of_mem _ hq)
    obtain ⟨x, y, z⟩ := row_w (h r List.mem_cons_self) h5
    refine ⟨?_, ?_, ?_⟩
    · simp only [List.map_cons, PyData.weightAll, List.length_cons]
      omega
    · rw [List.map_cons, PyData.showableAll, b, y] <;> rfl
    · rw [List.map_cons, PyData.intsShortAll, c, z] <;> rfl
theorem lists_w {n : Nat} : ∀ Ls : List (List (List Int)), (∀ rs ∈ Ls, OkRows n rs) → PyData.weightAll (Ls.map fun rs => .list (rs.map rd)) ≤ 4000 * Ls.length ∧ PyData.showableAll (Ls.map fun rs => .list (rs.map rd)) = true ∧ PyData.intsShortAll 13 (Ls.map fun rs => .list (rs.map rd)) = true ∧
    PyData.canLayAll0 (Ls.map fun rs => .list (rs.map rd)) = true ∧ PyData.depthAll (Ls.map fun rs => .list (rs.map rd)) ≤ 5
  | [], _ => ⟨Nat.le_refl _, rfl, rfl, rfl, by simp [PyData.depthAll]⟩
  | rs :: Ls, h => by
    obtain ⟨a, b, c, d, e⟩ := lists_w Ls fun q hq => h q (List.mem_cons_of_mem _ hq)
    have o := h rs List.mem_cons_self
    obtain ⟨x, y, z⟩ := rows_w o.w5 rs o.row
    have := o.few
    have dr := deep_rows rs
    refine ⟨?_, ?_, ?_, ?_, ?_⟩
    · simp only [List.map_cons, PyData.weightAll, PyData.weight, List.length_cons]
      omega
    · rw [List.map_cons, PyData.showableAll, b, PyData.showable, y] <;> rfl
    · rw [List.map_cons, PyData.intsShortAll, c, PyData.intsShort, z] <;> rfl
    · rw [List.map_cons, PyData.canLayAll0, d, PyData.canLay0, lay_rows] <;> rfl
    · simp only [List.map_cons, PyData.depthAll, PyData.depth]
      omega
section
variable {K : PySem.W.Frag} {σ : L2.St} {H H' : Hp} {ta tb tc te tl tx : TE} {t u : TT} {x y z v : V} {D : Ends}
theorem lls_dp : ∀ {xs : List V} {Ls : List (List (List Int))}, Paired (LRw H) xs Ls → DpAll K H xs (Ls.map fun rs => .list (rs.map rd))
  | _, _, .nil => .nil
  | _, _, .cons ⟨b, ys, e, h1, h2⟩ t => by
    subst e
    exact .cons (.lst (sq_of h1) (dp_rows h2)) (lls_dp t)
/-- repr(many) -/
theorem ev_repr {n : Nat} {Ls : List (List (List Int))} (ha : Ev ta σ H x) (hx : LLs H x Ls) (ho : OkLists n Ls) : Ev (tCB (rRepr K) (tCons ta tNil)) σ H (.str (ld Ls).shown) := fun H1 e Q q =>
  ha H1 e _ fun H2 e2 => by
    obtain ⟨b, ys, rfl, h1, h2⟩ := hx.ex (e.trans e2)
    obtain ⟨w1, w2, w3, w4, w5⟩ := lists_w Ls ho.ok
    have h6 := ho.six
    have cl : (ld Ls).canLay0 = true := by unfold ld; rw [PyData.canLay0, w4]
    refine ⟨b, ld Ls, rfl, .lst (sq_of h1) (lls_dp h2), by unfold ld; rw [PyData.showable, w2], PyData.hasDict_of_canLay _ cl, ?_, ?_, q H2 e2⟩
    · unfold ld
      simp only [PyData.depth]
      omega
    · refine PyData.shown_fits (B := 13) (by decide) (by decide) (PyData.leavesShort_of_canLay0 13 _ cl (by unfold ld; rw [PyData.intsShort, w3])) ?_
      unfold ld
      simp only [PyData.weight]
      have : (2 : Nat) ^ 20 = 1048576 := by decide
      omega
end
theorem OkLists.take {n k : Nat} {Ls : List (List (List Int))} (h : OkLists n Ls) (hk : 0 < k) : OkLists n (Ls.take k) where
  ne := fun z => by
    have a := h.ne
    cases Ls with
    | nil => exact a rfl
    | cons _ _ =>
      cases k with
      | zero => omega
      | succ k => cases z
  six := by
    rw [List.length_take]
    have := h.six
    omega
  ok := fun rs hr => h.ok rs (List.mem_of_mem_take hr)
  pm := fun rs hr qs hq => h.pm rs (List.mem_of_mem_take hr) qs (List.mem_of_mem_take hq)
section
variable {P : Program} {w : World} {K : PySem.W.Frag} {mg : Str → Option Value} {base : Heap} {a : Nat → Addr} {d : Nat → FuncData} {tk : Nat → Tok}
theorem LevsRes.v {H H2 : Hp} {Ls : List (List (List Int))} {R : List (List Int)} {p : Addr} {lev : List Int → Nat} {ahd : List Int → Option (List Int)} {M : Nat} (h : LevsRes H Ls R p H2) (hR : R ∈ Ls) (L : LevOn Ls R lev ahd) (hM : IsCount R lev M) :
    LevV H2 (.ref p) R lev M ∧ ∃ ys, H2 p = some (.lst ys) ∧ ys.length = M ∧ ∀ (i : Nat) (z : V), ys[i]? = some z → ∃ q zs, z = .ref q ∧ H q = none ∧ q ≠ p ∧ H2 q = some (.lst zs) ∧ zs.length ≤ R.length := by
  obtain ⟨ys, lev', ahd', M', h1, h2, L', hM', h3⟩ := h
  have eM : M' = M := count_unique L' L hR hM' hM
  subst eM
  have el : ∀ r ∈ R, lev' r = lev r := fun r hr => lev_unique L' L hR _ r hr rfl
  have ef : ∀ i, (R.filter fun r => decide (lev' r = i)) = R.filter fun r => decide (lev r = i) := fun i => List.filter_congr fun r hr => by rw [el r hr]
  refine ⟨⟨p, ys, rfl, h1, h2, fun i z hz => ?_⟩, ys, h1, h2, fun i z hz => ?_⟩
  · obtain ⟨q, zs, z1, _, z3, z4⟩ := h3 i z hz
    rw [ef] at z4
    exact ⟨q, zs, z1, z3, z4⟩
  · obtain ⟨q, zs, z1, z2, z3, z4⟩ := h3 i z hz
    refine ⟨q, zs, z1, z2, fun e => ?_, z3, ?_⟩
    · rw [e, h1] at z3
      injection z3 with z3
      injection z3 with z3
      subst z3
      obtain ⟨r, _, hrow⟩ := Paired.mem_l z4 z (List.mem_of_getElem? hz)
      obtain ⟨b, eb, hb⟩ := hrow
      rw [z1] at eb
      cases eb
      rw [e, h1] at hb
      cases hb
    · rw [Paired.length z4]
      exact List.length_filter_le _ _
def sp__law_right : Sp := fun vs H Q _ => ∃ (x : V) (Ls : List (List (List Int))) (n : Nat), vs = [x] ∧ LLs H x Ls ∧ OkLists n Ls ∧ RetV (.bl true) H Q
theorem okG {x qual : Str} {st : Stmt} {f : Addr} {fd : FuncData} {N ps : List Str} {k : Nat} {sp : Sp} (F : Fun K x qual st f fd) (S : FnScope N ps (defScope st)) (len : ∀ vs H Q E, sp vs H Q E → vs.length = ps.length)
    (hbody : ∀ (cdv : Value) (A : Around) (outer : List Env) (s : Shared) (H : Hp) (vs : List V) (Q : VK) (E : XK), (A.deeper (envOfC qual (defScope st) s.heap.objs.size f cdv)).guards = some [] → Room k (A.deeper (envOfC qual (defScope st) s.heap.objs.size f cdv)) → sp vs H Q E →
      ∃ t, PSs (cxOf CX0 P w K mg base N qual (defScope st) f cdv A outer s H E).nox (defBody st) t ∧ t { nx := fun _ H' => Q .non H', rt := Q } (start N vs) H) : FnG P w K mg base CX0 (k + 1) f fd ps sp := by
  obtain ⟨oc, od, kV, doc, pm, an, cdv, ct, osl, rfl, lk, hcd⟩ := F.ex
  refine fn_ofG lk hcd S len fun A outer s H vs Q E hgd hr hsp => ?_
  obtain ⟨t, h, q⟩ := hbody cdv A outer s H vs Q E hgd hr hsp
  exact ⟨t, h.nox, q⟩
end
end Mv
/-! Rules for moves; falls, fewest_moves. -/
namespace Mv
open PySem PySem.Spec PyProof.Rows L2 Evl
section
variable {K : PySem.W.Frag} {σ : L2.St} {H H' : Hp} {ta tb tc te tl tx to : TE} {t u : TT} {x y z v : V}
theorem ev_isN (h : Ev ta σ H x) : Ev (tIsN ta) σ H (.bl (decide (x = .non))) := fun H1 e Q q => h H1 e _ fun H2 e2 => q H2 e2
theorem ev_notN (h : Ev ta σ H x) : Ev (tNotN ta) σ H (.bl (!decide (x = .non))) := fun H1 e Q q => h H1 e _ fun H2 e2 => q H2 e2
theorem AhV.isN {o : Option (List Int)} (h : AhV H y o) : decide (y = .non) = o.isNone := by
  cases o with
  | none =>
    cases (show y = .non from h)
    rfl
  | some q =>
    obtain ⟨b, rfl, _⟩ := (show IsRow H y q from h)
    rfl
def optD : Option (List Int) → PyData
  | none => .none
  | some q => rd q
theorem AhV.dp {o : Option (List Int)} (h : AhV H y o) : Dp K H y (optD o) := by
  cases o with
  | none =>
    cases (show y = .non from h)
    exact .non
  | some q => exact IsRow.dp h
theorem shaped_opt (o : Option (List Int)) : SeqAt.shaped (optD o) = true := by
  cases o with
  | none => decide +kernel
  | some q => exact shaped_row q
theorem eqv_opt (r : List Int) (o : Option (List Int)) : PyData.eqv (rd r) (optD o) = decide (o = some r) := by
  cases o with
  | none => rfl
  | some q =>
    show PyData.eqv (rd r) (rd q) = _
    rw [eqv_row]
    exact decide_eq_decide.mpr ⟨fun e => by rw [e], fun e => (Option.some.inj e).symm⟩
theorem eqv_opt' (r : List Int) (o : Option (List Int)) : PyData.eqv (optD o) (rd r) = decide (o = some r) := by
  cases o with
  | none => rfl
  | some q =>
    show PyData.eqv (rd q) (rd r) = _
    rw [eqv_row]
    exact decide_eq_decide.mpr ⟨fun e => by rw [e], fun e => Option.some.inj e⟩
theorem rv_eqOpt {r : List Int} {o : Option (List Int)} (hx : IsRow H x r) (hy : AhV H y o) : RV (rEqD K) x y H (.bl (decide (o = some r))) := fun H1 e Q q => by
  refine ⟨rd r, optD o, (hx.ex e).dp, (hy.ex e).dp, shaped_row r, shaped_opt o, ?_⟩
  rw [eqv_opt]
  exact q H1 (Ex.refl H1)
theorem rv_neOpt {r : List Int} {o : Option (List Int)} (hx : IsRow H x r) (hy : AhV H y o) : RV (rNeD K) x y H (.bl (!decide (o = some r))) := fun H1 e Q q => by
  refine ⟨rd r, optD o, (hx.ex e).dp, (hy.ex e).dp, shaped_row r, shaped_opt o, ?_⟩
  rw [eqv_opt]
  exact q H1 (Ex.refl H1)
theorem rv_neRow {r q : List Int} (hx : IsRow H x q) (hy : IsRow H y r) : RV (rNeD K) x y H (.bl (!decide (q = r))) := fun H1 e Q k => by
  refine ⟨rd q, rd r, (hx.ex e).dp, (hy.ex e).dp, shaped_row q, shaped_row r, ?_⟩
  rw [eqv_row]
  exact k H1 (Ex.refl H1)
/-- behind not in rows, where behind may be None -/
theorem rv_ninOpt {f : Addr} {ys : List V} {rs : List (List Int)} {o : Option (List Int)} {q : List Int} (hf : H f = some (.lst ys)) (hp : Paired (IsRow H) ys rs) (hx : AhV H x o) (eo : o = some q) : RV (rNotInD K) x (.ref f) H (.bl (!decide (q ∈ rs))) := by
  subst eo
  exact rv_ninRows hf hp hx
theorem ea_star {t : TA} {xs vs : List V} (h : EvL te σ H xs) (hr : EvA t σ H vs) : EvA (StX.tStar K te t) σ H (xs ++ vs) := fun H1 e Q q => h H1 e _ fun p H2 hp e2 hl => ⟨p, xs, rfl, .inr (sq_of hl), hr H2 (e.trans e2) _ fun H3 e3 => q H3 (e2.trans e3)⟩
theorem ev_indexR {f : Addr} {ys : List V} {rs : List (List Int)} {q : List Int} (ho : Ev to σ H (.ref f)) (hf : H f = some (.lst ys)) (hp : Paired (IsRow H) ys rs) (ha : Ev ta σ H y) (hy : IsRow H y q) (hq : q ∈ rs) :
    Ev (tBM K "list" (rIndexD K) to (tCons ta tNil)) σ H (.int (rs.idxOf q : Nat)) := fun H1 e Q k => ho H1 e _ fun H2 e2 =>
  ⟨Or.inl ⟨rfl, ys, sq_of (e2 _ _ (e _ _ hf))⟩, ha H2 (e.trans e2) _ fun H3 e3 => by
    have e03 := (e.trans e2).trans e3
    have hlt := List.idxOf_lt_length_iff.mpr hq
    refine ⟨f, y, rd q, rs.map rd, rs.idxOf q, rd rs[rs.idxOf q], rfl, rfl, .lst (sq_of (e03 _ _ hf)) (dp_rows (Paired.imp (fun _ _ h => h.ex e03) hp)), (hy.ex e03).dp, shaped_rows rs, shaped_row q, ?_, ?_, fun m z' hm hz => ?_, k H3 (e2.trans e3)⟩
    · rw [List.getElem?_map, List.getElem?_eq_getElem hlt] <;> rfl
    · rw [eqv_row]
      exact decide_eq_true (List.getElem_idxOf hlt)
    · rw [List.getElem?_map] at hz
      obtain ⟨p, hp1, rfl⟩ := Option.map_eq_some_iff.mp hz
      rw [eqv_row]
      refine decide_eq_false fun ee => ?_
      subst ee
      obtain ⟨hml, he⟩ := List.getElem?_eq_some_iff.mp hp1
      have := List.not_of_lt_findIdx (p := fun z => z == p) (xs := rs) (i := m) (by exact hm)
      simp [he] at this⟩
theorem el_lcF {a : Addr} {xs : List V} {j : Nat} {vs : List Nat} (f : V → Bool) (g : V → V) (h : Ev tl σ H (.ref a)) (hx : SqL K H a xs) (hz : xs.length ≤ 40000) (hw : ∀ x, wipe ((wipe σ vs).set j (some x)) vs = wipe σ vs)
    (ht : ∀ (x : V) H1, Ex H H1 → x ∈ xs → EvT t ((wipe σ vs).set j (some x)) H1 (f x)) (he : ∀ (x : V) H1, Ex H H1 → x ∈ xs → f x = true → Ev te ((wipe σ vs).set j (some x)) H1 (g x)) :
    EvL (tLc (iList K tl) (gName j) t te vs) σ H ((xs.filter f).map g) := by
  rw [← given_eq]
  have hm : ∀ i x, xs[i]? = some x → xs.getD i .non = x := fun i x e => by rw [List.getD_eq_getElem?_getD, e] <;> rfl
  exact el_lcL (K := K) (xs := xs) (fun i => f (xs.getD i .non)) (fun i => g (xs.getD i .non)) h hx hz hw (fun i x H1 e1 hi => by rw [hm i x hi]; exact ht x H1 e1 (List.mem_of_getElem? hi))
      (fun i x H1 e1 hi hf => by rw [hm i x hi] at hf ⊢; exact he x H1 e1 (List.mem_of_getElem? hi) hf)
theorem s_retP {P : V → Hp → Prop} {D : Ends} (h : EvP te σ H P) (k : ∀ v H1, Ex H H1 → P v H1 → D.rt v H1) : tRet te D σ H := h H (Ex.refl H) _ k
theorem ep_I0 {f : Int → Int → V} {i : Int} {R : Int → Prop} (ha : Ev ta σ H (.int i)) (hb : EvP tb σ H (fun v _ => ∃ j, v = .int j ∧ R j)) : EvP (tOp (rI0 f) ta tb) σ H (fun v _ => ∃ j, v = f i j ∧ R j) := fun H1 e Q q =>
  ha H1 e _ fun H2 e2 => hb H2 (e.trans e2) _ fun v H3 e3 ⟨j, ev, hj⟩ => ⟨i, j, rfl, ev, q _ H3 (e2.trans e3) ⟨j, rfl, hj⟩⟩
theorem q_asgE {i : Nat} {P : Addr → Hp → Prop} {D : Ends} {tz : TS} (h : EvF te σ H P) (k : ∀ p H1, H p = none → Ex H H1 → P p H1 → tz D (σ.set i (some (.ref p))) H1) : tSeq (tAsg te (gName i)) tz D σ H := h H (Ex.refl H) _ fun p H1 hp e hl => k p H1 hp e hl
/-- the rows other than r, in place -/
def drp (rs : List (List Int)) (r : List Int) : List (List Int) := rs.filter fun q => !decide (q = r)
def at' (left : List (List Int)) : Option (List Int) → Nat
  | none => 0
  | some q => left.idxOf q + 1
def inO (rs : List (List Int)) : Option (List Int) → Bool
  | none => true
  | some q => decide (q ∈ rs)
/-- a move done: row r behind o -/
def done (rs : List (List Int)) (r : List Int) (o : Option (List Int)) : Option (List (List Int)) :=
  if r ∈ rs ∧ o ≠ some r ∧ inO rs o = true then some ((drp rs r).take (at' (drp rs r) o) ++ r :: (drp rs r).drop (at' (drp rs r) o)) else none
def IsMv (H : Hp) (x : V) (r : List Int) (o : Option (List Int)) : Prop := ∃ a vr vo, x = .ref a ∧ H a = some (.tup [vr, vo]) ∧ IsRow H vr r ∧ AhV H vo o
theorem IsMv.ex {r : List Int} {o : Option (List Int)} (h : IsMv H x r o) (e : Ex H H') : IsMv H' x r o := let ⟨a, vr, vo, h1, h2, h3, h4⟩ := h; ⟨a, vr, vo, h1, e _ _ h2, h3.ex e, h4.ex e⟩
def DoneRes (H : Hp) (Q : VK) : Option (List (List Int)) → Prop
  | none => RetV .non H Q
  | some l => ∀ p H2, H p = none → Ex H H2 → LRw H2 (.ref p) l → Q (.ref p) H2
theorem drp_mem {rs : List (List Int)} {r q : List Int} : q ∈ drp rs r ↔ q ∈ rs ∧ q ≠ r := by
  unfold drp
  rw [List.mem_filter]
  constructor
  · rintro ⟨a, b⟩
    exact ⟨a, fun e => by rw [e, decide_eq_true rfl] at b; cases b⟩
  · rintro ⟨a, b⟩
    exact ⟨a, by rw [decide_eq_false b] <;> rfl⟩
theorem drp_len {rs : List (List Int)} (r : List Int) (nd : rs.Nodup) : (drp rs r).length = if r ∈ rs then rs.length - 1 else rs.length := by
  have e : drp rs r = rs.erase r := by
    rw [nd.erase_eq_filter r]
    unfold drp
    refine List.filter_congr fun q _ => ?_
    cases h : decide (q = r) with
    | true => simp [of_decide_eq_true h]
    | false => simp [of_decide_eq_false h]
  rw [e, List.length_erase]
end
section
variable {P : Program} {w : World} {K : PySem.W.Frag} {mg : Str → Option Value} {base : Heap} {a : Nat → Addr} {d : Nat → FuncData} {tk : Nat → Tok}
def FallRes (rs qs : List (List Int)) (H : Hp) (p1 : Addr) (H2 : Hp) : Prop := ∃ (bs : List Addr) (tops : List (List Int)) (lev : List Int → Nat) (ahd : List Int → Option (List Int)), H2 p1 = some (.lst (bs.map V.ref)) ∧ Paired (PileAt lev rs 100 H2) bs tops ∧
  (∀ b ∈ bs, H b = none ∧ b ≠ p1) ∧ bs.Nodup ∧ Pls rs qs rs tops lev ahd
def sp_falls : Sp := fun vs H Q _ => ∃ (x y : V) (rs qs : List (List Int)) (n : Nat), vs = [x, y] ∧ Rws H x rs ∧ Rws H y qs ∧ OkRows n rs ∧ qs.Perm rs ∧ ∀ p H2, H p = none → Ex H H2 → FallRes rs qs H p H2 → Q (.ref p) H2
theorem ok_falls (T : All K mg a d tk) : FnOk P w K mg base CX0 7 (a 11) (d 11) ["one", "other"] sp_falls := by
  refine T.F_falls.fn.ok sc_falls (fun vs H Q E h => ?_) (fun cdv A outer s H vs Q E hr h => ?_)
  · obtain ⟨x, y, rs, qs, n, rfl, _⟩ := h
    rfl
  · obtain ⟨x, y, rs, qs, n, rfl, hx, hy, ho, pm, k⟩ := h
    have nd := sc_falls.nd
    refine ⟨_, (pss_cons (ps_expr (pe_call (ok_need_pair T) (hr.mono (by decide)) rfl T.F_need_pair.m T.F_need_pair.kp T.F_need_pair.b .nil pass0 (pa_cons (pv 0) (pa_cons (pv 1) pa_nil))))
 (pss_cons (ps_asg (pe_call (ok_piles_of T) (hr.mono (by decide)) rfl T.F_piles_of.m T.F_piles_of.kp T.F_piles_of.b .nil pass0 (pa_cons (pv 0) (pa_cons (pv 1) pa_nil))) (pg_tup rfl (pgs_cons (pg_name (i := 2) nd rfl (Or.inl rfl)) (pgs_cons (pg_name (i := 3) nd rfl (Or.inl rfl)) pgs_nil))) (hw := by rfl))
 (pss_one (ps_ret (pv 2))))), ?_⟩
    refine q_drop (ev_call (ea_cons (ev_var rfl) (ea_cons (ev_var rfl) ea_nil)) (spv_need_pair hx hy ho pm)) fun H1 e1 => ?_
    refine ⟨_, rfl, _, rfl, x, y, rs, qs, n, rfl, hx.ex e1, hy.ex e1, ho, pm, fun t H2 e2 ⟨p1, p2, bs, tops, lev, ahd, g, ht, hp1, hb, hf, hn, np1, hp2, hg, hP⟩ => ?_⟩
    refine ⟨t, _, rfl, st_of ht, rfl, _, _, rfl, _, _, rfl, rfl, ?_⟩
    refine s_ret (ev_var rfl) fun H3 e3 => ?_
    exact k p1 H3 (fresh_back e1 np1) (e1.trans (e2.trans e3)) ⟨bs, tops, lev, ahd, e3 _ _ hp1, Paired.imp (fun _ _ h => h.ex e3) hb, fun b hb => ⟨fresh_back e1 (hf b hb).1, (hf b hb).2⟩, hn, hP⟩
def sp_fewest_moves : Sp := fun vs H Q _ => ∃ (x y : V) (rs qs : List (List Int)) (n : Nat), vs = [x, y] ∧ Rws H x rs ∧ Rws H y qs ∧ OkRows n rs ∧ qs.Perm rs ∧ ∀ lev ahd M H2, LevOn [rs, qs] rs lev ahd → IsCount rs lev M → Ex H H2 → Q (.int ((rs.length : Int) - (M : Int))) H2
/-- len(longest_of(one, other)) -/
theorem ep_lenLong {σ : L2.St} {H : Hp} {ta tb : TE} {x y : V} {rs qs : List (List Int)} {n : Nat} {E : XK} (ha : Ev ta σ H x) (hb : Ev tb σ H y) (hx : Rws H x rs) (hy : Rws H y qs) (ho : OkRows n rs) (pm : qs.Perm rs) :
    EvP (tCB (rLenS K) (tCons (tCall sp_longest_of [] E (tCons ta (tCons tb tNil))) tNil)) σ H fun v _ => ∃ j : Int, v = .int j ∧ ∃ lev ahd M, j = (M : Nat) ∧ LevOn [rs, qs] rs lev ahd ∧ IsCount rs lev M := fun H1 e Q q => by
  show tCons ta (tCons tb tNil) σ H1 (fun vs H2 => sp_longest_of (vs ++ []) H2 (fun v H3 => tNil σ H3 fun ws H4 => rLenS K (v :: ws) H4 Q) E)
  refine (show EvA (tCons ta (tCons tb tNil)) σ H [x, y] from ea_cons ha (ea_cons hb ea_nil)) H1 e _ fun H2 e2 => ?_
  refine ⟨x, y, rs, qs, n, rfl, hx.ex (e.trans e2), hy.ex (e.trans e2), ho, pm, fun p H3 np e3 ⟨ys, ds, lev, ahd, M, h1, h2, h3, h4, h5, h6, h7⟩ => ?_⟩
  refine ⟨p, ys, rfl, .inl (sq_of h1), ?_⟩
  exact q _ H3 (e2.trans e3) ⟨_, rfl, lev, ahd, M, by rw [h2], h6, h7⟩
theorem ok_fewest_moves (T : All K mg a d tk) : FnOk P w K mg base CX0 7 (a 15) (d 15) ["one", "other"] sp_fewest_moves := by
  refine T.F_fewest_moves.fn.ok sc_fewest_moves (fun vs H Q E h => ?_) (fun cdv A outer s H vs Q E hr h => ?_)
  · obtain ⟨x, y, rs, qs, n, rfl, _⟩ := h
    rfl
  · obtain ⟨x, y, rs, qs, n, rfl, hx, hy, ho, pm, k⟩ := h
    have nd := sc_fewest_moves.nd
    refine ⟨_, (pss_cons (ps_expr (pe_call (ok_need_pair T) (hr.mono (by decide)) rfl T.F_need_pair.m T.F_need_pair.kp T.F_need_pair.b .nil pass0 (pa_cons (pv 0) (pa_cons (pv 1) pa_nil))))
 (pss_one (ps_ret (pe_op op_sub (pe_callB call_len_seq (by rfl) T.n_len PySem.boot_len (pa_cons (pv 0) pa_nil)) (pe_callB call_len_seq (by rfl) T.n_len PySem.boot_len (pa_cons (pe_call (ok_longest_of T) (hr.mono (by decide)) rfl T.F_longest_of.m T.F_longest_of.kp T.F_longest_of.b .nil pass0 (pa_cons (pv 0) (pa_cons (pv 1) pa_nil))) pa_nil)))))), ?_⟩
    refine q_drop (ev_call (ea_cons (ev_var rfl) (ea_cons (ev_var rfl) ea_nil)) (spv_need_pair hx hy ho pm)) fun H1 e1 => ?_
    obtain ⟨a0, xs, rfl, hs, hp⟩ := id hx
    have c1 : Ev (tCB (rLenS K) (tCons (tVar 0) tNil)) [some (V.ref a0), some y] H1 (.int (xs.length : Int)) := ev_lenS (ev_var rfl) (hs.ex e1)
    have c2 := ep_lenLong (K := K) (σ := [some (V.ref a0), some y]) (H := H1) (ta := tVar 0) (tb := tVar 1) (E := fun _ _ _ => False) (ev_var rfl) (ev_var rfl) (hx.ex e1) (hy.ex e1) ho pm
    refine s_retP (ep_I0 c1 c2) fun v H2 e2 ⟨j, ev, lev, ahd, M, ej, h1, h2⟩ => ?_
    subst ev
    subst ej
    rw [Paired.length hp]
    exact k lev ahd M H2 h1 h2 (e1.trans e2)
end
end Mv
/-! moved, _law_done, _law_led. -/
namespace Mv
open PySem PySem.Spec PyProof.Rows L2 Evl
theorem at_le {l : List (List Int)} {o : Option (List Int)} (h : inO l o = true) : at' l o ≤ l.length := by
  cases o with
  | none => exact Nat.zero_le _
  | some q => exact List.idxOf_lt_length_iff.mpr (of_decide_eq_true h)
theorem inO_drp {rs : List (List Int)} {r : List Int} {o : Option (List Int)} (h : inO rs o = true) (n : o ≠ some r) : inO (drp rs r) o = true := by
  cases o with
  | none => rfl
  | some q => exact decide_eq_true (drp_mem.mpr ⟨of_decide_eq_true h, fun e => n (by rw [e])⟩)
theorem done_no {rs : List (List Int)} {r : List Int} {o : Option (List Int)} (h : (!decide (r ∈ rs) || (decide (o = some r) || (!o.isNone && !inO rs o))) = true) : done rs r o = none := by
  unfold done
  rw [if_neg]
  rintro ⟨h1, h2, h3⟩
  rw [decide_eq_true h1, decide_eq_false h2, h3] at h
  simp at h
theorem done_yes {rs : List (List Int)} {r : List Int} {o : Option (List Int)} (h : (!decide (r ∈ rs) || (decide (o = some r) || (!o.isNone && !inO rs o))) = false) : r ∈ rs ∧ o ≠ some r ∧ inO rs o = true := by
  rw [Bool.or_eq_false_iff, Bool.or_eq_false_iff] at h
  obtain ⟨h1, h2, h3⟩ := h
  refine ⟨?_, of_decide_eq_false h2, ?_⟩
  · by_cases z : r ∈ rs
    · exact z
    · rw [decide_eq_false z] at h1; cases h1
  · cases o with
    | none => rfl
    | some q =>
      cases z : inO rs (some q) with
      | true => rfl
      | false => rw [z] at h3; cases h3
theorem done_eq {rs : List (List Int)} {r : List Int} {o : Option (List Int)} (h : r ∈ rs ∧ o ≠ some r ∧ inO rs o = true) : done rs r o = some ((drp rs r).take (at' (drp rs r) o) ++ r :: (drp rs r).drop (at' (drp rs r) o)) := if_pos h
section
variable {P : Program} {w : World} {K : PySem.W.Frag} {mg : Str → Option Value} {base : Heap} {a : Nat → Addr} {d : Nat → FuncData} {tk : Nat → Tok}
/-- [item for item in rows if item != row] -/
theorem el_drp {σ : L2.St} {H : Hp} {tl tx : TE} {f : Addr} {ys : List V} {rs : List (List Int)} {r : List Int} {x : V} {j : Nat} (h : Ev tl σ H (.ref f)) (hf : H f = some (.lst ys)) (hp : Paired (IsRow H) ys rs) (hl : rs.length ≤ 60) (hx : IsRow H x r) (hw : ∀ x, wipe ((wipe σ [j]).set j (some x)) [j] = wipe σ [j])
    (hv : ∀ y : V, ((wipe σ [j]).set j (some y))[j]? = some (some y)) (hr : ∀ (y : V) H1, Ex H H1 → Ev tx ((wipe σ [j]).set j (some y)) H1 x) :
    EvF (tLc (iList K tl) (gName j) (tTest (tOp (rNeD K) (tVar j) tx)) (tVar j) [j]) σ H fun p H2 => LRw H2 (.ref p) (drp rs r) := fun H1 e Q q => by
  refine el_lcF (K := K) (byRow H fun q => !decide (q = r)) (fun x => x) h (sq_of hf) (by rw [Paired.length hp]; omega) hw (fun y H2 e2 hy => ?_) (fun y H2 e2 hy _ => ev_var (hv y)) H1 e _ fun p H2 np e2 h2 => q p H2 np e2 ?_
  · obtain ⟨z, hz, hrow⟩ := Paired.mem_l hp y hy
    rw [byRow_eq hrow]
    exact et_test (ev_op (ev_var (hv y)) (hr y H2 e2) (rv_neRow (hrow.ex e2) (hx.ex e2)))
  · rw [List.map_id'] at h2
    refine ⟨p, _, rfl, h2, Paired.filter (Paired.imp (fun _ _ h => h.ex (e.trans e2)) hp) fun y hy r' h => ?_⟩
    obtain ⟨z, hz, hrow⟩ := Paired.mem_l hp y hy
    rw [byRow_eq hrow, (hrow.ex (e.trans e2)).fn h]
def sp_moved : Sp := fun vs H Q _ => ∃ (x m : V) (rs : List (List Int)) (r : List Int) (o : Option (List Int)), vs = [x, m] ∧ LRw H x rs ∧ IsMv H m r o ∧ rs.length ≤ 60 ∧ DoneRes H Q (done rs r o)
theorem ok_moved (T : All K mg a d tk) : FnOk P w K mg base CX0 1 (a 18) (d 18) ["rows", "move"] sp_moved := by
  refine T.F_moved.fn.ok sc_moved (fun vs H Q E h => ?_) (fun cdv A outer s H vs Q E hr h => ?_)
  · obtain ⟨x, m, rs, r, o, rfl, _⟩ := h
    rfl
  · obtain ⟨x, m, rs, r, o, rfl, hx, hm, hl, k⟩ := h
    have nd := sc_moved.nd
    have hu := hu_of hr
    have hu0 := hr.units0
    have hu65 := hu65_of hr
    have hu64 := hr.units
    refine ⟨_, (pss_cons (ps_asg (pv 1) (pg_tup rfl (pgs_cons (pg_name (i := 2) nd rfl (Or.inr rfl)) (pgs_cons (pg_name (i := 3) nd rfl (Or.inl rfl)) pgs_nil))) (hw := by rfl))
 (pss_cons (ps_if (PW.pt (pw_or (pt_cmpR (op_notInD hu65) (pv 2) (pv 0) rfl) (pw_or (pt_cmpR (op_eqD hu64) (pv 2) (pv 3) (nomark _)) (pw_or1 (PW.pt (pw_and (pt_cmp (pc_notN (pv 3))) (pw_and1 (pt_cmpR (op_notInD hu65) (pv 3) (pv 0) rfl))))))))
 (pss_one (ps_ret pe_non))
 pss_nil)
 (pss_cons (ps_setLc (i := 4) (own := [("item", 6)]) (g := (gName 6)) rfl nd rfl rfl (sw_true rfl rfl rfl (by decide +kernel)) (pi_list (pv 0)) (blkOk_by (N := N_moved) (sc := defScope s_moved) (by decide +kernel)) (fun _ _ _ _ _ => (pg_name (i := 6) nd rfl (Or.inl rfl))) (fun _ _ _ _ _ => (pts_one (pt_cmpR (show OpR _ (compareOp .NotEq) (rNeD K) from (op_neD hu64)) (pv 6) (pv 2) (nomark _)))) (fun _ _ _ _ _ => (pv 6)))
 (pss_cons (ps_set (i := 5) nd rfl (Or.inl rfl) (pe_ifExp (pt_cmp (pc_isN (pv 3))) pe_int (pe_op op_add (pe_bm PySem.F.plainAttrs_list PySem.F.slot_list_index PySem.F.type_list_index (mt_indexD hu65) (pv 4) (pa_cons (pv 3) pa_nil)) pe_int)))
 (pss_one (ps_ret (pe_lst (StX.pa_star (pe_slice sl_list (pv 4) po_none (po_some (pv 5))) (pa_cons (pv 2) (StX.pa_star (pe_slice sl_list (pv 4) (po_some (pv 5)) po_none) pa_nil)))))))))), ?_⟩
    obtain ⟨f, ys, rfl, hf, hp⟩ := hx
    obtain ⟨ma, vr, vo, rfl, hma, hvr, hvo⟩ := hm
    refine ⟨_, rfl, ma, _, rfl, st_of hma, rfl, _, _, rfl, _, _, rfl, rfl, ?_⟩
    refine q_when (b := (!decide (r ∈ rs) || (decide (o = some r) || (!o.isNone && !inO rs o)))) (et_or (et_test (ev_op (ev_var rfl) (ev_var rfl) (rv_ninRows hf hp hvr))) fun _ => et_or (et_test (ev_op (ev_var rfl) (ev_var rfl) (rv_eqOpt hvr hvo))) fun _ => et_and (et_is (et_B (ev_notN (ev_var rfl))) (by rw [hvo.isN])) fun hn => ?_) (fun h H1 e1 => ?_) fun h H1 e1 => ?_
    · cases o with
      | none => cases hn
      | some q => exact et_test (ev_op (ev_var rfl) (ev_var rfl) (rv_ninOpt hf hp hvo rfl))
    · rw [done_no h] at k
      exact s_ret ev_c fun H2 e2 => k H2 (e1.trans e2)
    · have hy := done_yes h
      rw [done_eq hy] at k
      refine q_asgE (el_drp (K := K) (σ := [some (V.ref f), some (.ref ma), some vr, some vo, none, none, none]) (tl := tVar 0) (tx := tVar 2) (j := 6) (ev_var rfl) (e1 _ _ hf) (Paired.imp (fun _ _ h => h.ex e1) hp) hl (hvr.ex e1) (fun _ => rfl) (fun _ => rfl) (fun y H2 e2 => ev_var rfl)) fun L H2 nL e2 ⟨L', zs, eL, hL, hz⟩ => ?_
      cases eL
      have iD := inO_drp hy.2.2 hy.2.1
      have al := at_le iD
      have lz : zs.length = (drp rs r).length := Paired.length hz
      refine q_asg (v := .int (at' (drp rs r) o : Nat)) ?_ fun H3 e3 => ?_
      · cases o with
        | none => exact ev_if (b := true) (et_is (et_B (ev_isN (ev_var rfl))) (by rw [hvo.isN] <;> rfl)) (fun _ => ev_c) fun h => nomatch h
        | some q => exact ev_if (b := false) (et_is (et_B (ev_isN (ev_var rfl))) (by rw [hvo.isN] <;> rfl)) (fun h => nomatch h) fun _ => ev_is (ev_I0 (ev_indexR (ev_var rfl) hL hz (ev_var rfl) (hvo.ex (e1.trans e2)) (of_decide_eq_true iD)) ev_c) rfl
      · have s1 : EvL (tSl (rSlL K) (tVar 4) tNoPart (tPart (tVar 5))) [some (V.ref f), some (.ref ma), some vr, some vo, some (.ref L), some (.int (at' (drp rs r) o : Nat)), none] H3 (zs.take (at' (drp rs r) o)) := by
          have := el_sl (K := K) (te := tVar 4) (σ := [some (V.ref f), some (.ref ma), some vr, some vo, some (.ref L), some (.int (at' (drp rs r) o : Nat)), none]) (H := H3) (ev_var rfl) eo_none (eo_some (te := tVar 5) (ev_var rfl)) (sq_of (e3 _ _ hL))
          rwa [cutV_to _ _ (by omega)] at this
        have s2 : EvL (tSl (rSlL K) (tVar 4) (tPart (tVar 5)) tNoPart) [some (V.ref f), some (.ref ma), some vr, some vo, some (.ref L), some (.int (at' (drp rs r) o : Nat)), none] H3 (zs.drop (at' (drp rs r) o)) := by
          have := el_sl (K := K) (te := tVar 4) (σ := [some (V.ref f), some (.ref ma), some vr, some vo, some (.ref L), some (.int (at' (drp rs r) o : Nat)), none]) (H := H3) (ev_var rfl) (eo_some (te := tVar 5) (ev_var rfl)) eo_none (sq_of (e3 _ _ hL))
          rwa [cutV_from _ _ (by omega)] at this
        refine s_retL (el_lst (ea_star s1 (ea_cons (ev_var rfl) (ea_star s2 ea_nil))) ?_) fun p H4 np e4 h4 => ?_
        · have l60 : (drp rs r).length ≤ rs.length := List.length_filter_le _ _
          simp only [List.length_append, List.length_cons, List.length_take, List.length_drop, List.length_nil]
          omega
        · rw [List.append_nil] at h4
          have e14 := e1.trans (e2.trans (e3.trans e4))
          have hz4 := Paired.imp (fun _ _ h => IsRow.ex h (e3.trans e4)) hz
          exact k p H4 (fresh_back (e1.trans (e2.trans e3)) np) e14 ⟨p, _, rfl, h4, Paired.append (Paired.take _ hz4) (.cons (hvr.ex e14) (Paired.drop _ hz4))⟩
theorem sps_moved {x m : V} {rs : List (List Int)} {r : List Int} {o : Option (List Int)} {H : Hp} (h : LRw H x rs) (hm : IsMv H m r o) (hl : rs.length ≤ 60) {Q : VK} {E : XK} (k : DoneRes H Q (done rs r o)) : sp_moved [x, m] H Q E := ⟨x, m, rs, r, o, rfl, h, hm, hl, k⟩
theorem done_law {rs : List (List Int)} {r : List Int} {o : Option (List Int)} (nd : rs.Nodup) {b : Bool} (hb : b = !decide (V.int ((drp rs r).length : Int) = V.int ((rs.length : Int) - 1))) : (b || (!o.isNone && !inO (drp rs r) o)) = (!decide (r ∈ rs) || (decide (o = some r) || (!o.isNone && !inO rs o))) := by
  have e1 : b = !decide (r ∈ rs) := by
    rw [hb, drp_len r nd]
    congr 1
    refine decide_eq_decide.mpr ?_
    by_cases h : r ∈ rs
    · have : 0 < rs.length := List.length_pos_of_mem h
      rw [if_pos h]
      exact ⟨fun _ => h, fun _ => by congr 1; omega⟩
    · rw [if_neg h]
      refine ⟨fun e => ?_, fun e => absurd e h⟩
      injection e with e
      omega
  rw [e1]
  cases hr : decide (r ∈ rs) with
  | false => rfl
  | true =>
    have hr := of_decide_eq_true hr
    cases o with
    | none => rfl
    | some q =>
      show (false || (true && !decide (q ∈ drp rs r))) = (false || (decide (some q = some r) || (true && !decide (q ∈ rs))))
      by_cases e : q = r
      · subst e
        rw [decide_eq_true rfl, decide_eq_false fun h => (drp_mem.mp h).2 rfl] <;> rfl
      · rw [decide_eq_false (p := some q = some r) fun h => e (Option.some.inj h)]
        have : decide (q ∈ drp rs r) = decide (q ∈ rs) := decide_eq_decide.mpr ⟨fun h => (drp_mem.mp h).1, fun h => drp_mem.mpr ⟨h, e⟩⟩
        rw [this] <;> rfl
def sp__law_done : Sp := fun vs H Q _ => ∃ (x m : V) (rs : List (List Int)) (r : List Int) (o : Option (List Int)), vs = [x, m] ∧ LRw H x rs ∧ IsMv H m r o ∧ rs.length ≤ 60 ∧ rs.Nodup ∧ DoneRes H Q (done rs r o)
theorem ok__law_done (T : All K mg a d tk) : FnOk P w K mg base CX0 1 (a 30) (d 30) ["rows", "move"] sp__law_done := by
  refine T.F__law_done.fn.ok sc__law_done (fun vs H Q E h => ?_) (fun cdv A outer s H vs Q E hr h => ?_)
  · obtain ⟨x, m, rs, r, o, rfl, _⟩ := h
    rfl
  · obtain ⟨x, m, rs, r, o, rfl, hx, hm, hl, nR, k⟩ := h
    have nd := sc__law_done.nd
    have hu := hu_of hr
    have hu0 := hr.units0
    have hu65 := hu65_of hr
    have hu64 := hr.units
    refine ⟨_, (pss_cons (ps_asg (pv 1) (pg_tup rfl (pgs_cons (pg_name (i := 2) nd rfl (Or.inr rfl)) (pgs_cons (pg_name (i := 3) nd rfl (Or.inl rfl)) pgs_nil))) (hw := by rfl))
 (pss_cons (ps_setLc (i := 4) (own := [("first", 6)]) (g := (gName 6)) rfl nd rfl rfl (sw_true rfl rfl rfl (by decide +kernel)) (pi_list (pv 0)) (blkOk_by (N := N__law_done) (sc := defScope s__law_done) (by decide +kernel)) (fun _ _ _ _ _ => (pg_name (i := 6) nd rfl (Or.inl rfl))) (fun _ _ _ _ _ => (pts_one (pt_cmpR (show OpR _ (compareOp .NotEq) (rNeD K) from (op_neD hu64)) (pv 6) (pv 2) (nomark _)))) (fun _ _ _ _ _ => (pv 6)))
 (pss_cons (ps_if (PW.pt (pw_or (pt_cmpR op_ne (pe_callB call_len_seq (by rfl) T.n_len PySem.boot_len (pa_cons (pv 4) pa_nil)) (pe_op op_sub (pe_callB call_len_seq (by rfl) T.n_len PySem.boot_len (pa_cons (pv 0) pa_nil)) pe_int) (nomark _)) (pw_or1 (PW.pt (pw_and (pt_cmp (pc_notN (pv 3))) (pw_and1 (pt_cmpR (op_notInD hu65) (pv 3) (pv 4) rfl)))))))
 (pss_one (ps_ret pe_non))
 pss_nil)
 (pss_cons (ps_set (i := 5) nd rfl (Or.inl rfl) (pe_ifExp (pt_cmp (pc_isN (pv 3))) pe_int (pe_op op_add (pe_bm PySem.F.plainAttrs_list PySem.F.slot_list_index PySem.F.type_list_index (mt_indexD hu65) (pv 4) (pa_cons (pv 3) pa_nil)) pe_int)))
 (pss_one (ps_ret (pe_op op_cat (pe_op op_cat (pe_slice sl_list (pv 4) po_none (po_some (pv 5))) (pe_lst (pa_cons (pv 2) pa_nil))) (pe_slice sl_list (pv 4) (po_some (pv 5)) po_none)))))))), ?_⟩
    obtain ⟨f, ys, rfl, hf, hp⟩ := hx
    obtain ⟨ma, vr, vo, rfl, hma, hvr, hvo⟩ := hm
    refine ⟨_, rfl, ma, _, rfl, st_of hma, rfl, _, _, rfl, _, _, rfl, rfl, ?_⟩
    refine q_asgE (el_drp (K := K) (σ := [some (V.ref f), some (.ref ma), some vr, some vo, none, none, none]) (tl := tVar 0) (tx := tVar 2) (j := 6) (ev_var rfl) hf hp hl hvr (fun _ => rfl) (fun _ => rfl) (fun y H2 e2 => ev_var rfl)) fun L H2 nL e2 ⟨L', zs, eL, hL, hz⟩ => ?_
    cases eL
    have lz : zs.length = (drp rs r).length := Paired.length hz
    have ly : ys.length = rs.length := Paired.length hp
    have l60 : (drp rs r).length ≤ rs.length := List.length_filter_le _ _
    refine q_when (b := (!decide (V.int (zs.length : Int) = V.int ((ys.length : Int) - 1)) || (!o.isNone && !inO (drp rs r) o))) (et_or (et_test (ev_op (ev_lenS (ev_var rfl) (.inl hL)) (ev_I0 (ev_lenS (ev_var rfl) (.inl (e2 _ _ hf))) ev_c) (rv_ne rfl))) fun _ => et_and (et_is (et_B (ev_notN (ev_var rfl))) (by rw [hvo.isN])) fun hn => ?_) (fun h H1 e1 => ?_) fun h H1 e1 => ?_
    · cases o with
      | none => cases hn
      | some q => exact et_test (ev_op (ev_var rfl) (ev_var rfl) (rv_ninOpt hL hz (hvo.ex e2) rfl))
    · rw [done_law nR (by rw [lz, ly])] at h
      rw [done_no h] at k
      exact s_ret ev_c fun H3 e3 => k H3 (e2.trans (e1.trans e3))
    · rw [done_law nR (by rw [lz, ly])] at h
      have hy := done_yes h
      rw [done_eq hy] at k
      have iD := inO_drp hy.2.2 hy.2.1
      have al := at_le iD
      have hL1 := e1 _ _ hL
      have hz1 := Paired.imp (fun _ _ h => IsRow.ex h e1) hz
      refine q_asg (v := .int (at' (drp rs r) o : Nat)) ?_ fun H3 e3 => ?_
      · cases o with
        | none => exact ev_if (b := true) (et_is (et_B (ev_isN (ev_var rfl))) (by rw [hvo.isN] <;> rfl)) (fun _ => ev_c) fun h => nomatch h
        | some q => exact ev_if (b := false) (et_is (et_B (ev_isN (ev_var rfl))) (by rw [hvo.isN] <;> rfl)) (fun h => nomatch h) fun _ => ev_is (ev_I0 (ev_indexR (ev_var rfl) hL1 hz1 (ev_var rfl) (hvo.ex (e2.trans e1)) (of_decide_eq_true iD)) ev_c) rfl
      · have s1 : EvL (tSl (rSlL K) (tVar 4) tNoPart (tPart (tVar 5))) [some (V.ref f), some (.ref ma), some vr, some vo, some (.ref L), some (.int (at' (drp rs r) o : Nat)), none] H3 (zs.take (at' (drp rs r) o)) := by
          have := el_sl (K := K) (te := tVar 4) (σ := [some (V.ref f), some (.ref ma), some vr, some vo, some (.ref L), some (.int (at' (drp rs r) o : Nat)), none]) (H := H3) (ev_var rfl) eo_none (eo_some (te := tVar 5) (ev_var rfl)) (sq_of (e3 _ _ hL1))
          rwa [cutV_to _ _ (by omega)] at this
        have s2 : EvL (tSl (rSlL K) (tVar 4) (tPart (tVar 5)) tNoPart) [some (V.ref f), some (.ref ma), some vr, some vo, some (.ref L), some (.int (at' (drp rs r) o : Nat)), none] H3 (zs.drop (at' (drp rs r) o)) := by
          have := el_sl (K := K) (te := tVar 4) (σ := [some (V.ref f), some (.ref ma), some vr, some vo, some (.ref L), some (.int (at' (drp rs r) o : Nat)), none]) (H := H3) (ev_var rfl) (eo_some (te := tVar 5) (ev_var rfl)) eo_none (sq_of (e3 _ _ hL1))
          rwa [cutV_from _ _ (by omega)] at this
        have lt1 := List.length_take (i := at' (drp rs r) o) (l := zs)
        have lt2 := List.length_drop (i := at' (drp rs r) o) (l := zs)
        refine s_retL (el_cat (el_cat s1 (el_lst (ea_cons (ev_var rfl) ea_nil) (show 1 ≤ 100000 by decide)) ?_) s2 ?_) fun p H4 np e4 h4 => ?_
        · simp only [List.length_cons, List.length_nil]
          omega
        · simp only [List.length_append, List.length_cons, List.length_nil]
          omega
        · rw [List.append_assoc] at h4
          have e14 := e2.trans (e1.trans (e3.trans e4))
          have hz4 := Paired.imp (fun _ _ h => IsRow.ex h (e3.trans e4)) hz1
          exact k p H4 (fresh_back (e2.trans (e1.trans e3)) np) e14 ⟨p, _, rfl, h4, Paired.append (Paired.take _ hz4) (.cons (hvr.ex e14) (Paired.drop _ hz4))⟩
end
end Mv
/-! is_move, are_moves, need_moves, _law_led. -/
namespace Mv
open PySem PySem.Spec PyProof.Rows L2 Evl
abbrev Move := List Int × Option (List Int)
structure OkMv (n : Nat) (m : Move) : Prop where
  w1 : 1 ≤ n
  w5 : n ≤ 5
  row : OkRow n m.1
  beh : ∀ q, m.2 = some q → OkRow n q
def MvAll (H : Hp) (xs : List V) (ms : List Move) : Prop := Paired (fun x m => IsMv H x m.1 m.2) xs ms
theorem MvAll.ex {H H' : Hp} {xs : List V} {ms : List Move} (h : MvAll H xs ms) (e : Ex H H') : MvAll H' xs ms := Paired.imp (fun _ _ z => z.ex e) h
def MvS (H : Hp) (x : V) (ms : List Move) : Prop := ∃ a xs, x = .ref a ∧ Seq H a xs ∧ MvAll H xs ms
theorem MvS.ex {H H' : Hp} {x : V} {ms : List Move} (h : MvS H x ms) (e : Ex H H') : MvS H' x ms := let ⟨a, xs, h1, h2, h3⟩ := h; ⟨a, xs, h1, h2.ex e, h3.ex e⟩
theorem drp_erase {rs : List (List Int)} (r : List Int) (nd : rs.Nodup) : drp rs r = rs.erase r := by
  rw [nd.erase_eq_filter r]
  unfold drp
  refine List.filter_congr fun q _ => ?_
  cases h : decide (q = r) with
  | true => simp [of_decide_eq_true h]
  | false => simp [of_decide_eq_false h]
theorem done_perm {rs l : List (List Int)} {r : List Int} {o : Option (List Int)} (nd : rs.Nodup) (h : done rs r o = some l) : l.Perm rs := by
  by_cases c : r ∈ rs ∧ o ≠ some r ∧ inO rs o = true
  · rw [done_eq c] at h
    cases h
    refine List.perm_middle.trans ?_
    rw [List.take_append_drop, drp_erase r nd]
    exact (List.perm_cons_erase c.1).symm
  · unfold done at h
    rw [if_neg c] at h
    cases h
def led (rs : List (List Int)) (ms : List Move) : Option (List (List Int)) := ms.foldl (fun o m => o.bind fun l => done l m.1 m.2) (some rs)
theorem led_snoc (rs : List (List Int)) (ms : List Move) (m : Move) : led rs (ms ++ [m]) = (led rs ms).bind fun l => done l m.1 m.2 := by
  unfold led
  rw [List.foldl_append] <;> rfl
theorem led_perm {rs : List (List Int)} (nd : rs.Nodup) (ms : List Move) : ∀ l, led rs ms = some l → l.Perm rs := by
  have gen : ∀ (ms : List Move) (o : Option (List (List Int))), (∀ l, o = some l → l.Perm rs) → ∀ l, ms.foldl (fun o m => o.bind fun l => done l m.1 m.2) o = some l → l.Perm rs := by
    intro ms
    induction ms with
    | nil => exact fun o h l e => h l e
    | cons m ms ih =>
      intro o h l e
      refine ih _ (fun l' e' => ?_) l e
      cases o with
      | none => cases e'
      | some l0 => exact (done_perm ((h l0 rfl).nodup_iff.mpr nd) e').trans (h l0 rfl)
  exact gen ms (some rs) fun l e => by cases e; exact List.Perm.refl _
def LedAt (H : Hp) (v : V) : Option (List (List Int)) → Prop
  | none => v = .non
  | some l => LRw H v l
theorem LedAt.ex {H H' : Hp} {v : V} {o : Option (List (List Int))} (h : LedAt H v o) (e : Ex H H') : LedAt H' v o := by
  cases o with
  | none => exact h
  | some l => exact LRw.ex h e
section
variable {P : Program} {w : World} {K : PySem.W.Frag} {mg : Str → Option Value} {base : Heap} {a : Nat → Addr} {d : Nat → FuncData} {tk : Nat → Tok}
def sp_is_move : Sp := fun vs H Q _ => ∃ (x : V) (m : Move) (n : Nat), vs = [x] ∧ IsMv H x m.1 m.2 ∧ OkMv n m ∧ RetV (.bl true) H Q
theorem ok_is_move (T : All K mg a d tk) : FnOk P w K mg base CX0 4 (a 16) (d 16) ["value"] sp_is_move := by
  refine T.F_is_move.fn.ok sc_is_move (fun vs H Q E h => ?_) (fun cdv A outer s H vs Q E hr h => ?_)
  · obtain ⟨x, m, n, rfl, _⟩ := h
    rfl
  · obtain ⟨x, ⟨r, o⟩, n, rfl, hm, ho, k⟩ := h
    have nd := sc_is_move.nd
    refine ⟨_, (pss_cons (ps_if (PW.pt (pw_or (pt_not (pt_val (pe_callB call_isi (by rfl) T.n_isinstance PyProof.Rows.boot_isinstance (pa_cons (pv 0) (pa_cons (pe_bltn (v := .ty "tuple") rfl T.n_tuple PyProof.Rows.boot_tuple rfl) pa_nil))))) (pw_or (pt_cmpR op_ne (pe_callB call_len_seq (by rfl) T.n_len PySem.boot_len (pa_cons (pv 0) pa_nil)) pe_int (nomark _)) (pw_or1 (pt_not (pt_val (pe_call (ok_is_any_row T) (hr.mono (by decide)) rfl T.F_is_any_row.m T.F_is_any_row.kp T.F_is_any_row.b .nil pass0 (pa_cons (pe_ix ix_seq (pv 0) pe_int (fun _ _ => rfl)) pa_nil))))))))
 (pss_one (ps_ret pe_bl))
 pss_nil)
 (pss_one (ps_ret (pe_or (pe_cmp (pc_isN (pe_ix ix_seq (pv 0) pe_int (fun _ _ => rfl)))) (pe_one (pe_call (ok_is_any_row T) (hr.mono (by decide)) rfl T.F_is_any_row.m T.F_is_any_row.kp T.F_is_any_row.b .nil pass0 (pa_cons (pe_ix ix_seq (pv 0) pe_int (fun _ _ => rfl)) pa_nil))))))), ?_⟩
    obtain ⟨ma, vr, vo, rfl, hma, hvr, hvo⟩ := hm
    refine q_when (et_or (et_not (et_B (ev_isi (ev_var rfl) (ty_tup hma) (kT (b := true) (by decide +kernel))))) fun _ => et_or (et_test (ev_op (ev_lenS (ev_var rfl) (.inr hma)) ev_c (rv_ne rfl))) fun _ => et_not (et_B (ev_call (ea_cons (ev_ixS (i := 0) (ev_var rfl) ev_c (.inr hma) rfl) ea_nil) (spv_is_any_row hvr ho.row ho.w1 ho.w5)))) (fun h => absurd (show (!true || (!true || !true)) = true from h) (by decide)) fun _ H1 e1 => ?_
    have c1 : Ev (tIsN (tOp (rIx K) (tVar 0) (tC (.int 1)))) [some (V.ref ma)] H1 (.bl o.isNone) := ev_is (ev_isN (ev_ixS (i := 1) (ev_var rfl) ev_c (.inr (e1 _ _ hma)) rfl)) (by rw [hvo.isN])
    refine s_ret (ev_is (ev_orV (b := true) c1 fun hn => ?_) (by cases o <;> rfl)) fun H2 e2 => k H2 (e1.trans e2)
    cases o with
    | none => cases hn
    | some q => exact ev_call (ea_cons (ev_ixS (i := 1) (ev_var rfl) ev_c (.inr (e1 _ _ hma)) rfl) ea_nil) (spv_is_any_row (IsRow.ex hvo e1) (ho.beh q rfl) ho.w1 ho.w5)
theorem spv_is_move {x : V} {m : Move} {n : Nat} {H : Hp} (h : IsMv H x m.1 m.2) (ho : OkMv n m) : SpV sp_is_move [x] H (.bl true) := fun H1 e Q q _ => ⟨x, m, n, rfl, h.ex e, ho, q⟩
def sp_are_moves : Sp := fun vs H Q _ => ∃ (x : V) (ms : List Move) (n : Nat), vs = [x] ∧ MvS H x ms ∧ (∀ m ∈ ms, OkMv n m) ∧ ms.length ≤ 300 ∧ RetV (.bl true) H Q
theorem ok_are_moves (T : All K mg a d tk) : FnOk P w K mg base CX0 5 (a 17) (d 17) ["value"] sp_are_moves := by
  refine T.F_are_moves.fn.ok sc_are_moves (fun vs H Q E h => ?_) (fun cdv A outer s H vs Q E hr h => ?_)
  · obtain ⟨x, ms, n, rfl, _⟩ := h
    rfl
  · obtain ⟨x, ms, n, rfl, hm, ho, hl, k⟩ := h
    have nd := sc_are_moves.nd
    refine ⟨_, (pss_one (ps_ret (pe_and (pe_call (ok_is_list T) (hr.mono (by decide)) rfl T.F_is_list.m T.F_is_list.kp T.F_is_list.b .nil pass0 (pa_cons (pv 0) pa_nil)) (pe_and (pe_cmpR op_le (pe_callB call_len_seq (by rfl) T.n_len PySem.boot_len (pa_cons (pv 0) pa_nil)) (pe_glob (v := .int 300) rfl T.c_MOST_MOVES ⟨_, rfl⟩) (nomark _)) (pe_one (pe_callB (cr_all rfl) (by rfl) T.n_all PyProof.Rows.boot_all (pa_cons (pe_lc (own := [("item", 1)]) (g := (gName 1)) rfl nd (pi_seq (pv 0)) (blkOk_by (N := N_are_moves) (sc := defScope s_are_moves) (by decide +kernel)) (fun _ _ _ _ _ => (pg_name (i := 1) nd rfl (Or.inl rfl))) (fun _ _ _ _ _ => pts_nil) (fun _ _ _ _ _ => (pe_call (ok_is_move T) (hr.mono (by decide)) rfl T.F_is_move.m T.F_is_move.kp T.F_is_move.b .nil pass0 (pa_cons (pv 1) pa_nil)))) pa_nil))))))), ?_⟩
    obtain ⟨p, xs, rfl, hs, hp⟩ := id hm
    have hlen : xs.length = ms.length := Paired.length hp
    refine s_ret (ev_is (ev_andV (ev_call (ea_cons (ev_var rfl) ea_nil) (spv_is_list hs)) fun _ => ev_andV (ev_I0 (g := fun i j => .bl (decide (i ≤ j))) (ev_lenS (ev_var rfl) hs) ev_c) fun _ => ev_allT (el_lcSm (fun _ => .bl true) (ev_var rfl) hs (by rw [hlen]; omega) (fun _ => rfl) fun y H2 e2 hy => ?_)) ?_) k
    · obtain ⟨m, hm, h⟩ := Paired.mem_l hp y hy
      exact ev_call (ea_cons (ev_var rfl) ea_nil) (spv_is_move (h.ex e2) (ho m hm))
    · have z : decide ((xs.length : Int) ≤ 300) = true := decide_eq_true (by omega)
      rw [z] <;> rfl
theorem spv_are_moves {x : V} {ms : List Move} {n : Nat} {H : Hp} (h : MvS H x ms) (ho : ∀ m ∈ ms, OkMv n m) (hl : ms.length ≤ 300) : SpV sp_are_moves [x] H (.bl true) := fun H1 e Q q _ => ⟨x, ms, n, rfl, h.ex e, ho, hl, q⟩
def sp_need_moves : Sp := fun vs H Q _ => ∃ (x y : V) (rs : List (List Int)) (ms : List Move) (n : Nat), vs = [x, y] ∧ Rws H x rs ∧ OkRows n rs ∧ MvS H y ms ∧ (∀ m ∈ ms, OkMv n m) ∧ ms.length ≤ 300 ∧ RetV .non H Q
theorem ok_need_moves (T : All K mg a d tk) : FnOk P w K mg base CX0 6 (a 19) (d 19) ["rows", "moves"] sp_need_moves := by
  refine T.F_need_moves.fn.ok sc_need_moves (fun vs H Q E h => ?_) (fun cdv A outer s H vs Q E hr h => ?_)
  · obtain ⟨x, y, rs, ms, n, rfl, _⟩ := h
    rfl
  · obtain ⟨x, y, rs, ms, n, rfl, hx, hor, hm, ho, hl, k⟩ := h
    have nd := sc_need_moves.nd
    refine ⟨_, (pss_cons (ps_expr (pe_call (ok_need_rows T) (hr.mono (by decide)) rfl T.F_need_rows.m T.F_need_rows.kp T.F_need_rows.b .nil pass0 (pa_cons (pv 0) pa_nil)))
 (pss_one (ps_if (pt_not (pt_val (pe_call (ok_are_moves T) (hr.mono (by decide)) rfl T.F_are_moves.m T.F_are_moves.kp T.F_are_moves.b .nil pass0 (pa_cons (pv 1) pa_nil))))
 (pss_one ps_dead)
 pss_nil))), ?_⟩
    refine q_drop (ev_call (ea_cons (ev_var rfl) ea_nil) (spv_need_rows hx hor)) fun H1 e1 => ?_
    exact s_when (et_not (et_B (ev_call (ea_cons (ev_var rfl) ea_nil) (spv_are_moves (hm.ex e1) ho hl)))) (fun h => absurd h (by decide)) fun _ H2 e2 => k H2 (e1.trans e2)
theorem spv_need_moves {x y : V} {rs : List (List Int)} {ms : List Move} {n : Nat} {H : Hp} (hx : Rws H x rs) (hor : OkRows n rs) (h : MvS H y ms) (ho : ∀ m ∈ ms, OkMv n m) (hl : ms.length ≤ 300) : SpV sp_need_moves [x, y] H .non := fun H1 e Q q _ => ⟨x, y, rs, ms, n, rfl, hx.ex e, hor, h.ex e, ho, hl, q⟩
def sp__law_led : Sp := fun vs H Q _ => ∃ (x y : V) (rs : List (List Int)) (p : Addr) (zs : List V) (ms : List Move), vs = [x, y] ∧ LRw H x rs ∧ rs.Nodup ∧ rs.length ≤ 60 ∧ y = .ref p ∧ H p = some (.lst zs) ∧ MvAll H zs ms ∧ ∀ v H2, Ex H H2 → LedAt H2 v (led rs ms) → Q v H2
theorem ok__law_led (T : All K mg a d tk) : FnOk P w K mg base CX0 2 (a 31) (d 31) ["rows", "steps"] sp__law_led := by
  refine T.F__law_led.fn.ok sc__law_led (fun vs H Q E h => ?_) (fun cdv A outer s H vs Q E hr h => ?_)
  · obtain ⟨x, y, rs, p, zs, ms, rfl, _⟩ := h
    rfl
  · obtain ⟨x, y, rs, p, zs, ms, rfl, hx, nR, hl, rfl, hp, hm, k⟩ := h
    have nd := sc__law_led.nd
    refine ⟨_, (pss_cons (ps_for PassesOwn.never rfl (pi_list (pv 1)) (pg_name (i := 2) nd rfl (Or.inl rfl))
 (pss_one (ps_if (pt_cmp (pc_notN (pv 0)))
 (pss_one (ps_set (i := 0) nd rfl (Or.inl rfl) (pe_call (ok__law_done T) (hr.mono (by decide)) rfl T.F__law_done.m T.F__law_done.kp T.F__law_done.b .nil pass0 (pa_cons (pv 0) (pa_cons (pv 2) pa_nil)))))
 pss_nil)))
 (pss_one (ps_ret (pv 0)))), ?_⟩
    let Pv : Nat → L2.St → Hp → Prop := fun i σ' H' => Ex H H' ∧ ∃ (v : V) (v2 : Option V), σ' = [some v, some (.ref p), v2] ∧ LedAt H' v (led rs (ms.take i))
    refine q_forL (a := p) (xs := zs) (ev_var rfl) (sq_of hp) Pv (fun H1 e1 => ⟨e1, x, none, rfl, hx.ex e1⟩) (fun i σ' H' _ h => sq_of (h.1 _ _ hp)) ?_ ?_
    · rintro i m σ' H' hi ⟨e1, v, v2, rfl, hv⟩
      obtain ⟨mv, hmv, hM⟩ := Paired.at_l hm i m hi
      have et : ms.take (i + 1) = ms.take i ++ [mv] := take_next hmv
      have nx : led rs (ms.take (i + 1)) = (led rs (ms.take i)).bind fun l => done l mv.1 mv.2 := by rw [et, led_snoc]
      show tIfS _ _ _ _ _ _
      cases ho : led rs (ms.take i) with
      | none =>
        rw [ho] at hv nx
        cases (show v = .non from hv)
        refine s_when (b := false) (et_is (et_B (ev_notN (x := .non) (ev_var rfl))) rfl) (fun h => nomatch h) fun _ H2 e2 => ⟨e1.trans e2, .non, _, rfl, ?_⟩
        rw [nx]
        exact rfl
      | some l =>
        rw [ho] at hv nx
        have hv : LRw H' v l := hv
        obtain ⟨b, ys, rfl, hb, hys⟩ := id hv
        have pl := led_perm nR _ _ ho
        refine s_when (b := true) (et_is (et_B (ev_notN (x := .ref b) (ev_var rfl))) rfl) (fun _ H2 e2 => ?_) fun h => nomatch h
        show tAsg _ _ _ _ _
        refine ⟨_, rfl, m, rfl, .ref b, m, l, mv.1, mv.2, rfl, hv.ex e2, hM.ex (e1.trans e2), by rw [pl.length_eq]; exact hl, pl.nodup_iff.mpr nR, ?_⟩
        have nx : led rs (ms.take (i + 1)) = done l mv.1 mv.2 := nx
        cases hd : done l mv.1 mv.2 with
        | none => exact fun H3 e3 => ⟨e1.trans (e2.trans e3), .non, some m, rfl, by rw [nx, hd]; exact rfl⟩
        | some l' => exact fun q H3 nq e3 h3 => ⟨e1.trans (e2.trans e3), .ref q, some m, rfl, by rw [nx, hd]; exact h3⟩
    · rintro σ' H' ⟨e1, v, v2, rfl, hv⟩
      rw [Paired.length hm, List.take_length] at hv
      exact s_ret (ev_var rfl) fun H2 e2 => k v H2 (e1.trans e2) (hv.ex e2)
end
end Mv
/-! dict([(row, at) for at, row in enumerate(rows)]); _law_longest. -/
namespace Mv
open PySem PySem.Spec PyProof.Rows L2 Evl
section
variable {P : Program} {w : World} {K : PySem.W.Frag} {mg : Str → Option Value} {base : Heap} {a : Nat → Addr} {d : Nat → FuncData} {tk : Nat → Tok}
theorem ef_dictEnum {σ : L2.St} {H : Hp} {tl : TE} {f : Addr} {ys : List V} {rs : List (List Int)} {j1 j2 : Nat} {vs : List Nat} (h : Ev tl σ H (.ref f)) (hf : H f = some (.lst ys)) (hp : Paired (IsRow H) ys rs) (nR : rs.Nodup) (hl : rs.length ≤ 60)
    (hw : ∀ x y, wipe (((wipe σ vs).set j1 (some x)).set j2 (some y)) vs = wipe σ vs) (hv1 : ∀ x y : V, (((wipe σ vs).set j1 (some x)).set j2 (some y))[j1]? = some (some x)) (hv2 : ∀ x y : V, (((wipe σ vs).set j1 (some x)).set j2 (some y))[j2]? = some (some y)) :
    EvF (tCB rDictPT (tCons (tLc (iEnum K (tCons tl tNil)) (gTup K 2 (gCons (gName j1) (gCons (gName j2) gNil))) tYes (tTup (tCons (tVar j2) (tCons (tVar j1) tNil))) vs) tNil)) σ H fun p H2 => H2 p = some (.dT (dtab rs (plc rs))) := fun H0 e Q k => by
  have hlen : ys.length = rs.length := Paired.length hp
  refine h H0 e _ fun H1 e1 => ⟨f, ys, rfl, sq_of (e1 _ _ (e _ _ hf)), fun Dl hD => ?_⟩
  have hf1 := e1 _ _ (e _ _ hf)
  have hp1 : Paired (IsRow H1) ys rs := Paired.imp (fun _ _ h => h.ex (e.trans e1)) hp
  refine lc_it (walk_enum (K := K) (a := f) (xs := ys)) (fun i H' => Ex H1 H' ∧ ∃ ps : List (Addr × List Key × Addr × V), H' Dl = some (.lst (ps.map fun p => V.ref p.1)) ∧ ps.length = i ∧
      (∀ p ∈ ps, H' p.1 = some (.tup [.ref p.2.2.1, p.2.2.2]) ∧ H' p.2.2.1 = some (.tup (p.2.1.map kV))) ∧ ps.map (fun p => (p.2.1, p.2.2.2)) = (rs.take i).map fun r => (ky r, plc rs r))
    ⟨Ex.new hD, [], upd_same, rfl, fun p h => (by cases h), rfl⟩ (fun i H' _ p => sq_of (p.1 _ _ hf1)) ?_ ?_
  · rintro i y H' H'' hi ⟨e', ps, h1, h2, h3, h4⟩ ⟨T2, x1, x2, rfl, hT, rfl, ex1, ex2⟩
    cases ex1
    have eT : Ex H' (upd H' T2 (.tup [.int (i : Nat), x2])) := Ex.new hT
    obtain ⟨r, hr, hrow⟩ := Paired.at_l hp1 i x2 ex2
    have hi60 : i < 60 := by
      have := (List.getElem?_eq_some_iff.mp hr).1
      omega
    refine ⟨T2, _, rfl, st_of upd_same, rfl, _, _, rfl, _, _, rfl, rfl, hw _ _, yes_go ?_⟩
    refine ⟨x2, hv2 _ _, .int (i : Nat), hv1 _ _, sz_of (show 2 ≤ 100000 by decide), fun t ht => ?_⟩
    have et : Ex (upd H' T2 (.tup [.int (i : Nat), x2])) (upd (upd H' T2 (.tup [.int (i : Nat), x2])) t (.tup [x2, .int (i : Nat)])) := Ex.new ht
    have eTt := eT.trans et
    obtain ⟨b, eb, hb⟩ := (hrow.ex (e'.trans eTt)).key
    have ntD : t ≠ Dl := fun z => by rw [z, eT _ _ h1] at ht; cases ht
    have nD : ∀ {q : Addr} {zs : List V}, (upd (upd H' T2 (.tup [.int (i : Nat), x2])) t (.tup [x2, .int (i : Nat)])) q = some (.tup zs) → q ≠ Dl := fun hq z => by
      rw [z, eTt _ _ h1] at hq
      cases hq
    refine ⟨_, eTt _ _ h1, Nat.lt_of_le_of_lt (by rw [List.length_map, h2]; omega) (show 1000 < sizeLine by decide), Ex.mut (e'.trans eTt) hD, ps ++ [(t, ky r, b, .int (i : Nat))], ?_, by rw [List.length_append, h2] <;> rfl, fun p hp => ?_, ?_⟩
    · rw [upd_same, List.map_append] <;> rfl
    · rcases List.mem_append.mp hp with hp | hp
      · obtain ⟨g1, g2⟩ := h3 p hp
        exact ⟨by rw [upd_ne (nD (eTt _ _ g1))]; exact eTt _ _ g1, by rw [upd_ne (nD (eTt _ _ g2))]; exact eTt _ _ g2⟩
      · rw [List.mem_singleton.mp hp]
        refine ⟨?_, by rw [upd_ne (nD hb)]; exact hb⟩
        rw [upd_ne ntD, upd_same, eb]
    · rw [take_next hr, List.map_append, List.map_append, h4]
      show _ ++ [(ky r, V.int (i : Nat))] = _ ++ [(ky r, plc rs r)]
      unfold plc
      rw [idxOf_at nR hr]
  · rintro H2 ⟨e2, ps, h1, h2, h3, h4⟩
    rw [hlen, List.take_length] at h4
    refine ⟨Dl, ps, rfl, h1, fun p hp => (h3 p hp).1, fun p hp => (h3 p hp).2, fun dd hdd => ?_⟩
    have ef : (ps.foldl (fun acc p => putK acc p.2.1 p.2.2.2) []) = dtab rs (plc rs) := by
      have z := dtab_fold (f := plc rs) rs [] (by rw [List.nil_append]; exact nR)
      rw [← h4, List.foldl_map] at z
      exact z
    rw [ef]
    exact k dd _ (fresh_back (e1.trans e2) hdd) ((e1.trans e2).trans (Ex.new hdd)) upd_same
/-! _law_longest -/
def sp__law_longest : Sp := fun vs H Q _ => ∃ (x y : V) (R qs : List (List Int)) (n : Nat), vs = [x, y] ∧ LRw H x R ∧ LRw H y qs ∧ OkRows n R ∧ qs.Perm R ∧ ∀ lev ahd M H2, LevOn [R, qs] R lev ahd → IsCount R lev M → Ex H H2 → Q (.int (M : Nat)) H2
theorem ok__law_longest (T : All K mg a d tk) : FnOk P w K mg base CX0 1 (a 29) (d 29) ["first", "second"] sp__law_longest := by
  refine T.F__law_longest.fn.ok sc__law_longest (fun vs H Q E h => ?_) (fun cdv A outer s H vs Q E hr h => ?_)
  · obtain ⟨x, y, R, qs, n, rfl, _⟩ := h
    rfl
  · obtain ⟨x, y, R, qs, n, rfl, hx, hy, oR, pm, k⟩ := h
    have nd := sc__law_longest.nd
    have hu := hu_of hr
    have hu0 := hr.units0
    have hu64 := hr.units
    have oq := oR.perm pm
    have hR60 := oR.few
    obtain ⟨a0, xs0, rfl, hs0, hp0⟩ := id hx
    obtain ⟨b0, ys0, rfl, ht0, hq0⟩ := id hy
    have hlen0 : xs0.length = R.length := Paired.length hp0
    let Ls : List (List (List Int)) := [R, qs]
    have hRm : R ∈ Ls := List.mem_cons_self
    refine ⟨_, (pss_cons (ps_asg (pe_tup (pa_cons (pe_lst pa_nil) (pa_cons (pe_callTy (cr_dictPT rfl hu64) rfl T.n_dict PyProof.Rows.boot_dict (pa_cons (pe_lc (own := [("at", 4), ("row", 5)]) (g := (gTup K 2 (gCons (gName 4) (gCons (gName 5) gNil)))) rfl nd (pi_enum rfl T.n_enumerate (pa_cons (pv 1) pa_nil)) (blkOk_by (N := N__law_longest) (sc := defScope s__law_longest) (by decide +kernel)) (fun _ _ _ _ _ => (pg_tup rfl (pgs_cons (pg_name (i := 4) nd rfl (Or.inl rfl)) (pgs_cons (pg_name (i := 5) nd rfl (Or.inl rfl)) pgs_nil)))) (fun _ _ _ _ _ => pts_nil) (fun _ _ _ _ _ => (pe_tup (pa_cons (pv 5) (pa_cons (pv 4) pa_nil))))) pa_nil)) pa_nil))) (pg_tup rfl (pgs_cons (pg_name (i := 2) nd rfl (Or.inr rfl)) (pgs_cons (pg_name (i := 3) nd rfl (Or.inr rfl)) pgs_nil))) (hw := by rfl))
 (pss_cons (ps_for PassesOwn.never rfl (pi_enum rfl T.n_enumerate (pa_cons (pv 0) pa_nil)) (pg_tup rfl (pgs_cons (pg_name (i := 4) nd rfl (Or.inl rfl)) (pgs_cons (pg_name (i := 5) nd rfl (Or.inr rfl)) pgs_nil)))
 (pss_cons (ps_setLc (i := 6) (own := [("k", 7)]) (g := (gName 7)) rfl nd rfl rfl (sw_true rfl rfl rfl (by decide +kernel)) (pi_range1 rfl T.n_range (pa_cons (pv 4) pa_nil)) (blkOk_by (N := N__law_longest) (sc := defScope s__law_longest) (by decide +kernel)) (fun _ _ _ _ _ => (pg_name (i := 7) nd rfl (Or.inl rfl))) (fun _ _ _ _ _ => (pts_one (pt_cmpR op_lt (pe_dget hu (pv 3) (pe_ix (show IxR _ (rIxL K) from ix_list) (pv 0) (pv 7) (fun _ _ => rfl)) (fun _ _ => rfl)) (pe_dget hu (pv 3) (pv 5) (fun _ _ => rfl)) (nomark _)))) (fun _ _ _ _ _ => (pe_ix (show IxR _ (rIxL K) from ix_list) (pv 2) (pv 7) (fun _ _ => rfl))))
 (pss_one (ps_expr (pe_bm PySem.F.plainAttrs_list PySem.F.slot_list_append PySem.F.type_list_append mt_append (pv 2) (pa_cons (pe_op op_add pe_int (pe_callB (cr_max rfl) (by rfl) T.n_max PyProof.Rows.boot_max (pa_cons (pe_op op_cat (pv 6) (pe_lst (pa_cons pe_int pa_nil))) pa_nil))) pa_nil))))))
 (pss_one (ps_ret (pe_callB (cr_max rfl) (by rfl) T.n_max PyProof.Rows.boot_max (pa_cons (pe_op op_cat (pv 2) (pe_lst (pa_cons pe_int pa_nil))) pa_nil)))))), ?_⟩
    refine ⟨Nat.zero_le _, fun kn hkn => ?_⟩
    have eK : Ex H (upd H kn (.lst [])) := Ex.new hkn
    refine ef_dictEnum (K := K) (σ := [some (V.ref a0), some (.ref b0), none, none, none, none, none, none]) (tl := tVar 1) (j1 := 4) (j2 := 5) (vs := [4, 5]) (ev_var rfl) (eK _ _ ht0) (Paired.imp (fun _ _ h => h.ex eK) hq0) oq.nd oq.few (fun _ _ => rfl) (fun _ _ => rfl) (fun _ _ => rfl) _ (Ex.refl _) _ fun pd H2 npd e2 hPos => ⟨sz_of (show 2 ≤ 100000 by decide), fun t ht => ?_⟩
    have eT : Ex H2 (upd H2 t (.tup [.ref kn, .ref pd])) := Ex.new ht
    refine ⟨t, _, rfl, st_of upd_same, rfl, _, _, rfl, _, _, rfl, rfl, ?_⟩
    generalize hH3 : upd H2 t (HO.tup [V.ref kn, V.ref pd]) = H3
    have e3 : Ex H H3 := by rw [← hH3]; exact (eK.trans e2).trans eT
    have hk3 : H3 kn = some (.lst []) := by rw [← hH3]; exact (e2.trans eT) _ _ upd_same
    have hP3 : H3 pd = some (.dT (dtab qs (plc qs))) := by rw [← hH3]; exact eT _ _ hPos
    have irr : ∀ r, Ah Ls r r = false := fun r => by
      cases q : Ah Ls r r with
      | false => rfl
      | true => exact absurd (Ah.lt q hRm) (Nat.lt_irrefl _)
    have ix : ∀ {j : Nat} {r : List Int}, R[j]? = some r → R.idxOf r = j := fun h => idxOf_at oR.nd h
    refine ⟨_, rfl, a0, xs0, rfl, sq_of (e3 _ _ hs0), ?_⟩
    let Ov : Nat → L2.St → Hp → Prop := fun j σ' H' => Ex H H' ∧ H' pd = some (.dT (dtab qs (plc qs))) ∧ ∃ (lev : List Int → Nat) (ahd : List Int → Option (List Int)) (v4 v5 v6 : Option V), σ' = [some (.ref a0), some (.ref b0), some (.ref kn), some (.ref pd), v4, v5, v6, none] ∧
      H' kn = some (.lst (((R.take j).map fun r => lev r + 1).map fun n : Nat => V.int (n : Int))) ∧ LevOn Ls (R.take j) lev ahd
    refine for_it (walk_enum (K := K) (a := a0) (xs := xs0)) Ov ⟨e3, hP3, fun _ => 0, fun _ => none, none, none, none, rfl, hk3, ⟨fun r hr => by simp at hr, fun r hr => by simp at hr⟩⟩ (fun j σ' H' _ ⟨e', _⟩ => sq_of (e' _ _ hs0)) ?_ ?_
    · rintro j y σ' H' H'' hj ⟨e', hPo, lev, ahd, v4, v5, v6, rfl, h1, h2⟩ ⟨T0, x1, x2, rfl, hT0, rfl, ex1, ex2⟩
      cases ex1
      have eT0 : Ex H' (upd H' T0 (.tup [.int (j : Nat), x2])) := Ex.new hT0
      obtain ⟨r, hr, hrow⟩ := Paired.at_l hp0 j x2 ex2
      have hjR : j < R.length := (List.getElem?_eq_some_iff.mp hr).1
      have ej := ix hr
      have memT : ∀ q ∈ R.take j, R.idxOf q < j ∧ q ∈ R := fun q hq => by
        obtain ⟨i, hi, ei⟩ := List.mem_iff_getElem.mp hq
        have hi2 : i < j := by rw [List.length_take] at hi; omega
        rw [List.getElem_take] at ei
        have g1 : R[i]? = some q := by rw [← ei]; exact List.getElem?_eq_getElem _
        exact ⟨by rw [ix g1]; exact hi2, List.mem_of_getElem? g1⟩
      have nr : r ∉ R.take j := fun h => by have := (memT r h).1; omega
      have eTk : R.take (j + 1) = R.take j ++ [r] := take_next hr
      have back : ∀ q ∈ R.take j, Ah Ls r q = false := fun q hq => by
        cases z : Ah Ls r q with
        | false => rfl
        | true =>
          have h1 := Ah.lt z hRm
          have h2 := (memT q hq).1
          omega
      refine ⟨T0, _, rfl, st_of upd_same, rfl, _, _, rfl, _, _, rfl, rfl, ?_⟩
      generalize hH4 : upd H' T0 (HO.tup [V.int (j : Nat), x2]) = H4
      have e4 : Ex H' H4 := by rw [← hH4]; exact eT0
      have eH4 := e'.trans e4
      have ah : ∀ q ∈ R.take j, Ah Ls q r = decide ((qs.idxOf q : Int) < (qs.idxOf r : Int)) := fun q hq => by
        have z1 : decide (R.idxOf q < R.idxOf r) = true := decide_eq_true (by rw [ej]; exact (memT q hq).1)
        show (decide (R.idxOf q < R.idxOf r) && (decide (qs.idxOf q < qs.idxOf r) && true)) = _
        rw [z1, Bool.and_true, Bool.true_and]
        exact decide_eq_decide.mpr (by omega)
      let f : Nat → Bool := fun i => Ah Ls (R.getD i []) r
      let v : Nat → V := fun i => .int ((lev (R.getD i []) + 1 : Nat) : Int)
      have rget : ∀ i, i < j → ∃ q, R[i]? = some q ∧ R.getD i [] = q ∧ (R.take j)[i]? = some q := fun i hi => by
        have h := List.getElem?_eq_getElem (l := R) (i := i) (by omega)
        exact ⟨_, h, by rw [List.getD_eq_getElem?_getD, h] <;> rfl, by rw [List.getElem?_take_of_lt hi]; exact h⟩
      have rq : r ∈ qs := pm.mem_iff.mpr (List.mem_of_getElem? hr)
      have hPo4 : H4 pd = some (.dT (dtab qs (plc qs))) := e4 _ _ hPo
      have comp := el_lcR1 (σ := [some (.ref a0), some (.ref b0), some (.ref kn), some (.ref pd), some (.int (j : Nat)), some x2, v6, none]) (H := H4) (ta := tCons (tVar 4) tNil) (j := 7) (vs := [7]) (n := (j : Int)) (t := tTest (tOp (rI0 fun i j => .bl (decide (i < j))) (tDGet (tVar 3) (tOp (rIxL K) (tVar 0) (tVar 7))) (tDGet (tVar 3) (tVar 5))))
        (te := tOp (rIxL K) (tVar 2) (tVar 7)) f v (ea_cons (ev_var rfl) ea_nil) ⟨by omega, by omega⟩ (fun _ => rfl)
        (fun i H5 e5 hi => by
          obtain ⟨q, g1, g2, g3⟩ := rget i (by omega)
          obtain ⟨xq, g4, g5⟩ := Paired.at_r hp0 i q g1
          show EvT _ _ _ (Ah Ls (R.getD i []) r)
          rw [g2, ah q (List.mem_of_getElem? g3)]
          exact et_I0 (ev_dget (ev_var rfl) (ev_ixL (i := (i : Int)) (ev_var rfl) (ev_var rfl) (sq_of ((eH4.trans e5) _ _ hs0)) (atI_nat g4)) (e5 _ _ hPo4) (g5.ex (eH4.trans e5)) (pm.mem_iff.mpr (List.mem_of_getElem? g1))) (ev_dget (ev_var rfl) (ev_var rfl) (e5 _ _ hPo4) (hrow.ex (eH4.trans e5)) rq))
        (fun i H5 e5 hi _ => by
          obtain ⟨q, g1, g2, g3⟩ := rget i (by omega)
          show Ev _ _ _ (V.int ((lev (R.getD i []) + 1 : Nat) : Int))
          rw [g2]
          refine ev_ixL (i := (i : Int)) (ev_var rfl) (ev_var rfl) (sq_of ((e4.trans e5) _ _ h1)) (atI_nat ?_)
          rw [List.getElem?_map, List.getElem?_map, g3] <;> rfl)
      rw [Int.toNat_natCast] at comp
      have eg : given j f v = (((R.take j).filter fun q => Ah Ls q r).map fun q => lev q + 1).map fun n : Nat => V.int (n : Int) := by
        have gen : ∀ m, m ≤ j → given m f v = (((R.take m).filter fun q => Ah Ls q r).map fun q => lev q + 1).map fun n : Nat => V.int (n : Int) := by
          intro m
          induction m with
          | zero => exact fun _ => rfl
          | succ m ih =>
            intro hm
            obtain ⟨q, g1, g2, _⟩ := rget m (by omega)
            have ihm := ih (by omega)
            cases hf : Ah Ls q r with
            | true =>
              rw [given_yes (f := f) (by show Ah Ls (R.getD m []) r = true; rw [g2]; exact hf), ihm, take_next g1, List.filter_append, List.map_append, List.map_append]
              show _ ++ [V.int ((lev (R.getD m []) + 1 : Nat) : Int)] = _
              rw [g2]
              simp [hf]
            | false =>
              rw [given_no (f := f) (by show Ah Ls (R.getD m []) r = false; rw [g2]; exact hf), ihm, take_next g1, List.filter_append, List.map_append, List.map_append]
              simp [hf]
        exact gen j (Nat.le_refl _)
      rw [eg] at comp
      obtain ⟨c, hc1, hc2⟩ := max_zero (((R.take j).filter fun q => Ah Ls q r).map fun q => lev q + 1)
      refine q_asgL (D := { nx := Ov (j + 1), rt := Q, ct := Ov (j + 1), bk := _ }) comp fun pa H5 hpa e5 h5 => ?_
      have mx := ev_max0 (K := K) (σ := [some (.ref a0), some (.ref b0), some (.ref kn), some (.ref pd), some (.int (j : Nat)), some x2, some (.ref pa), none]) (ta := tVar 6) (ev_var rfl) h5 (by
        rw [List.length_map]
        have := List.length_filter_le (fun q => Ah Ls q r) (R.take j)
        rw [List.length_take] at this
        omega) hc1 hc2
      refine s_app ((e4.trans e5) _ _ h1) (ev_var rfl) (ev_I0 ev_c mx) (by rw [List.length_map, List.length_map, List.length_take]; omega) fun H6 e6 => ?_
      have e46 := (e4.trans e5).trans e6
      have inn : ∃ o, Inner Ls (R.take j) (R.take j) lev r c o := by
        rcases hc1 with z | z
        · exact ⟨none, fun q hq _ ha => by
            have := hc2 (lev q + 1) (List.mem_map_of_mem (f := fun q => lev q + 1) (List.mem_filter.mpr ⟨hq, ha⟩))
            omega, .inl ⟨z, rfl⟩⟩
        · obtain ⟨q, hq, eq⟩ := List.mem_map.mp z
          obtain ⟨hq1, hq2⟩ := List.mem_filter.mp hq
          exact ⟨some q, fun q2 hq2 _ ha => by
            have := hc2 (lev q2 + 1) (List.mem_map_of_mem (f := fun q => lev q + 1) (List.mem_filter.mpr ⟨hq2, ha⟩))
            omega, .inr ⟨q, hq1, hq2, eq.symm, rfl⟩⟩
      obtain ⟨o, inn⟩ := inn
      have L := h2.snoc nr (irr r) back inn
      refine ⟨Ex.mut (e'.trans e46) hkn, ?_, nset lev r c, nset ahd r o, _, _, _, rfl, ?_, by rw [eTk]; exact L⟩
      · have ne1 : pd ≠ kn := fun z => by rw [z, h1] at hPo; cases hPo
        rw [upd_ne ne1]
        exact e46 _ _ hPo
      · rw [upd_same, eTk, List.map_append, List.map_append]
        congr 2
        congr 1
        · rw [List.map_map, List.map_map]
          refine List.map_congr_left fun q hq => ?_
          show V.int ((lev q + 1 : Nat) : Int) = V.int ((nset lev r c q + 1 : Nat) : Int)
          rw [nset_ne (fun (e : q = r) => nr (e ▸ hq))]
        · show [V.int (1 + (c : Int))] = [V.int ((nset lev r c r + 1 : Nat) : Int)]
          rw [nset_same]
          congr 2
          omega
    · rintro σ' H' ⟨e', hPo, lev, ahd, v4, v5, v6, rfl, h1, h2⟩
      rw [hlen0, List.take_length] at h1 h2
      obtain ⟨M, hM⟩ := exists_count R lev
      refine s_ret (ev_max0 (K := K) (m := M) (ev_var rfl) h1 (by rw [List.length_map]; omega) ?_ fun x hx => ?_) fun H2' e2' => k lev ahd M H2' h2 hM (e'.trans e2')
      · rcases Classical.em (R = []) with z | z
        · exact .inl (hM.nil z)
        · obtain ⟨r, hr, e⟩ := hM.hit z
          exact .inr (by rw [← e]; exact List.mem_map_of_mem (f := fun r => lev r + 1) hr)
      · obtain ⟨r, hr, e⟩ := List.mem_map.mp hx
        have := hM.lt r hr
        omega
end
end Mv
/-! check_moves. -/
namespace Mv
open PySem PySem.Spec PyProof.Rows L2 Evl
theorem led_from (o : Option (List (List Int))) (ms : List Move) (l : List (List Int)) (h : ms.foldl (fun o m => o.bind fun l => done l m.1 m.2) o = some l) : ∃ l', o = some l' := by
  cases o with
  | some l' => exact ⟨l', rfl⟩
  | none =>
    have : ∀ ms : List Move, ms.foldl (fun o m => o.bind fun l => done l m.1 m.2) (none : Option (List (List Int))) = none := by
      intro ms
      induction ms with
      | nil => rfl
      | cons m ms ih => exact ih
    rw [this] at h
    cases h
theorem led_take {rs l : List (List Int)} {ms : List Move} (h : led rs ms = some l) (i : Nat) : ∃ l', led rs (ms.take i) = some l' := by
  refine led_from _ (ms.drop i) l ?_
  unfold led
  rw [← List.foldl_append, List.take_append_drop]
  exact h
section
variable {P : Program} {w : World} {K : PySem.W.Frag} {mg : Str → Option Value} {base : Heap} {a : Nat → Addr} {d : Nat → FuncData} {tk : Nat → Tok}
theorem el_listS {σ : L2.St} {H : Hp} {ta : TE} {p : Addr} {xs : List V} (ha : Ev ta σ H (.ref p)) (h : Seq H p xs) : EvL (tCB (rListS K) (tCons ta tNil)) σ H xs := fun H1 e Q q =>
  ha H1 e _ fun H2 e2 => ⟨p, xs, rfl, (h.ex (e.trans e2)).sq, fun l hl => q l _ (fresh_back e2 hl) (e2.trans (Ex.new hl)) upd_same⟩
/-- two lists of the same rows, compared -/
theorem eq_rows {H : Hp} {p q : Addr} {xs ys : List V} {rs : List (List Int)} {Q : VK} (h1 : H p = some (.lst xs)) (h2 : Paired (IsRow H) xs rs) (h3 : H q = some (.lst ys)) (h4 : Paired (IsRow H) ys rs) (k : Q (.bl true) H) : rEqD K (.ref p) (.ref q) H Q := by
  refine ⟨.list (rs.map rd), .list (rs.map rd), .lst (sq_of h1) (dp_rows h2), .lst (sq_of h3) (dp_rows h4), shaped_rows _, shaped_rows _, ?_⟩
  rw [SeqAt.eqv_refl _ (SeqAt.canLay_of_shaped (shaped_rows rs))]
  exact k
def sp_check_moves : Sp := fun vs H Q _ => ∃ (x y z : V) (rs qs : List (List Int)) (ms : List Move) (n : Nat), vs = [x, y, z] ∧ Rws H x rs ∧ Rws H y qs ∧ OkRows n rs ∧ qs.Perm rs ∧ MvS H z ms ∧ (∀ m ∈ ms, OkMv n m) ∧ ms.length ≤ 300 ∧
  (∀ lev ahd M, LevOn [rs, qs] rs lev ahd → IsCount rs lev M → (ms.length : Int) = (rs.length : Int) - (M : Int)) ∧ led rs ms = some qs ∧ RetV (.bl true) H Q
theorem ok_check_moves (T : All K mg a d tk) : FnOk P w K mg base CX0 7 (a 22) (d 22) ["one", "other", "moves"] sp_check_moves := by
  refine T.F_check_moves.fn.ok sc_check_moves (fun vs H Q E h => ?_) (fun cdv A outer s H vs Q E hr h => ?_)
  · obtain ⟨x, y, z, rs, qs, ms, n, rfl, _⟩ := h
    rfl
  · obtain ⟨x, y, z, rs, qs, ms, n, rfl, hx, hy, ho, pm, hz, om, l300, hM, hL, k⟩ := h
    have nd := sc_check_moves.nd
    have hu0 := hr.units0
    have hu64 := hr.units
    refine ⟨_, (pss_cons (ps_expr (pe_call (ok_need_pair T) (hr.mono (by decide)) rfl T.F_need_pair.m T.F_need_pair.kp T.F_need_pair.b .nil pass0 (pa_cons (pv 0) (pa_cons (pv 1) pa_nil))))
 (pss_cons (ps_if (PW.pt (pw_or (pt_not (pt_val (pe_call (ok_are_moves T) (hr.mono (by decide)) rfl T.F_are_moves.m T.F_are_moves.kp T.F_are_moves.b .nil pass0 (pa_cons (pv 2) pa_nil)))) (pw_or1 (pt_cmpR op_ne (pe_callB call_len_seq (by rfl) T.n_len PySem.boot_len (pa_cons (pv 2) pa_nil)) (pe_op op_sub (pe_callB call_len_seq (by rfl) T.n_len PySem.boot_len (pa_cons (pv 0) pa_nil)) (pe_callB call_len_seq (by rfl) T.n_len PySem.boot_len (pa_cons (pe_call (ok_longest_of T) (hr.mono (by decide)) rfl T.F_longest_of.m T.F_longest_of.kp T.F_longest_of.b .nil pass0 (pa_cons (pv 0) (pa_cons (pv 1) pa_nil))) pa_nil))) (nomark _)))))
 (pss_one (ps_ret pe_bl))
 pss_nil)
 (pss_cons (ps_set (i := 3) nd rfl (Or.inl rfl) (pe_callTy call_list_of rfl T.n_list PyProof.Rows.boot_list (pa_cons (pv 0) pa_nil)))
 (pss_cons (ps_for PassesOwn.never rfl (pi_seq (pv 2)) (pg_name (i := 4) nd rfl (Or.inl rfl))
 (pss_cons (ps_set (i := 3) nd rfl (Or.inl rfl) (pe_call (ok_moved T) (hr.mono (by decide)) rfl T.F_moved.m T.F_moved.kp T.F_moved.b .nil pass0 (pa_cons (pv 3) (pa_cons (pv 4) pa_nil))))
 (pss_one (ps_if (pt_cmp (pc_isN (pv 3)))
 (pss_one (ps_ret pe_bl))
 pss_nil))))
 (pss_one (ps_ret (pe_cmpR (op_eqD hu64) (pv 3) (pe_callTy call_list_of rfl T.n_list PyProof.Rows.boot_list (pa_cons (pv 1) pa_nil)) (nomark _)))))))), ?_⟩
    refine q_drop (ev_call (ea_cons (ev_var rfl) (ea_cons (ev_var rfl) ea_nil)) (spv_need_pair hx hy ho pm)) fun H1 e1 => ?_
    obtain ⟨a0, xs, rfl, hs, hp⟩ := id hx
    obtain ⟨b0, ys, rfl, ht, hq⟩ := id hy
    obtain ⟨c0, zs, rfl, hc, hmv⟩ := id hz
    have c1 : Ev (tCB (rLenS K) (tCons (tVar 0) tNil)) [some (V.ref a0), some (.ref b0), some (.ref c0), none, none] H1 (.int (xs.length : Int)) := ev_lenS (ev_var rfl) (hs.ex e1)
    have c2 := ep_lenLong (K := K) (σ := [some (V.ref a0), some (.ref b0), some (.ref c0), none, none]) (H := H1) (ta := tVar 0) (tb := tVar 1) (E := fun _ _ _ => False) (ev_var rfl) (ev_var rfl) (hx.ex e1) (hy.ex e1) ho pm
    have c3 : Ev (tCB (rLenS K) (tCons (tVar 2) tNil)) [some (V.ref a0), some (.ref b0), some (.ref c0), none, none] H1 (.int (zs.length : Int)) := ev_lenS (ev_var rfl) (hc.ex e1)
    have t1 : EvT (tTest (tOp rNe (tCB (rLenS K) (tCons (tVar 2) tNil)) (tOp (rI0 fun i j => .int (i - j)) (tCB (rLenS K) (tCons (tVar 0) tNil)) (tCB (rLenS K) (tCons (tCall sp_longest_of [] (fun _ _ _ => False) (tCons (tVar 0) (tCons (tVar 1) tNil))) tNil))))) [some (V.ref a0), some (.ref b0), some (.ref c0), none, none] H1 false := fun H2 e Q q =>
      c3 H2 e _ fun H3 e3 => (ep_I0 (f := fun i j => .int (i - j)) c1 c2) H3 (e.trans e3) _ fun v H4 e4 ⟨j, ev, lev, ahd, M, ej, h1, h2⟩ => by
        subst ev
        subst ej
        refine ⟨rfl, _, rfl, ?_⟩
        have z := hM lev ahd M h1 h2
        have : (!decide (V.int (zs.length : Int) = V.int ((xs.length : Int) - (M : Nat)))) = false := by
          rw [decide_eq_true (by rw [Paired.length hmv, Paired.length hp, z])] <;> rfl
        rw [this]
        exact q H4 (e3.trans e4)
    refine q_when (b := false) (et_is (et_or (et_not (et_B (ev_call (ea_cons (ev_var rfl) ea_nil) (spv_are_moves (hz.ex e1) om l300)))) fun _ => t1) rfl) (fun h => nomatch h) fun _ H2 e2 => ?_
    refine q_asgL (el_listS (ev_var rfl) (hs.ex (e1.trans e2))) fun L H3 nL e3 hL3 => ?_
    have e13 := e1.trans (e2.trans e3)
    have nR := ho.nd
    let Pv : Nat → L2.St → Hp → Prop := fun i σ' H' => Ex H H' ∧ ∃ (b : Addr) (v4 : Option V) (l : List (List Int)), σ' = [some (.ref a0), some (.ref b0), some (.ref c0), some (.ref b), v4] ∧ led rs (ms.take i) = some l ∧ LRw H' (.ref b) l
    refine q_forS (a := c0) (xs := zs) (ev_var rfl) (hc.ex e13) Pv (fun H4 e4 => ⟨e13.trans e4, L, none, rs, rfl, rfl, L, xs, rfl, e4 _ _ hL3, Paired.imp (fun _ _ h => h.ex (e13.trans e4)) hp⟩) (fun i σ' H' _ h => ?_) ?_ ?_
    · exact hc.elim (fun z => (h.1 _ _ z).trans (e13 _ _ z).symm) fun z => (h.1 _ _ z).trans (e13 _ _ z).symm
    · rintro i m σ' H' hi ⟨e', b, v4, l, rfl, hl, hb⟩
      obtain ⟨mv, hmvi, hmm⟩ := Paired.at_l hmv i m hi
      have et : ms.take (i + 1) = ms.take i ++ [mv] := take_next hmvi
      have nx : led rs (ms.take (i + 1)) = done l mv.1 mv.2 := by rw [et, led_snoc, hl] <;> rfl
      obtain ⟨l', hl'⟩ := led_take hL (i + 1)
      have pl := led_perm nR _ _ hl
      have hd : done l mv.1 mv.2 = some l' := nx.symm.trans hl'
      refine ⟨_, rfl, m, rfl, .ref b, m, l, mv.1, mv.2, rfl, hb, hmm.ex e', by rw [pl.length_eq]; exact ho.few, ?_⟩
      rw [hd]
      intro b' H4 nb e4 hb'
      refine s_when (b := false) (et_is (et_B (ev_isN (x := .ref b') (ev_var rfl))) rfl) (fun h => nomatch h) fun _ H5 e5 => ?_
      exact ⟨e'.trans (e4.trans e5), b', some m, l', rfl, hl', hb'.ex e5⟩
    · rintro σ' H' ⟨e', b, v4, l, rfl, hl, hb⟩
      rw [Paired.length hmv, List.take_length, hL] at hl
      cases hl
      obtain ⟨b1, zs1, eb, hb1, hb2⟩ := hb
      cases eb
      refine ⟨_, rfl, ?_⟩
      refine (el_listS (K := K) (ta := tVar 1) (σ := [some (V.ref a0), some (.ref b0), some (.ref c0), some (.ref b), v4]) (ev_var rfl) (ht.ex e')) H' (Ex.refl _) _ fun q H5 nq e5 h5 => ?_
      exact eq_rows (e5 _ _ hb1) (Paired.imp (fun _ _ h => h.ex e5) hb2) h5 (Paired.imp (fun _ _ h => h.ex (e'.trans e5)) hq) (k H5 (e'.trans e5))
theorem sp3_check {x y z : V} {rs qs : List (List Int)} {ms : List Move} {n : Nat} {H : Hp} (hx : Rws H x rs) (hy : Rws H y qs) (ho : OkRows n rs) (pm : qs.Perm rs) (hz : MvS H z ms) (om : ∀ m ∈ ms, OkMv n m) (l300 : ms.length ≤ 300)
    (hM : ∀ lev ahd M, LevOn [rs, qs] rs lev ahd → IsCount rs lev M → (ms.length : Int) = (rs.length : Int) - (M : Int)) (hL : led rs ms = some qs) : SpV sp_check_moves [x, y, z] H (.bl true) := fun H1 e Q q _ => ⟨x, y, z, rs, qs, ms, n, rfl, hx.ex e, hy.ex e, ho, pm, hz.ex e, om, l300, hM, hL, q⟩
end
end Mv
/-! The second copies of the draws. -/
namespace Mv
open PySem PySem.Spec PyProof.Rows L2 Evl
section
variable {P : Program} {w : World} {K : PySem.W.Frag} {mg : Str → Option Value} {base : Heap} {a : Nat → Addr} {d : Nat → FuncData} {tk : Nat → Tok}
theorem ok__law_cell_two (T : All K mg a d tk) : FnOk P w K mg base CX0 1 (a 38) (d 38) ["script", "k"] (sp__law_cell K) := by
  refine T.F__law_cell_two.fn.ok sc__law_cell_two (fun vs H Q E h => ?_) (fun cdv A outer s H vs Q E hr h => ?_)
  · obtain ⟨p, ns, k, rfl, _⟩ := h
    rfl
  · obtain ⟨p, ns, k, rfl, hs, hk, kk⟩ := h
    have nd := sc__law_cell_two.nd
    refine ⟨_, (pss_cons (ps_if (pt_cmpR op_lt (pv 1) (pe_callB call_len_seq (by rfl) T.n_len PySem.boot_len (pa_cons (pv 0) pa_nil)) (nomark _))
 (pss_one (ps_ret (pe_ix ix_list (pv 0) (pv 1) (fun _ _ => rfl))))
 pss_nil)
 (pss_one (ps_ret (pe_op op_add (pe_op op_mul pe_int (pv 1)) pe_int)))), ?_⟩
    refine q_when (et_I0 (ev_var rfl) (ev_len (ev_var rfl) hs)) (fun hb H1 e1 => ?_) fun hb H1 e1 => ?_
    · have hb := of_decide_eq_true hb
      have hlt : k < (ns.map V.int).length := by omega
      obtain ⟨c, hc⟩ : ∃ c, (ns.map V.int)[k]? = some (V.int c) := by
        rw [List.length_map] at hlt
        exact ⟨ns[k], by rw [List.getElem?_map, List.getElem?_eq_getElem hlt] <;> rfl⟩
      exact s_ret (ev_ixL (i := (k : Int)) (ev_var rfl) (ev_var rfl) (ex_l e1 hs) (atI_nat hc)) fun H2 e2 => kk c H2 (e1.trans e2)
    · exact s_ret (ev_I0 (ev_I ev_c (ev_var rfl) (.inl ⟨by decide, by decide⟩)) ev_c) fun H2 e2 => kk _ H2 (e1.trans e2)
theorem ok__law_take_two (T : All K mg a d tk) : FnOk P w K mg base CX0 1 (a 39) (d 39) ["box", "many"] sp__law_take := by
  refine T.F__law_take_two.fn.ok sc__law_take_two (fun vs H Q E h => ?_) (fun cdv A outer s H vs Q E hr h => ?_)
  · obtain ⟨p, m, n, rfl, _⟩ := h
    rfl
  · obtain ⟨p, m, n, rfl, h1, h2, ⟨b0, b1, b2, hb, c1, c2, c3, c4⟩, hn, k⟩ := h
    have nd := sc__law_take_two.nd
    refine ⟨_, (pss_cons (ps_if (pt_cmpR op_gt (pe_ix ix_list (pv 0) pe_int (fun _ _ => rfl)) pe_int (nomark _))
 (pss_cons (ps_set (i := 2) nd rfl (Or.inl rfl) (pe_op op_mod (pe_ix ix_list (pv 0) pe_int (fun _ _ => rfl)) (pv 1)))
 (pss_cons (ps_asg (pe_op op_fdivW (pe_ix ix_list (pv 0) pe_int (fun _ _ => rfl)) (pv 1)) (pg_sub (pv 0) pe_int set_list))
 (pss_one (ps_ret (pv 2)))))
 pss_nil)
 (pss_cons (ps_asg (pe_op op_add (pe_ix ix_list (pv 0) pe_int (fun _ _ => rfl)) pe_int) (pg_sub (pv 0) pe_int set_list))
 (pss_cons (ps_set (i := 3) nd rfl (Or.inl rfl) (pe_op op_mod (pe_op op_pow (pe_op op_add (pe_op op_add (pe_ix ix_list (pv 0) pe_int (fun _ _ => rfl)) (pe_op op_mul pe_int (pe_ix ix_list (pv 0) pe_int (fun _ _ => rfl)))) pe_int) pe_int) pe_int))
 (pss_cons (ps_set (i := 3) nd rfl (Or.inl rfl) (pe_op op_mod (pe_op op_pow (pe_op op_add (pv 3) (pe_op op_mul pe_int (pe_ix ix_list (pv 0) pe_int (fun _ _ => rfl)))) pe_int) pe_int))
 (pss_one (ps_ret (pe_op op_mod (pe_op op_fdivW (pv 3) pe_int) (pv 1)))))))), ?_⟩
    have g0 : ∀ {H' : Hp} {σ' : L2.St} {x y z : Int}, σ'[0]? = some (some (.ref p)) → H' p = some (.lst [.int x, .int y, .int z]) → Ev (tOp (rIxL K) (tVar 0) (tC (.int 0))) σ' H' (.int x) := fun hσ h => ev_ixL (i := 0) (ev_var hσ) ev_c (sq_of h) rfl
    have g1 : ∀ {H' : Hp} {σ' : L2.St} {x y z : Int}, σ'[0]? = some (some (.ref p)) → H' p = some (.lst [.int x, .int y, .int z]) → Ev (tOp (rIxL K) (tVar 0) (tC (.int 1))) σ' H' (.int y) := fun hσ h => ev_ixL (i := 1) (ev_var hσ) ev_c (sq_of h) rfl
    have g2 : ∀ {H' : Hp} {σ' : L2.St} {x y z : Int}, σ'[0]? = some (some (.ref p)) → H' p = some (.lst [.int x, .int y, .int z]) → Ev (tOp (rIxL K) (tVar 0) (tC (.int 2))) σ' H' (.int z) := fun hσ h => ev_ixL (i := 2) (ev_var hσ) ev_c (sq_of h) rfl
    refine q_when (et_I0 (g0 rfl hb) ev_c) (fun _ H1 e1 => ?_) fun _ H1 e1 => ?_
    · refine q_asg (ev_I (j := m) (g0 rfl (e1 _ _ hb)) (ev_var rfl) (by show (0 : Int) < m; omega)) fun H2 e2 => ?_
      have e12 := e1.trans e2
      refine q_setL (j := 0) (e12 _ _ hb) (ev_I (j := m) (g0 rfl (e12 _ _ hb)) (ev_var rfl) (wide_div (b := 40) (by omega) (by omega) (by decide) (by decide))) (ev_var rfl) ev_c (show 0 < 3 by decide) fun H3 e3 => ?_
      refine s_ret (ev_var rfl) fun H4 e4 => k _ H4 (Int.emod_nonneg _ (by omega)) (Int.emod_lt_of_pos _ (by omega)) ((Ex.b (e12.trans e3)).own.trans (Ex.b e4)) ⟨_, b1, b2, e4 _ _ upd_same, c1, c2, c3, by omega⟩
    · refine q_setL (j := 2) (e1 _ _ hb) (ev_I0 (g2 rfl (e1 _ _ hb)) ev_c) (ev_var rfl) ev_c (show 2 < 3 by decide) fun H2 e2 => ?_
      have e12 := e1.trans e2
      have hb2 : upd H2 p (.lst ([V.int b0, .int b1, .int b2].set 2 (.int (b2 + 1)))) p = some (.lst [.int b0, .int b1, .int (b2 + 1)]) := upd_same
      generalize hH : upd H2 p (.lst ([V.int b0, .int b1, .int b2].set 2 (.int (b2 + 1)))) = H3 at hb2
      have eB : ExB p H H3 := by rw [← hH]; exact (Ex.b e12).own
      have mb : ∀ {i j : Int}, -(2 ^ 64) < i ∧ i < 2 ^ 64 → CMul i j := fun h => .inl h
      refine q_asg (ev_I (j := 2147483647) (ev_I (j := 5) (ev_I0 (ev_I0 (g1 rfl hb2) (ev_I ev_c (g2 rfl hb2) (mb ⟨by decide, by decide⟩))) ev_c) ev_c ⟨by decide, by decide, ?_⟩) ev_c (by show (0 : Int) < 2147483647; decide)) fun H4 e4 => ?_
      · have : (2 : Nat) ^ 64 = 18446744073709551616 := by decide
        rw [this]
        omega
      generalize hmx : (b1 + 15487649 * (b2 + 1) + 373) ^ Int.toNat 5 % 2147483647 = mx
      have q1 : 0 ≤ mx := by rw [← hmx]; exact Int.emod_nonneg _ (by decide)
      have q2 : mx < 2147483647 := by rw [← hmx]; exact Int.emod_lt_of_pos _ (by decide)
      refine q_asg (ev_I (j := 2147483587) (ev_I (j := 3) (ev_I0 (ev_var rfl) (ev_I ev_c (g2 rfl (e4 _ _ hb2)) (mb ⟨by decide, by decide⟩))) ev_c ⟨by decide, by decide, ?_⟩) ev_c (by show (0 : Int) < 2147483587; decide)) fun H5 e5 => ?_
      · have : (2 : Nat) ^ 64 = 18446744073709551616 := by decide
        rw [this]
        omega
      refine s_ret (ev_I (j := m) (ev_I (j := 16) (ev_var rfl) ev_c (wide_div (b := 40) (by decide) (by decide) (by decide) (by decide))) (ev_var rfl) (by show (0 : Int) < m; omega)) fun H6 e6 => ?_
      exact k _ H6 (Int.emod_nonneg _ (by omega)) (Int.emod_lt_of_pos _ (by omega)) (eB.trans (Ex.b ((e4.trans e5).trans e6))) ⟨b0, b1, b2 + 1, (e4.trans (e5.trans e6)) _ _ hb2, c1, c2, by omega, by omega⟩
theorem ok__law_mixed_two (T : All K mg a d tk) : FnOk P w K mg base CX0 2 (a 40) (d 40) ["box", "things"] sp__law_mixed := by
  refine T.F__law_mixed_two.fn.ok sc__law_mixed_two (fun vs H Q E h => ?_) (fun cdv A outer s H vs Q E hr h => ?_)
  · obtain ⟨p, x, rs, n, rfl, _⟩ := h
    rfl
  · obtain ⟨p, x, rs, n, rfl, ⟨xb, xs, rfl, hx, hxp⟩, h60, hB, hn, k⟩ := h
    have nd := sc__law_mixed_two.nd
    have hu0 := hr.units0
    refine ⟨_, (pss_cons (ps_par (i := 2) (j := 3) rfl nd rfl rfl (by decide) rfl rfl (pa_cons (pe_callTy call_list_of rfl T.n_list PyProof.Rows.boot_list (pa_cons (pv 1) pa_nil)) (pa_cons (pe_lst pa_nil) pa_nil)) (by rfl))
 (pss_cons (ps_while PassesOwn.never (pt_cmpR (op_neNil hu0) (pv 2) (pe_lst pa_nil) (nomark _))
 (pss_one (ps_expr (pe_bm PySem.F.plainAttrs_list PySem.F.slot_list_append PySem.F.type_list_append mt_append (pv 3) (pa_cons (pe_bm PySem.F.plainAttrs_list PySem.F.slot_list_pop PySem.F.type_list_pop mt_popAt (pv 2) (pa_cons (pe_call (ok__law_take_two T) (hr.mono (by decide)) rfl T.F__law_take_two.m T.F__law_take_two.kp T.F__law_take_two.b .nil pass0 (pa_cons (pv 0) (pa_cons (pe_callB call_len_seq (by rfl) T.n_len PySem.boot_len (pa_cons (pv 2) pa_nil)) pa_nil))) pa_nil)) pa_nil)))))
 (pss_one (ps_ret (pv 3))))), ?_⟩
    refine ⟨_, rfl, xb, xs, rfl, .inl (sq_of hx), fun lf hlf => ⟨Nat.zero_le _, fun fd hfd => ⟨_, _, rfl, ?_⟩⟩⟩
    have eL : Ex H (upd H lf (.lst xs)) := Ex.new hlf
    have nfd : H fd = none := fresh_back eL hfd
    have nlf : lf ≠ fd := fun z => by rw [← z, upd_same] at hfd; cases hfd
    have eF : Ex (upd H lf (.lst xs)) (upd (upd H lf (.lst xs)) fd (.lst [])) := Ex.new hfd
    have e0 := eL.trans eF
    have bl : p ≠ lf := hB.ne hlf
    have bf : p ≠ fd := hB.ne nfd
    let W : Nat → L2.St → Hp → Prop := fun m σ' H' => ExB p H H' ∧ ∃ (ls fs : List V) (cl cf : List (List Int)), σ' = [some (.ref p), some (.ref xb), some (.ref lf), some (.ref fd)] ∧ H' lf = some (.lst ls) ∧ H' fd = some (.lst fs) ∧ Paired (IsRow H') ls cl ∧ Paired (IsRow H') fs cf ∧ (cl ++ cf).Perm rs ∧ ls.length = m ∧ m ≤ rs.length ∧ BoxAt H' p (n + (rs.length - m))
    have lx : xs.length = rs.length := Paired.length hxp
    refine q_while W rs.length ⟨Ex.b e0, xs, [], rs, [], rfl, eF _ _ upd_same, upd_same, Paired.imp (fun _ _ h => h.ex e0) hxp, .nil, by rw [List.append_nil], lx, Nat.le_refl _, by rw [Nat.sub_self]; exact hB.ex e0⟩ ?_
    rintro m σ' H' ⟨e', ls, fs, cl, cf, rfl, hl, hf, hlp, hfp, pm, hlm, hmr, hBx⟩
    refine ⟨!ls.isEmpty, et_test (ev_neNil (ev_var rfl) (sq_of hl)), fun hb H1 e1 => ?_, fun hb H1 e1 => ?_⟩
    · have hne : ls ≠ [] := fun z => by rw [z] at hb; cases hb
      have hm : 0 < m := by rw [← hlm]; exact List.length_pos_iff.mpr hne
      have lenl : cl.length = ls.length := (Paired.length hlp).symm
      have lenf : fs.length ≤ 60 := by
        have a := Paired.length hfp
        have b := pm.length_eq
        rw [List.length_append] at b
        omega
      refine ⟨fun σ2 H2 => ∃ m', m' < m ∧ W m' σ2 H2, fun _ _ h => h, ?_⟩
      refine ⟨_, rfl, .inl ⟨rfl, fs, sq_of (e1 _ _ hf)⟩, _, rfl, .inl ⟨rfl, ls, sq_of (e1 _ _ hl)⟩, _, rfl, _, rfl, lf, ls, rfl, .inl (sq_of (e1 _ _ hl)), ?_⟩
      refine ⟨p, _, n + (rs.length - m), rfl, by omega, by omega, hBx.ex e1, by omega, fun i H2 i0 i1 e2 hB2 => ?_⟩
      have hl2 : H2 lf = some (.lst ls) := e2 _ _ (Ne.symm bl) (e1 _ _ hl)
      have hf2 : H2 fd = some (.lst fs) := e2 _ _ (Ne.symm bf) (e1 _ _ hf)
      have hBx1 := hBx.ex e1
      have hlp2 : Paired (IsRow H2) ls cl := Paired.imp (fun _ _ h => (h.ex e1).exB hBx1 e2) hlp
      have hfp2 : Paired (IsRow H2) fs cf := Paired.imp (fun _ _ h => (h.ex e1).exB hBx1 e2) hfp
      have hi : i.toNat < ls.length := by omega
      have gy := List.getElem?_eq_getElem hi
      obtain ⟨r, hr, hrow⟩ := Paired.at_l hlp2 _ _ gy
      have hrl : i.toNat < cl.length := by omega
      refine ⟨lf, ls, i, i.toNat, _, rfl, rfl, hl2, by omega, by omega, seqIndex_of i0 i1, gy, ?_⟩
      refine ⟨fd, fs, _, rfl, rfl, by rw [upd_ne (Ne.symm nlf)]; exact hf2, Nat.lt_of_le_of_lt lenf (show 60 < sizeLine by decide), ?_⟩
      have mv : ∀ {x : V} {q : List Int}, IsRow H2 x q → IsRow (upd (upd H2 lf (.lst (ls.eraseIdx i.toNat))) fd (.lst (fs ++ [ls[i.toNat]]))) x q := fun h => (h.upd hl2 (lst_ntup _)).upd (by rw [upd_ne (Ne.symm nlf)]; exact hf2) (lst_ntup fs)
      refine ⟨m - 1, by omega, (((e'.trans (Ex.b e1)).trans e2).mut hlf).mut nfd, ls.eraseIdx i.toNat, fs ++ [ls[i.toNat]], cl.eraseIdx i.toNat, cf ++ [r], rfl, by rw [upd_ne nlf, upd_same], upd_same, Paired.erase _ (Paired.imp (fun _ _ h => mv h) hlp2), Paired.append (Paired.imp (fun _ _ h => mv h) hfp2) (.cons (mv hrow) .nil), ?_, ?_, by omega, ?_⟩
      · have hr' : cl[i.toNat] = r := by
          rw [List.getElem?_eq_getElem hrl] at hr
          exact Option.some.inj hr
        have z := erase_perm hrl
        rw [hr'] at z
        have z2 : (cl.eraseIdx i.toNat ++ (cf ++ [r])).Perm ((r :: cl.eraseIdx i.toNat) ++ cf) := by
          rw [← List.append_assoc]
          refine (List.perm_append_comm).trans ?_
          rw [List.cons_append]
          exact List.Perm.refl _
        exact (z2.trans (z.append_right cf)).trans pm
      · rw [List.length_eraseIdx_of_lt hi]
        omega
      · have : n + (rs.length - (m - 1)) = n + (rs.length - m) + 1 := by omega
        rw [this]
        exact (hB2.upd bl).upd bf
    · have hls : ls = [] := by
        cases ls with
        | nil => rfl
        | cons _ _ => cases hb
      subst hls
      cases hlp
      refine s_ret (ev_var rfl) fun H2 e2 => ?_
      have e12 := e1.trans e2
      exact k _ cf H2 ⟨fd, fs, rfl, e12 _ _ hf, Paired.imp (fun _ _ h => h.ex e12) hfp⟩ pm (e'.trans (Ex.b e12)) ((hBx.ex e12).mono (by omega))
end
end Mv
/-! The second copies of the draws. -/
namespace Mv
open PySem PySem.Spec PyProof.Rows L2 Evl
section
variable {P : Program} {w : World} {K : PySem.W.Frag} {mg : Str → Option Value} {base : Heap} {a : Nat → Addr} {d : Nat → FuncData} {tk : Nat → Tok}
theorem ok__law_rows_two (T : All K mg a d tk) : FnOk P w K mg base CX0 2 (a 41) (d 41) ["box", "many"] sp__law_rows := by
  refine T.F__law_rows_two.fn.ok sc__law_rows_two (fun vs H Q E h => ?_) (fun cdv A outer s H vs Q E hr h => ?_)
  · obtain ⟨p, m, n, rfl, _⟩ := h
    rfl
  · obtain ⟨p, m, n, rfl, hm, hB, hn, k⟩ := h
    have nd := sc__law_rows_two.nd
    have hu65 := hu65_of hr
    refine ⟨_, (pss_cons (ps_asg (pe_tup (pa_cons (pe_op op_add pe_int (pe_call (ok__law_take_two T) (hr.mono (by decide)) rfl T.F__law_take_two.m T.F__law_take_two.kp T.F__law_take_two.b .nil pass0 (pa_cons (pv 0) (pa_cons pe_int pa_nil)))) (pa_cons (pe_ix ix_list (pe_lst (pa_cons pe_int (pa_cons pe_int (pa_cons pe_int pa_nil)))) (pe_call (ok__law_take_two T) (hr.mono (by decide)) rfl T.F__law_take_two.m T.F__law_take_two.kp T.F__law_take_two.b .nil pass0 (pa_cons (pv 0) (pa_cons pe_int pa_nil))) (fun _ _ => rfl)) pa_nil))) (pg_tup rfl (pgs_cons (pg_name (i := 2) nd rfl (Or.inl rfl)) (pgs_cons (pg_name (i := 3) nd rfl (Or.inr rfl)) pgs_nil))) (hw := by rfl))
 (pss_cons (ps_set (i := 4) nd rfl (Or.inl rfl) (pe_lst pa_nil))
 (pss_cons (ps_for PassesOwn.never rfl (pi_range1 rfl T.n_range (pa_cons (pv 1) pa_nil)) (pg_name (i := 5) nd rfl (Or.inl rfl))
 (pss_cons (ps_set (i := 6) nd rfl (Or.inl rfl) (pe_callTy call_tuple_of rfl T.n_tuple PyProof.Rows.boot_tuple (pa_cons (pe_lc (own := [("column", 7)]) (g := (gName 7)) rfl nd (pi_range1 rfl T.n_range (pa_cons (pv 2) pa_nil)) (blkOk_by (N := N__law_rows_two) (sc := defScope s__law_rows_two) (by decide +kernel)) (fun _ _ _ _ _ => (pg_name (i := 7) nd rfl (Or.inl rfl))) (fun _ _ _ _ _ => pts_nil) (fun _ _ _ _ _ => (pe_call (ok__law_take_two T) (hr.mono (by decide)) rfl T.F__law_take_two.m T.F__law_take_two.kp T.F__law_take_two.b .nil pass0 (pa_cons (pv 0) (pa_cons (pv 3) pa_nil))))) pa_nil)))
 (pss_cons (ps_if (pt_cmpR (op_inD hu65) (pv 6) (pv 4) rfl)
 (pss_one (ps_set (i := 6) nd rfl (Or.inl rfl) (pe_ifExp (pt_cmpR (op_notInD hu65) (pe_op op_repU (pe_tup (pa_cons (pv 5) pa_nil)) (pv 2)) (pv 4) rfl) (pe_op op_repU (pe_tup (pa_cons (pv 5) pa_nil)) (pv 2)) (pe_op op_repU (pe_tup (pa_cons (pe_op op_sub pe_int (pv 5)) pa_nil)) (pv 2)))))
 pss_nil)
 (pss_one (ps_if (pt_cmpR (op_notInD hu65) (pv 6) (pv 4) rfl)
 (pss_one (ps_expr (pe_bm PySem.F.plainAttrs_list PySem.F.slot_list_append PySem.F.type_list_append mt_append (pv 4) (pa_cons (pv 6) pa_nil))))
 pss_nil)))))
 (pss_one (ps_ret (pv 4)))))), ?_⟩
    refine ⟨_, rfl, p, 5, n, rfl, by decide, by decide, hB, by omega, fun i0 H1 i0a i0b e1 hB1 => ?_⟩
    obtain ⟨wd, hwd, w1, w5⟩ : ∃ wd : Nat, 1 + i0 = (wd : Int) ∧ 1 ≤ wd ∧ wd ≤ 5 := ⟨(1 + i0).toNat, by omega, by omega, by omega⟩
    refine add_go hwd ?_
    refine ⟨sz_of (show 3 ≤ 100000 by decide), fun tl htl => ?_⟩
    have hBl : BoxAt (upd H1 tl (.lst [V.int 8, .int 30, .int 1000])) p (n + 1) := hB1.upd (hB1.ne htl)
    refine ⟨_, rfl, p, 3, n + 1, rfl, by decide, by decide, hBl, by omega, fun i1 H2 i1a i1b e2 hB2 => ?_⟩
    have htl2 : H2 tl = some (.lst [V.int 8, .int 30, .int 1000]) := e2 _ _ (Ne.symm (hB1.ne htl)) upd_same
    obtain ⟨top, htop, t1, t2⟩ : ∃ top : Int, atI [V.int 8, .int 30, .int 1000] i1 = some (.int top) ∧ 1 ≤ top ∧ top ≤ 1000 := by
      have : i1 = 0 ∨ i1 = 1 ∨ i1 = 2 := by omega
      rcases this with z | z | z
      · subst z; exact ⟨8, rfl, by decide, by decide⟩
      · subst z; exact ⟨30, rfl, by decide, by decide⟩
      · subst z; exact ⟨1000, rfl, by decide, by decide⟩
    refine ⟨tl, _, i1, _, rfl, rfl, sq_of htl2, htop, ?_⟩
    refine ⟨sz_of (show 2 ≤ 100000 by decide), fun tt htt => ?_⟩
    refine ⟨tt, _, rfl, st_of upd_same, rfl, _, _, rfl, _, _, rfl, rfl, ?_⟩
    have hB3 : BoxAt (upd H2 tt (.tup [V.int (wd : Int), .int top])) p (n + 1 + 1) := hB2.upd (hB2.ne htt)
    have eB3 : ExB p H (upd H2 tt (.tup [V.int (wd : Int), .int top])) := (e1.trans ((Ex.b (Ex.new htl)).trans e2)).trans (Ex.b (Ex.new htt))
    generalize hH3 : upd H2 tt (HO.tup [V.int (wd : Int), V.int top]) = H3 at hB3 eB3
    refine q_asgL (el_lst ea_nil (Nat.zero_le _)) fun fd H4 hfd e4 hf4 => ?_
    have bf : p ≠ fd := hB3.ne hfd
    have nfd : H fd = none := eB3.back (Ne.symm bf) hfd
    have eB4 := eB3.trans (Ex.b e4)
    let Ov : Nat → L2.St → Hp → Prop := fun j σ' H' => ExB p H H' ∧ BoxAt H' p (n + 2 + 5 * j) ∧ ∃ (ys : List V) (rs : List (List Int)) (v5 v6 : Option V), σ' = [some (.ref p), some (.int (m : Int)), some (.int (wd : Int)), some (.int top), some (.ref fd), v5, v6, none] ∧
      H' fd = some (.lst ys) ∧ Paired (IsRow H') ys rs ∧ rs.Nodup ∧ (∀ r ∈ rs, OkRow wd r) ∧ rs.length ≤ j
    refine q_forR1 (ea_cons (ev_var rfl) ea_nil) ⟨by omega, by omega⟩ Ov (fun H5 e5 => ⟨eB4.trans (Ex.b e5), (hB3.ex (e4.trans e5)).mono (by omega), [], [], none, none, rfl, e5 _ _ hf4, .nil, List.nodup_nil, fun r hr => (by cases hr), Nat.le_refl _⟩) ?_ ?_
    · rintro j σ' H5 hj ⟨e5, hB5, ys, rs, v5, v6, rfl, hf, hfp, hnd, hok, hlen⟩
      have hj60 : j < 60 := by omega
      have l60 : ys.length ≤ 60 := by rw [Paired.length hfp]; omega
      refine ⟨_, rfl, (wd : Int), rfl, by omega, by omega, fun Dl hD => ?_⟩
      have bD : p ≠ Dl := hB5.ne hD
      rw [Int.toNat_natCast]
      refine lc_it (walk_range (lo := 0) (n := wd)) (fun i H' => ExB p H5 H' ∧ BoxAt H' p (n + 2 + 5 * j + i) ∧ ∃ is : List Int, H' Dl = some (.lst (is.map V.int)) ∧ is.length = i ∧ ∀ x ∈ is, 0 ≤ x ∧ x ≤ 999) ⟨Ex.b (Ex.new hD), hB5.upd bD, [], upd_same, rfl, fun x h => (by cases h)⟩ (fun _ _ _ _ => trivial) ?_ ?_
      · rintro i x H6 H6' hi ⟨e6, hB6, is, g1, g2, g3⟩ ⟨rfl, rfl⟩
        refine ⟨rfl, yes_go ?_⟩
        refine ⟨_, rfl, _, rfl, p, top, _, rfl, t1, by omega, hB6, by omega, fun c H7 c0 c1 e7 hB7 => ?_⟩
        have g7 : H7 Dl = some (.lst (is.map V.int)) := e7 _ _ (Ne.symm bD) g1
        refine ⟨_, g7, Nat.lt_of_le_of_lt (by rw [List.length_map, g2]; omega) (show 1000 < sizeLine by decide), (e6.trans e7).mut hD, (hB7.upd bD).mono (by omega), is ++ [c], by rw [upd_same, List.map_append] <;> rfl, by rw [List.length_append, g2] <;> rfl, fun x hx => ?_⟩
        rcases List.mem_append.mp hx with hx | hx
        · exact g3 x hx
        · rw [List.mem_singleton.mp hx]
          omega
      · rintro H6 ⟨e6, hB6, is, g1, g2, g3⟩
        refine ⟨Dl, _, rfl, .inl ⟨sq_of g1, fun tr htr => ?_⟩⟩
        have eR : Ex H6 (upd H6 tr (.tup (is.map V.int))) := Ex.new htr
        have hB7 := hB6.ex eR
        have e57 : ExB p H5 (upd H6 tr (.tup (is.map V.int))) := e6.trans (Ex.b eR)
        have f7 : upd H6 tr (.tup (is.map V.int)) fd = some (.lst ys) := e57 _ _ (Ne.symm bf) hf
        have p7 : Paired (IsRow (upd H6 tr (.tup (is.map V.int)))) ys rs := Paired.imp (fun _ _ h => h.exB hB5 e57) hfp
        have r7 : IsRow (upd H6 tr (.tup (is.map V.int))) (.ref tr) is := ⟨tr, rfl, upd_same⟩
        generalize hH7 : upd H6 tr (HO.tup (is.map V.int)) = H7 at eR hB7 e57 f7 p7 r7
        have okIs : OkRow wd is := ⟨g2, g3⟩
        have okRep : ∀ c : Int, 0 ≤ c → c ≤ 999 → OkRow wd (List.replicate wd c) := fun c c0 c1 => ⟨List.length_replicate, fun x hx => by rw [(List.mem_replicate.mp hx).2]; exact ⟨c0, c1⟩⟩
        have last : ∀ (x : V) (r : List Int) (H8 : Hp), Ex H7 H8 → IsRow H8 x r → OkRow wd r →
            tIfS (tTest (tOp (rNotInD K) (tVar 6) (tVar 4))) (tDrop (tBM K "list" rAppend (tVar 4) (tCons (tVar 6) tNil))) tNext { nx := Ov (j + 1), rt := Q, ct := Ov (j + 1), bk := fun σ' H' => tRet (tVar 4) { nx := fun _ H' => Q .non H', rt := Q } σ' H' }
              [some (.ref p), some (.int (m : Int)), some (.int (wd : Int)), some (.int top), some (.ref fd), some (.int (j : Int)), some x, none] H8 := by
          intro x r H8 e8 hx hro
          have p8 : Paired (IsRow H8) ys rs := Paired.imp (fun _ _ h => h.ex e8) p7
          refine s_when (et_test (ev_op (ev_var rfl) (ev_var rfl) (rv_ninRows (e8 _ _ f7) p8 hx))) (fun hb H9 e9 => ?_) fun hb H9 e9 => ?_
          · have hnr : r ∉ rs := fun z => by rw [decide_eq_true z] at hb; cases hb
            refine s_app ((e8.trans e9) _ _ f7) (ev_var rfl) (ev_var rfl) (by omega) fun H10 e10 => ?_
            have e710 := (e8.trans e9).trans e10
            have mv : ∀ {x : V} {q : List Int}, IsRow H8 x q → IsRow (upd H10 fd (.lst (ys ++ [x]))) x q := fun h => (h.ex (e9.trans e10)).upd (e710 _ _ f7) (lst_ntup ys)
            refine ⟨((e5.trans e57).trans (Ex.b e710)).mut nfd, ((hB7.ex e710).upd bf).mono (by omega), ys ++ [x], rs ++ [r], _, _, rfl, upd_same, Paired.append (Paired.imp (fun _ _ h => (h.ex (e9.trans e10)).upd (e710 _ _ f7) (lst_ntup ys)) p8) (.cons ((hx.ex (e9.trans e10)).upd (e710 _ _ f7) (lst_ntup ys)) .nil), ?_, fun q hq => ?_, by rw [List.length_append, List.length_singleton]; omega⟩
            · rw [List.nodup_append]
              refine ⟨hnd, List.nodup_cons.mpr ⟨by simp, List.nodup_nil⟩, fun z hz u hu' e3 => ?_⟩
              rw [List.mem_singleton.mp hu'] at e3
              exact hnr (e3 ▸ hz)
            · rcases List.mem_append.mp hq with hq | hq
              · exact hok q hq
              · rw [List.mem_singleton.mp hq]; exact hro
          · have e79 := e8.trans e9
            exact ⟨(e5.trans e57).trans (Ex.b e79), (hB7.ex e79).mono (by omega), ys, rs, _, _, rfl, e79 _ _ f7, Paired.imp (fun _ _ h => h.ex e9) p8, hnd, hok, by omega⟩
        refine q_when (et_test (ev_op (ev_var rfl) (ev_var rfl) (rv_inRows f7 p7 r7))) (fun _ H8 e8 => ?_) fun _ H8 e8 => last _ _ H8 e8 (r7.ex e8) okIs
        have p8 : Paired (IsRow H8) ys rs := Paired.imp (fun _ _ h => h.ex e8) p7
        refine ep_rep (K := K) (i := (j : Int)) (w := wd) (ev_var rfl) (ev_var rfl) w1 w5 H8 (Ex.refl H8) _ fun v1 H9 e9 hv1 => ?_
        refine ⟨_, rfl, ?_⟩
        have e89 := e8.trans e9
        have p9 : Paired (IsRow H9) ys rs := Paired.imp (fun _ _ h => h.ex e9) p8
        refine rv_ninRows (e89 _ _ f7) p9 hv1 H9 (Ex.refl H9) _ fun H10 e10 => ⟨_, rfl, ?_⟩
        have e810 := e89.trans e10
        refine ite2 (fun _ => ?_) fun _ => ?_
        · refine ep_rep (K := K) (i := (j : Int)) (w := wd) (ev_var rfl) (ev_var rfl) w1 w5 H10 (Ex.refl H10) _ fun v2 H11 e11 hv2 => ?_
          exact last v2 _ H11 (e810.trans e11) hv2 (okRep _ (by omega) (by omega))
        · refine ep_rep (K := K) (i := 999 - (j : Int)) (w := wd) (ev_I0 ev_c (ev_var rfl)) (ev_var rfl) w1 w5 H10 (Ex.refl H10) _ fun v2 H11 e11 hv2 => ?_
          exact last v2 _ H11 (e810.trans e11) hv2 (okRep _ (by omega) (by omega))
    · rintro σ' H5 ⟨e5, hB5, ys, rs, v5, v6, rfl, hf, hfp, hnd, hok, hlen⟩
      rw [Int.toNat_natCast] at hB5 hlen
      refine s_ret (ev_var rfl) fun H6 e6 => ?_
      exact k _ rs wd H6 ⟨fd, ys, rfl, e6 _ _ hf, Paired.imp (fun _ _ h => h.ex e6) hfp⟩ ⟨w1, w5, hnd, hok, by omega⟩ (e5.trans (Ex.b e6)) ((hB5.ex e6).mono (by omega))
theorem ok__law_other_two (T : All K mg a d tk) : FnOk P w K mg base CX0 3 (a 42) (d 42) ["box", "rows"] sp__law_other := by
  refine T.F__law_other_two.fn.ok sc__law_other_two (fun vs H Q E h => ?_) (fun cdv A outer s H vs Q E hr h => ?_)
  · obtain ⟨p, x, rs, n, rfl, _⟩ := h
    rfl
  · obtain ⟨p, x, rs, n, rfl, hx, h60, hB, hn, k⟩ := h
    have nd := sc__law_other_two.nd
    refine ⟨_, (pss_cons (ps_par (i := 2) (j := 3) rfl nd rfl rfl (by decide) rfl rfl (pa_cons (pe_call (ok__law_take_two T) (hr.mono (by decide)) rfl T.F__law_take_two.m T.F__law_take_two.kp T.F__law_take_two.b .nil pass0 (pa_cons (pv 0) (pa_cons pe_int pa_nil))) (pa_cons (pe_callB call_len_seq (by rfl) T.n_len PySem.boot_len (pa_cons (pv 1) pa_nil)) pa_nil)) (by rfl))
 (pss_cons (ps_if (PW.pt (pw_or (pt_cmpR op_eq (pv 2) pe_int (nomark _)) (pw_or1 (pt_cmpR op_eq (pv 3) pe_int (nomark _)))))
 (pss_one (ps_ret (pe_call (ok__law_mixed_two T) (hr.mono (by decide)) rfl T.F__law_mixed_two.m T.F__law_mixed_two.kp T.F__law_mixed_two.b .nil pass0 (pa_cons (pv 0) (pa_cons (pv 1) pa_nil)))))
 pss_nil)
 (pss_cons (ps_set (i := 4) nd rfl (Or.inl rfl) (pe_call (ok__law_take_two T) (hr.mono (by decide)) rfl T.F__law_take_two.m T.F__law_take_two.kp T.F__law_take_two.b .nil pass0 (pa_cons (pv 0) (pa_cons (pv 3) pa_nil))))
 (pss_cons (ps_if (pt_cmpR op_eq (pv 2) pe_int (nomark _))
 (pss_one (ps_ret (pe_op op_cat (pe_slice sl_list (pv 1) (po_some (pv 4)) po_none) (pe_slice sl_list (pv 1) po_none (po_some (pv 4))))))
 pss_nil)
 (pss_cons (ps_if (pt_cmpR op_eq (pv 2) pe_int (nomark _))
 (pss_one (ps_ret (pe_op op_cat (pe_slice sl_list (pv 1) po_none (po_some (pv 4))) (pe_revL (pe_slice sl_list (pv 1) (po_some (pv 4)) po_none)))))
 pss_nil)
 (pss_cons (ps_set (i := 5) nd rfl (Or.inl rfl) (pe_callTy call_list_of rfl T.n_list PyProof.Rows.boot_list (pa_cons (pv 1) pa_nil)))
 (pss_cons (ps_for PassesOwn.never rfl (pi_range1 rfl T.n_range (pa_cons (pe_op op_add pe_int (pe_call (ok__law_take_two T) (hr.mono (by decide)) rfl T.F__law_take_two.m T.F__law_take_two.kp T.F__law_take_two.b .nil pass0 (pa_cons (pv 0) (pa_cons pe_int pa_nil)))) pa_nil)) (pg_name (i := 6) nd rfl (Or.inl rfl))
 (pss_cons (ps_set (i := 7) nd rfl (Or.inl rfl) (pe_bm PySem.F.plainAttrs_list PySem.F.slot_list_pop PySem.F.type_list_pop mt_popAt (pv 5) (pa_cons (pe_call (ok__law_take_two T) (hr.mono (by decide)) rfl T.F__law_take_two.m T.F__law_take_two.kp T.F__law_take_two.b .nil pass0 (pa_cons (pv 0) (pa_cons (pv 3) pa_nil))) pa_nil)))
 (pss_one (ps_expr (pe_bm PySem.F.plainAttrs_list PySem.F.slot_list_insert PySem.F.type_list_insert mt_insert (pv 5) (pa_cons (pe_call (ok__law_take_two T) (hr.mono (by decide)) rfl T.F__law_take_two.m T.F__law_take_two.kp T.F__law_take_two.b .nil pass0 (pa_cons (pv 0) (pa_cons (pv 3) pa_nil))) (pa_cons (pv 7) pa_nil)))))))
 (pss_one (ps_ret (pv 5)))))))))), ?_⟩
    refine ⟨_, rfl, p, 5, n, rfl, by decide, by decide, hB, by omega, fun way H1 wa wb e1 hB1 => ?_⟩
    have hx1 := hx.exB hB e1
    obtain ⟨xb, xs, rfl, hxs, hxp⟩ := id hx1
    have lx : xs.length = rs.length := Paired.length hxp
    refine ⟨_, rfl, xb, xs, rfl, .inl (sq_of hxs), _, _, rfl, ?_⟩
    rw [lx]
    refine q_when (et_or (et_test (ev_op (ev_var rfl) ev_c (rv_eq rfl))) fun _ => et_test (ev_op (ev_var rfl) ev_c (rv_eq rfl))) (fun _ H2 e2 => ?_) fun hb H2 e2 => ?_
    · refine ⟨_, rfl, _, rfl, p, .ref xb, rs, n + 1, rfl, hx1.ex e2, h60, hB1.ex e2, by omega, fun v cs H3 h1 h2 h3 h4 => ?_⟩
      exact k v cs H3 h1 h2 ((e1.trans (Ex.b e2)).trans h3) (h4.mono (by omega))
    · obtain ⟨hb1, hb2⟩ := Bool.or_eq_false_iff.mp hb
      have hne : rs.length ≠ 0 := fun z => by
        rw [z] at hb2
        exact absurd hb2 (by decide)
      have hB2 := hB1.ex e2
      refine ⟨_, rfl, _, rfl, p, (rs.length : Int), n + 1, rfl, by omega, by omega, hB2, by omega, fun at_ H3 a0 a1 e3 hB3 => ?_⟩
      have hx3 := (hx1.ex e2).exB hB2 e3
      have eB3 : ExB p H H3 := (e1.trans (Ex.b e2)).trans e3
      obtain ⟨atn, rfl, hat⟩ : ∃ atn : Nat, at_ = (atn : Int) ∧ atn < rs.length := ⟨at_.toNat, by omega, by omega⟩
      obtain ⟨xb3, xs3, exb, hxs3, hxp3⟩ := id hx3
      cases exb
      have lx3 : xs3.length = rs.length := Paired.length hxp3
      have done : ∀ (zs : List V) (cs : List (List Int)) (pz : Addr) (H5 : Hp), Ex H3 H5 → H5 pz = some (.lst zs) → Paired (IsRow H3) zs cs → cs.Perm rs → Q (.ref pz) H5 := fun zs cs pz H5 e5 hz hp pm =>
        k _ cs H5 ⟨pz, zs, rfl, hz, Paired.imp (fun _ _ h => h.ex e5) hp⟩ pm (eB3.trans (Ex.b e5)) ((hB3.ex e5).mono (by omega))
      have pdrop := Paired.drop atn hxp3
      have ptake := Paired.take atn hxp3
      have slF : ∀ {σ' : L2.St} {H5 : Hp}, Ex H3 H5 → σ'[1]? = some (some (.ref xb)) → σ'[4]? = some (some (.int (atn : Int))) → EvL (tSl (rSlL K) (tVar 1) (tPart (tVar 4)) tNoPart) σ' H5 (xs3.drop atn) := fun e5 h1 h4 => by
        have z := el_sl (K := K) (lo := some (atn : Int)) (hi := none) (ev_var h1) (eo_some (ev_var h4)) eo_none (sq_of (e5 _ _ hxs3))
        rwa [cutV_from _ _ (by omega)] at z
      have slT : ∀ {σ' : L2.St} {H5 : Hp}, Ex H3 H5 → σ'[1]? = some (some (.ref xb)) → σ'[4]? = some (some (.int (atn : Int))) → EvL (tSl (rSlL K) (tVar 1) tNoPart (tPart (tVar 4))) σ' H5 (xs3.take atn) := fun e5 h1 h4 => by
        have z := el_sl (K := K) (lo := none) (hi := some (atn : Int)) (ev_var h1) eo_none (eo_some (ev_var h4)) (sq_of (e5 _ _ hxs3))
        rwa [cutV_to _ _ (by omega)] at z
      have ltk : (xs3.take atn).length ≤ 60 := by rw [List.length_take]; omega
      have ldr : (xs3.drop atn).length ≤ 60 := by rw [List.length_drop]; omega
      refine q_when (et_test (ev_op (ev_var rfl) ev_c (rv_eq rfl))) (fun _ H4 e4 => ?_) fun _ H4 e4 => ?_
      · refine s_retL (el_cat (slF e4 rfl rfl) (slT e4 rfl rfl) (by omega)) fun pz H5 _ e5 hz => ?_
        refine done _ (rs.drop atn ++ rs.take atn) pz H5 (e4.trans e5) hz (Paired.append pdrop ptake) ?_
        have z := List.perm_append_comm (l₁ := rs.drop atn) (l₂ := rs.take atn)
        rwa [List.take_append_drop] at z
      refine q_when (et_test (ev_op (ev_var rfl) ev_c (rv_eq rfl))) (fun _ H5 e5 => ?_) fun _ H5 e5 => ?_
      · refine s_retL (el_cat (slT (e4.trans e5) rfl rfl) (el_rev (slF (e4.trans e5) rfl rfl)) (by rw [List.length_reverse]; omega)) fun pz H6 _ e6 hz => ?_
        refine done _ (rs.take atn ++ (rs.drop atn).reverse) pz H6 ((e4.trans e5).trans e6) hz (Paired.append ptake (Paired.rev pdrop)) ?_
        have z := (List.reverse_perm (rs.drop atn)).append_left (rs.take atn)
        rwa [List.take_append_drop] at z
      have e35 := e4.trans e5
      refine ⟨_, rfl, xb, xs3, rfl, .inl (sq_of (e35 _ _ hxs3)), fun fd hfd => ?_⟩
      have eF : Ex H5 (upd H5 fd (.lst xs3)) := Ex.new hfd
      have hB5 := hB3.ex e35
      have bf : p ≠ fd := hB5.ne hfd
      have nfd : H fd = none := (eB3.trans (Ex.b e35)).back (Ne.symm bf) hfd
      refine ⟨_, rfl, p, 3, n + 2, rfl, by decide, by decide, hB5.ex eF, by omega, fun lp H6 la lb e6 hB6 => ?_⟩
      refine ⟨1, lp, rfl, rfl, ?_⟩
      refine ⟨1 + lp, rfl, by omega, by omega, ?_⟩
      have eB6 : ExB p H H6 := ((eB3.trans (Ex.b e35)).trans (Ex.b eF)).trans e6
      have hf6 : H6 fd = some (.lst xs3) := e6 _ _ (Ne.symm bf) upd_same
      have hfp6 : Paired (IsRow H6) xs3 rs := Paired.imp (fun _ _ h => (h.ex (e35.trans eF)).exB (hB5.ex eF) e6) hxp3
      let Ov : Nat → L2.St → Hp → Prop := fun j σ' H' => ExB p H H' ∧ BoxAt H' p (n + 3 + 2 * j) ∧ ∃ (ys : List V) (cs : List (List Int)) (v6 v7 : Option V), σ' = [some (.ref p), some (.ref xb), some (.int way), some (.int (rs.length : Int)), some (.int (atn : Int)), some (.ref fd), v6, v7] ∧
        H' fd = some (.lst ys) ∧ Paired (IsRow H') ys cs ∧ cs.Perm rs
      refine for_range (lo := 0) (n := (1 + lp).toNat) Ov ⟨eB6, hB6, xs3, rs, _, _, rfl, hf6, hfp6, .refl _⟩ ?_ ?_
      · rintro j σ' H7 hj ⟨e7, hB7, ys, cs, v6, v7, rfl, hf7, hfp7, pm⟩
        have lcs : cs.length = rs.length := pm.length_eq
        have lys : ys.length = rs.length := by rw [Paired.length hfp7, lcs]
        refine ⟨_, rfl, .inl ⟨rfl, ys, sq_of hf7⟩, _, rfl, _, rfl, p, (rs.length : Int), _, rfl, by omega, by omega, hB7, by omega, fun i H8 i0 i1 e8 hB8 => ?_⟩
        have hf8 : H8 fd = some (.lst ys) := e8 _ _ (Ne.symm bf) hf7
        have hfp8 : Paired (IsRow H8) ys cs := Paired.imp (fun _ _ h => h.exB hB7 e8) hfp7
        have hi : i.toNat < ys.length := by omega
        have hic : i.toNat < cs.length := by omega
        have gy := List.getElem?_eq_getElem hi
        obtain ⟨r, hr, hrow⟩ := Paired.at_l hfp8 _ _ gy
        refine ⟨fd, ys, i, i.toNat, _, rfl, rfl, hf8, by omega, by omega, seqIndex_of i0 (by omega), gy, ?_⟩
        have eP : ∀ {x : V} {q : List Int}, IsRow H8 x q → IsRow (upd H8 fd (.lst (ys.eraseIdx i.toNat))) x q := fun h => h.upd hf8 (lst_ntup ys)
        have hB9 : BoxAt (upd H8 fd (.lst (ys.eraseIdx i.toNat))) p (n + 3 + 2 * j + 1) := hB8.upd bf
        refine ⟨_, rfl, .inl ⟨rfl, _, sq_of upd_same⟩, _, rfl, _, rfl, p, (rs.length : Int), _, rfl, by omega, by omega, hB9, by omega, fun i2 H10 i20 i21 e10 hB10 => ⟨_, rfl, ?_⟩⟩
        have hf10 : H10 fd = some (.lst (ys.eraseIdx i.toNat)) := e10 _ _ (Ne.symm bf) upd_same
        have hfp10 : Paired (IsRow H10) (ys.eraseIdx i.toNat) (cs.eraseIdx i.toNat) := Paired.erase _ (Paired.imp (fun _ _ h => (eP h).exB hB9 e10) hfp8)
        have hrow10 : IsRow H10 ys[i.toNat] r := (eP hrow).exB hB9 e10
        refine ⟨fd, _, i2, _, rfl, rfl, hf10, Nat.lt_of_le_of_lt (by rw [List.length_eraseIdx_of_lt hi]; omega) (show 1000 < sizeLine by decide), i20, by omega, ?_⟩
        have mv : ∀ {x : V} {q : List Int}, IsRow H10 x q → IsRow (upd H10 fd (.lst ((ys.eraseIdx i.toNat).take i2.toNat ++ [ys[i.toNat]] ++ (ys.eraseIdx i.toNat).drop i2.toNat))) x q := fun h => h.upd hf10 (lst_ntup _)
        refine ⟨((e7.trans e8).mut nfd |>.trans e10).mut nfd, (hB10.upd bf).mono (by omega), _, (cs.eraseIdx i.toNat).take i2.toNat ++ [r] ++ (cs.eraseIdx i.toNat).drop i2.toNat, _, _, rfl, upd_same, ?_, ?_⟩
        · exact Paired.append (Paired.append (Paired.take _ (Paired.imp (fun _ _ h => mv h) hfp10)) (.cons (mv hrow10) .nil)) (Paired.drop _ (Paired.imp (fun _ _ h => mv h) hfp10))
        · have hr' : cs[i.toNat] = r := by
            rw [List.getElem?_eq_getElem hic] at hr
            exact Option.some.inj hr
          have z := erase_perm hic
          rw [hr'] at z
          refine List.Perm.trans ?_ (z.trans pm)
          have z2 : ((cs.eraseIdx i.toNat).take i2.toNat ++ [r] ++ (cs.eraseIdx i.toNat).drop i2.toNat).Perm (r :: ((cs.eraseIdx i.toNat).take i2.toNat ++ (cs.eraseIdx i.toNat).drop i2.toNat)) := by
            rw [List.append_assoc]
            exact List.perm_middle
          rwa [List.take_append_drop] at z2
      · rintro σ' H7 ⟨e7, hB7, ys, cs, v6, v7, rfl, hf7, hfp7, pm⟩
        refine s_ret (ev_var rfl) fun H8 e8 => ?_
        exact k _ cs H8 ⟨fd, ys, rfl, e8 _ _ hf7, Paired.imp (fun _ _ h => h.ex e8) hfp7⟩ pm (e7.trans (Ex.b e8)) ((hB7.ex e8).mono (by omega))
end
end Mv
/-! Rules: t[::-1] of tuples, of lists or tuples; comprehensions over lists or tuples, over zip(xs, a new list); in of dicts. -/
namespace Mv
open PySem PySem.Spec PyProof.Rows L2 Evl HT
section
variable {prog : Program} {w : World} {A : Around} {E : Value → Shared → Prop} {s : Shared}
theorem pick_rev (xs : Array Value) : ((List.range xs.size).filterMap fun (m : Nat) => xs[(((xs.size : Int) - 1) + (m : Int) * (-1)).toNat]?).toArray = xs.toList.reverse.toArray := by
  congr 1
  refine List.ext_getElem? fun i => ?_
  have gen : ∀ l : List Nat, (∀ m ∈ l, m < xs.size) → (l.filterMap fun (m : Nat) => xs[(((xs.size : Int) - 1) + (m : Int) * (-1)).toNat]?) = l.map fun m => xs.toList.reverse.getD m Value.none := by
    intro l
    induction l with
    | nil => exact fun _ => rfl
    | cons m l ih =>
      intro hm
      have hm1 := hm m List.mem_cons_self
      have e1 : (((xs.size : Int) - 1) + (m : Int) * (-1)).toNat = xs.size - 1 - m := by omega
      have h2 : xs.size - 1 - m < xs.size := by omega
      have e2 : xs[(((xs.size : Int) - 1) + (m : Int) * (-1)).toNat]? = some (xs.toList.reverse.getD m Value.none) := by
        rw [e1, Array.getElem?_eq_getElem h2, List.getD_eq_getElem?_getD, List.getElem?_reverse (by simpa using hm1)]
        simp [h2]
      rw [List.filterMap_cons, List.map_cons, ih fun q hq => hm q (List.mem_cons_of_mem _ hq), e2]
  have e := gen (List.range xs.size) fun m hm => List.mem_range.mp hm
  rw [e, List.getElem?_map]
  by_cases h : i < xs.size
  · rw [List.getElem?_range h]
    show some (xs.toList.reverse.getD i Value.none) = _
    rw [List.getD_eq_getElem?_getD, List.getElem?_eq_getElem (by simpa using h)] <;> rfl
  · rw [List.getElem?_eq_none (by simpa using h), List.getElem?_eq_none (by simpa using h)] <;> rfl
theorem getItem_tuple_rev {t sl : Addr} {items : Array Value} {vl vu vs : Value} {Q : Value → Shared → Prop} (ht : IsTup s.heap t items) (hs : s.heap.IsSliceOf sl vl vu vs) (pl : IsPart vl none) (pu : IsPart vu none) (ps : IsPart vs (some (-1)))
    (h : Q (.ref s.heap.objs.size) { s with heap := s.heap.push { cls := .type "tuple", data := .seq items.toList.reverse.toArray } })
    (hsz : items.size ≤ sizeLine) : wpAny (model prog w) A (getItem (.ref t) (.ref sl)) Q E s := by
  have htake : sizeOk (.seq items.toList.reverse.toArray) := by
    show items.toList.reverse.toArray.size ≤ sizeLine
    rw [List.size_toArray, List.length_reverse, Array.length_toList]
    exact hsz
  obtain ⟨os, hos, hcs, hds⟩ := id hs
  have hTs : s.TypeIs (.ref sl) "slice" := ⟨os, hos, hcs⟩
  unfold getItem
  try with_reducible refine wpAny_holding ?_
  first | refine wpAny_bind (wpAny_pure ?_) | skip
  refine wpAny_bind (wpAny_sequenceKey ht.typeIs (by decide) ?_)
  refine wpAny_bind (wpAny_callSpecial?_slot (name := Str.ofString "__getitem__") ht.typeIs PyProof.Rows.slot_tuple_getitem
    (wpAny_call_entry PyProof.Rows.slot_tuple_getitem ht.typeIs entry_tuple_getitem ?_ (args_tuple_getitem _ _)))
  show wpAny _ _ (Builtin.Tuple.tupleItemsOf (.ref t) >>= _) _ _ s
  refine wpAny_bind (tupleItemsOf_ ht ?_)
  refine wpAny_bind (wpAny_typeOf hTs ?_)
  rw [if_pos (by decide)]
  have hadj : Builtin.Slice.sliceAdjust none none (-1) (items.size : Int) = ((items.size : Int) - 1, -1) := rfl
  have hpl : Builtin.Slice.slicePlaces ((items.size : Int) - 1) (-1) (-1) = items.size := by
    unfold Builtin.Slice.slicePlaces
    have h1 : ¬ ((-1 : Int) > 0) := by omega
    simp only [h1, if_false]
    by_cases h0 : ((items.size : Int) - 1) > -1
    · simp only [h0, if_true]
      show (((items.size : Int) - 1 - -1 - 1) / (- -1) + 1).toNat = _
      have : (- -1 : Int) = 1 := by decide
      rw [this, Int.ediv_one]
      omega
    · simp only [h0, if_false]
      show (0 : Int).toNat = _
      omega
  have happ : ∀ A' : Around, wpAny (model prog w) A' (Builtin.Slice.sliceApplied (.ref sl) (pure (items.size : Int))) (fun r s' => r = ((items.size : Int) - 1, (-1 : Int), items.size) ∧ s' = s) E s := by
    intro A'
    unfold Builtin.Slice.sliceApplied Builtin.Slice.sliceFields
    refine wpAny_bind (wpAny_bind (wpAny_field hos hds (x := vl) rfl (wpAny_bind (wpAny_field hos hds (x := vu) rfl (wpAny_bind (wpAny_field hos hds (x := vs) rfl (wpAny_pure ?_)))))))
    refine wpAny_bind (slicePart_ ps ?_)
    show wpAny _ _ (if ((-1 : Int) == 0) = true then _ else _) _ _ s
    rw [if_neg (by decide)]
    refine wpAny_bind (slicePart_ pl (wpAny_bind (slicePart_ pu (wpAny_bind (wpAny_pure ?_)))))
    show wpAny _ _ (match Builtin.Slice.sliceAdjust none none (-1) (items.size : Int) with | (lo, hi) => pure (lo, (-1 : Int), Builtin.Slice.slicePlaces lo hi (-1))) _ _ s
    rw [hadj]
    show wpAny _ _ (pure ((items.size : Int) - 1, (-1 : Int), Builtin.Slice.slicePlaces ((items.size : Int) - 1) (-1) (-1))) _ _ s
    rw [hpl]
    exact wpAny_pure ⟨rfl, rfl⟩
  refine wpAny_bind (wpAny_mono (happ _) ?_ fun _ _ x => x)
  rintro r s' ⟨rfl, rfl⟩
  have hno : ¬ ((((items.size : Int) - 1) == 0 && (-1 : Int) == 1 && items.size == items.size) = true) := by
    rw [show ((-1 : Int) == 1) = false from by decide, Bool.and_false, Bool.false_and]
    exact Bool.false_ne_true
  show wpAny _ _ (if ((((items.size : Int) - 1) == 0 && (-1 : Int) == 1 && items.size == items.size)) = true then _ else _) _ _ s'
  rw [if_neg hno, pick_rev]
  first
    | exact wpAny_bind (m := Builtin.Tuple.tupleExact _) (wpAny_newObj_type (wpAny_pure ⟨_, rfl, wpAny_pure h⟩) htake)
    | exact wpAny_bind (m := Builtin.Tuple.tupleExact _) (wpAny_newObj_type (wpAny_bind (wpAny_pure (wpAny_pure ⟨_, rfl, wpAny_pure h⟩))) htake)
end
section
variable {X : Cx}
def tRevT (K : PySem.W.Frag) (te : TE) : TE := fun σ H Q => te σ H fun x H1 => ∃ a xs, x = .ref a ∧ SqT K H1 a xs ∧ ∀ p, H1 p = none → Q (.ref p) (upd H1 p (.tup xs.reverse))
theorem pe_revT {e : Expr} {te : TE} {k : Nat} {p1 p2 p3 pos : Pos} (he : PE X e te) : PE X (.Subscript e (.Slice none none (some (.UnaryOp .USub (.Constant (.int 1) k p1) p2)) p3) pos) (tRevT X.K te) := by
  refine ⟨fun pins s σ H Q I h => ?_⟩
  refine Subscript_ (thn (he.run pins s σ H _ I h) fun v s1 ⟨x, H1, I1, r1, q1⟩ => ?_)
  obtain ⟨a, xs, ex, hx, q⟩ := q1
  subst ex
  cases r1
  have hst : PO X (some (.UnaryOp .USub (.Constant (.int 1) k p1) p2)) (tPart (tUn (rU fun i => .int (-i)) (tC (.int 1)))) := po_some (pe_un un_neg pe_int)
  refine wpAny_Slice (thn (po_none.run pins s1 σ H1 (fun o H2 => o = none ∧ H2 = H1) I1 ⟨rfl, rfl⟩) fun vl s2 ⟨l, H2, I2, pl, el, e2⟩ => ?_)
  subst el e2
  refine thn (po_none.run pins s2 σ H2 (fun o H3 => o = none ∧ H3 = H2) I2 ⟨rfl, rfl⟩) fun vu s3 ⟨u, H3, I3, pu, eu, e3⟩ => ?_
  subst eu e3
  refine thn (hst.run pins s3 σ H3 (fun o H4 => o = some (-1) ∧ H4 = H3) I3 ⟨1, rfl, -1, rfl, rfl, rfl⟩) fun vs s4 ⟨o, H4, I4, ps, eo, e4⟩ => ?_
  subst eo e4
  have I5 : Inv X pins σ H4 { s4 with heap := s4.heap.push { cls := .type "slice", data := .fields #[vl, vu, vs] } } := I4.kept (t' := s4.toks) fun b ob q => Heap.get?_push_of_some _ q
  obtain ⟨its, r, ht, hz⟩ := I5.tuple hx
  have hlen := r.length
  show wpAny (model X.prog X.w) X.A (subscriptTail e (.Slice none none (some (.UnaryOp .USub (.Constant (.int 1) k p1) p2)) p3) (.ref a) (.ref s4.heap.objs.size)) (EP X pins σ Q) X.xe { s4 with heap := s4.heap.push { cls := .type "slice", data := .fields #[vl, vu, vs] } }
  refine tail_any (ops := [.ref a, .ref s4.heap.objs.size]) ht.typeIs (PyProof.Rows.slot_tuple_getitem.lookup) ?_ (by with_unfolding_all rfl)
  refine getItem_tuple_rev ht (Heap.IsSliceOf.new _ vl vu vs) pl pu ps ?_ (by rw [List.size_toArray]; omega)
  refine ⟨.ref _, _, I5.laid (t' := s4.toks) (o := .tup xs.reverse) (fun b ob q => Heap.get?_push_of_some _ q) (Nat.le_refl _) ?_, rfl, q _ (I5.hok.fresh (Nat.le_refl _))⟩
  exact ⟨by rw [List.length_reverse]; exact hz, _, r.reverse, IsTup.new _ _⟩
/-- of a list or a tuple -/
def tRevS (K : PySem.W.Frag) (te : TE) : TE := fun σ H Q => tRevL K te σ H Q ∨ tRevT K te σ H Q
theorem pe_revS {e : Expr} {te : TE} {k : Nat} {p1 p2 p3 pos : Pos} (he : PE X e te) : PE X (.Subscript e (.Slice none none (some (.UnaryOp .USub (.Constant (.int 1) k p1) p2)) p3) pos) (tRevS X.K te) := pe_either (pe_revL he) (pe_revT he)
end
section
variable {K : PySem.W.Frag} {σ : L2.St} {H H' : Hp} {ta tb tc te tl tx : TE} {t u : TT} {x y z v : V} {D : Ends}
theorem es_rev {a : Addr} {xs : List V} (h : Ev te σ H (.ref a)) (hs : Seq H a xs) : EvF (tRevS K te) σ H (fun p H2 => Seq H2 p xs.reverse) := fun H1 e Q q => by
  rcases hs with hs | hs
  · exact .inl (h H1 e _ fun H2 e2 => ⟨a, xs, rfl, sq_of (e2 _ _ (e _ _ hs)), fun p hp => q p _ (fresh_back e2 hp) (e2.trans (Ex.new hp)) (.inl upd_same)⟩)
  · exact .inr (h H1 e _ fun H2 e2 => ⟨a, xs, rfl, st_of (e2 _ _ (e _ _ hs)), fun p hp => q p _ (fresh_back e2 hp) (e2.trans (Ex.new hp)) (.inr upd_same)⟩)
/-- over a list or a tuple: what comes out, item by item -/
theorem el_lcSo {a : Addr} {xs out : List V} {j : Nat} {vs : List Nat} (h : Ev tl σ H (.ref a)) (hx : Seq H a xs) (hz : xs.length ≤ 40000) (hl : xs.length = out.length) (hw : ∀ x, wipe ((wipe σ vs).set j (some x)) vs = wipe σ vs)
    (he : ∀ (i : Nat) (x y : V) H1, Ex H H1 → xs[i]? = some x → out[i]? = some y → Ev te ((wipe σ vs).set j (some x)) H1 y) : EvL (tLc (iSeq K tl) (gName j) tYes te vs) σ H out := by
  intro H0 e Q q
  rcases hx with hx | hx
  · exact .inl (el_lcR (K := K) h (sq_of hx) hz hl hw he H0 e Q q)
  · refine .inr (h H0 e _ fun H1 e1 => ⟨a, rfl, ⟨xs, ex_t (e.trans e1) (st_of hx)⟩, fun Dl hD =>
      lc_tup (xs := xs) (Cw H1 (fun _ => true) (fun i => out.getD i .non) Dl) ⟨hD, Ex.new hD, upd_same⟩ (fun i H' _ p => ex_t ((e.trans e1).trans p.2.1) (st_of hx)) (fun i x H' hi p => ⟨hw x, cw_turn p (by have := (List.getElem?_eq_some_iff.mp hi).1; omega) et_yes fun _ => ?_⟩) (fun H' p => ?_)⟩)
    · have hi2 : i < out.length := by rw [← hl]; exact (List.getElem?_eq_some_iff.mp hi).1
      refine he i x _ H1 (e.trans e1) hi ?_
      rw [List.getD_eq_getElem?_getD, List.getElem?_eq_getElem hi2] <;> rfl
    · have p3 := p.2.2
      rw [hl, given_all] at p3
      exact q Dl H' (fresh_back e1 p.1) (e1.trans p.2.1) p3
/-- over zip(xs, a new list) -/
theorem el_lcZ1 {p : Addr} {xs ys : List V} {j1 j2 n : Nat} {vs : List Nat} (f : Nat → Bool) (v : Nat → V) (ha : Ev ta σ H (.ref p)) (hb : EvL tb σ H ys) (hx : SqL K H p xs) (hl : n = min xs.length ys.length) (hz : n ≤ 40000) (hw : ∀ x y, wipe (((wipe σ vs).set j1 (some x)).set j2 (some y)) vs = wipe σ vs)
    (ht : ∀ (i : Nat) (x y : V) H1, Ex H H1 → xs[i]? = some x → ys[i]? = some y → EvT t (((wipe σ vs).set j1 (some x)).set j2 (some y)) H1 (f i)) (he : ∀ (i : Nat) (x y : V) H1, Ex H H1 → xs[i]? = some x → ys[i]? = some y → f i = true → Ev te (((wipe σ vs).set j1 (some x)).set j2 (some y)) H1 (v i)) :
    EvL (tLc (iZip K (tCons ta (tCons tb tNil))) (gTup K 2 (gCons (gName j1) (gCons (gName j2) gNil))) t te vs) σ H (given n f v) := fun H0 e Q k => ha H0 e _ fun Ha ea => hb Ha (e.trans ea) _ fun q H1 nq eb hq => ⟨p, q, xs, ys, rfl, ex_l ((e.trans ea).trans eb) hx, sq_of hq, fun Dl hD => by
  have e1 := ea.trans eb
  refine lc_it (walk_zip (K := K) (a := p) (b := q) (xs := xs) (ys := ys) (n := n) hl) (Cw H1 f v Dl) ⟨hD, Ex.new hD, upd_same⟩ (fun i H' _ pv => ⟨ex_l ((e.trans e1).trans pv.2.1) hx, sq_of (pv.2.1 _ _ hq)⟩) ?_ fun H' pv => k Dl H' (fresh_back e1 pv.1) (e1.trans pv.2.1) pv.2.2
  rintro i x H' H'' hi pv ⟨T0, x1, x2, rfl, hT, rfl, g1, g2⟩
  obtain ⟨p1, p2, p3⟩ := pv
  have eT : Ex H' (upd H' T0 (.tup [x1, x2])) := Ex.new hT
  exact ⟨T0, _, rfl, st_of upd_same, rfl, _, _, rfl, _, _, rfl, rfl, hw _ _, cw_turn ⟨p1, p2.trans eT, eT _ _ p3⟩ (by omega) (ht i x1 x2 H1 (e.trans e1) g1 g2) (fun hf => he i x1 x2 H1 (e.trans e1) g1 g2 hf)⟩⟩
theorem dget_opt {H : Hp} {p : Addr} {rs : List (List Int)} {f : List Int → V} {x : V} {r : List Int} (hp : H p = some (.dT (dtab rs f))) (hx : IsRow H x r) : DGet H p x (if r ∈ rs then some (f r) else none) := by
  obtain ⟨b, e1, e2⟩ := hx.key
  subst e1
  have h := DGet.t hp e2
  rw [dtab_val] at h
  exact h
theorem ev_din {p : Addr} {rs : List (List Int)} {f : List Int → V} {r : List Int} (ha : Ev ta σ H (.ref p)) (hb : Ev tb σ H x) (hp : H p = some (.dT (dtab rs f))) (hx : IsRow H x r) : Ev (tDIn tb ta) σ H (.bl (decide (r ∈ rs))) := fun H1 e Q q =>
  hb H1 e _ fun H2 e2 => ha H2 (e.trans e2) _ fun H3 e3 => by
    have e13 := (e.trans e2).trans e3
    refine ⟨p, _, rfl, dget_opt (e13 _ _ hp) (hx.ex e13), ?_⟩
    have z : (if r ∈ rs then some (f r) else none).isSome = decide (r ∈ rs) := by
      by_cases h : r ∈ rs
      · rw [if_pos h, decide_eq_true h] <;> rfl
      · rw [if_neg h, decide_eq_false h] <;> rfl
    rw [z]
    exact q H3 (e2.trans e3)
theorem et_dnin {p : Addr} {rs : List (List Int)} {f : List Int → V} {r : List Int} (ha : Ev ta σ H (.ref p)) (hb : Ev tb σ H x) (hp : H p = some (.dT (dtab rs f))) (hx : IsRow H x r) : Ev (tDNotIn tb ta) σ H (.bl (!decide (r ∈ rs))) := fun H1 e Q q =>
  hb H1 e _ fun H2 e2 => ha H2 (e.trans e2) _ fun H3 e3 => by
    have e13 := (e.trans e2).trans e3
    refine ⟨p, _, rfl, dget_opt (e13 _ _ hp) (hx.ex e13), ?_⟩
    have z : (if r ∈ rs then some (f r) else none).isSome = decide (r ∈ rs) := by
      by_cases h : r ∈ rs
      · rw [if_pos h, decide_eq_true h] <;> rfl
      · rw [if_neg h, decide_eq_false h] <;> rfl
    rw [z]
    exact q H3 (e2.trans e3)
theorem given_true (n : Nat) : given n (fun _ => true) (fun _ => V.bl true) = (List.replicate n V.non).map fun _ => V.bl true := by
  unfold given
  rw [filter_true, List.map_replicate, List.map_const', List.length_range]
end
end Mv
/-! Two fors in a comprehension: [row for rows in lists for row in rows]. -/
namespace Mv
open PySem PySem.Spec PyProof.Rows L2 Evl
theorem wipe_two (σ : L2.St) (j : Nat) : wipe (wipe σ [j]) [j] = wipe σ [j] := by
  show ((σ.set j none).set j none) = σ.set j none
  rw [List.set_set]
theorem upd_self {H : Hp} {a : Addr} {o : HO} (h : H a = some o) : upd H a o = H := by
  funext b
  by_cases e : b = a
  · subst e
    rw [upd_same, h]
  · rw [upd_ne e]
section
variable {K : PySem.W.Frag} {σ : L2.St} {H H' : Hp} {ta tb tc te tl tx : TE} {t u : TT} {x y z v : V} {D : Ends}
def OfSeq (H : Hp) (x : V) (zs : List V) : Prop := ∃ b, x = .ref b ∧ Seq H b zs
theorem OfSeq.ex {zs : List V} (h : OfSeq H x zs) (e : Ex H H') : OfSeq H' x zs := let ⟨b, h1, h2⟩ := h; ⟨b, h1, h2.ex e⟩
theorem el_flat {a : Addr} {xs : List V} {zss : List (List V)} {j j1 : Nat} {vs : List Nat} (h : Ev tl σ H (.ref a)) (hx : Seq H a xs) (hp : Paired (OfSeq H) xs zss) (hz : zss.flatten.length ≤ 40000)
    (hw : ∀ x, wipe ((wipe σ vs).set j (some x)) vs = wipe σ vs)
    (hw1 : ∀ x y, wipe ((wipe ((wipe σ vs).set j (some x)) [j1]).set j1 (some y)) [j1] = wipe ((wipe σ vs).set j (some x)) [j1])
    (hw2 : ∀ x, wipe (wipe ((wipe σ vs).set j (some x)) [j1]) vs = wipe σ vs)
    (hv : ∀ x, ((wipe σ vs).set j (some x))[j]? = some (some x)) (hv1 : ∀ x y, ((wipe ((wipe σ vs).set j (some x)) [j1]).set j1 (some y))[j1]? = some (some y)) :
    EvL (tLc2 (iSeq K tl) (gName j) tYes (iSeq K (tVar j)) (gName j1) tYes (tVar j1) vs [j1]) σ H zss.flatten := by
  intro H0 e0 Q k
  let Pv : Hp → Addr → Nat → Hp → Prop := fun H1 Dl i H' => H1 Dl = none ∧ Ex H1 H' ∧ H' Dl = some (.lst (zss.take i).flatten)
  have fin : ∀ H1, Ex H0 H1 → ∀ Dl H', Pv H1 Dl xs.length H' → Q (.ref Dl) H' := by
    rintro H1 e1 Dl H' ⟨p1, p2, p3⟩
    rw [Paired.length hp, List.take_length] at p3
    exact k Dl H' (fresh_back e1 p1) (e1.trans p2) p3
  have step : ∀ H1, Ex H H1 → ∀ Dl (i : Nat) (x : V) H', xs[i]? = some x → Pv H1 Dl i H' →
      iSeq K (tVar j) ((wipe σ vs).set j (some x)) H' fun J1 H4 => ∃ W1 : Nat → Nat → Hp → Prop, (∃ m, W1 0 m H4) ∧ ∀ j2 k2 H, W1 j2 k2 H →
        (J1.stop j2 H ∧ Pv H1 Dl (i + 1) H) ∨ (J1.go j2 H ∧ ∃ Nx1 : Hp → Prop, (∀ H', Nx1 H' → ∃ k', k' < k2 ∧ W1 (j2 + 1) k' H') ∧ ∀ y H', J1.yld j2 H y H' → gName j1 y (wipe ((wipe σ vs).set j (some x)) [j1]) H' fun σ3 H5 => wipe σ3 [j1] = wipe ((wipe σ vs).set j (some x)) [j1] ∧ tYes σ3 H5 fun b H6 =>
          if b = true then tVar j1 σ3 H6 fun y H7 => ∃ acc, H7 Dl = some (.lst acc) ∧ acc.length < sizeLine ∧ Nx1 (upd H7 Dl (.lst (acc ++ [y]))) else Nx1 H6) := by
    rintro H1 e1 Dl i x H' hi ⟨p1, p2, p3⟩
    obtain ⟨zs, hzs, b, rfl, hb⟩ := Paired.at_l hp i x hi
    have hb' : Seq H' b zs := hb.ex (e1.trans p2)
    have et : (zss.take (i + 1)).flatten = (zss.take i).flatten ++ zs := by
      rw [take_next hzs, List.flatten_append, List.flatten_cons, List.flatten_nil, List.append_nil]
    let Pw : Nat → Hp → Prop := fun n H'' => Ex H1 H'' ∧ H'' Dl = some (.lst ((zss.take i).flatten ++ zs.take n))
    have hsz : ∀ n, ((zss.take i).flatten ++ zs.take n).length < sizeLine := fun n => by
      have hle : ((zss.take i).flatten ++ zs).length ≤ 40000 := by
        rw [← et]
        have : zss.flatten = (zss.take (i + 1)).flatten ++ (zss.drop (i + 1)).flatten := by rw [← List.flatten_append, List.take_append_drop]
        have hh := congrArg List.length this
        rw [List.length_append] at hh
        omega
      rw [List.length_append] at hle ⊢
      have : (zs.take n).length ≤ zs.length := by rw [List.length_take]; omega
      exact sz_lt (by omega)
    have h0 : Pw 0 (upd H' Dl (.lst (zss.take i).flatten)) := by
      rw [upd_self p3]
      exact ⟨p2, by rw [List.take_zero, List.append_nil]; exact p3⟩
    have turn : ∀ (n : Nat) (y : V) (H'' : Hp), zs[n]? = some y → Pw n H'' → gName j1 y (wipe ((wipe σ vs).set j (some (V.ref b))) [j1]) H'' fun σ2 H2 => wipe σ2 [j1] = wipe ((wipe σ vs).set j (some (V.ref b))) [j1] ∧ tYes σ2 H2 fun b H3 =>
        if b = true then (fun (_ : Addr) σ3 H6 (Nx1 : Hp → Prop) => tVar j1 σ3 H6 fun y H7 => ∃ acc, H7 Dl = some (.lst acc) ∧ acc.length < sizeLine ∧ Nx1 (upd H7 Dl (.lst (acc ++ [y])))) Dl σ2 H3 (Pw (n + 1)) else Pw (n + 1) H3 := by
      rintro n y H'' hy ⟨q1, q2⟩
      refine ⟨hw1 _ _, yes_go ⟨y, hv1 _ _, _, q2, hsz n, Ex.mut q1 p1, ?_⟩⟩
      rw [upd_same, take_next hy, List.append_assoc]
    have done : ∀ H'', Pw zs.length H'' → Pv H1 Dl (i + 1) H'' := by
      rintro H'' ⟨q1, q2⟩
      rw [List.take_length] at q2
      exact ⟨p1, q1, by rw [et]; exact q2⟩
    have nb : b ≠ Dl := fun z => by
      rcases hb.ex e1 with g | g <;> · rw [z, p1] at g; cases g
    rcases hb' with hb' | hb'
    · refine .inl ⟨.ref b, hv _, b, rfl, ⟨zs, sq_of hb'⟩, ?_⟩
      have z := cm_it (walk_list (K := K) (a := b) (xs := zs)) (g := gName j1) (tt := tYes) (tk := fun (_ : Addr) σ3 H6 (Nx1 : Hp → Prop) => tVar j1 σ3 H6 fun y H7 => ∃ acc, H7 Dl = some (.lst acc) ∧ acc.length < sizeLine ∧ Nx1 (upd H7 Dl (.lst (acc ++ [y])))) (vs := [j1]) (σ := (wipe ((wipe σ vs).set j (some (V.ref b))) [j1])) (H1 := H') (D := Dl) (ob := .lst (zss.take i).flatten) (Qd := Pv H1 Dl (i + 1)) Pw h0
        (fun n H'' _ q => by
          rcases hb.ex (e1.trans q.1) with g | g
          · exact sq_of g
          · have g1 := (hb.ex e1)
            rcases g1 with g1 | g1
            · exact sq_of (q.1 _ _ g1)
            · have := p2 _ _ g1
              rw [hb'] at this
              cases this) ?_ done
      · rw [upd_self p3, show wipe (wipe ((wipe σ vs).set j (some (V.ref b))) [j1]) [j1] = wipe ((wipe σ vs).set j (some (V.ref b))) [j1] from wipe_two _ _] at z
        exact z
      · rintro n y H'' H3 hn q ⟨rfl, hy⟩
        rw [show wipe (wipe ((wipe σ vs).set j (some (V.ref b))) [j1]) [j1] = wipe ((wipe σ vs).set j (some (V.ref b))) [j1] from wipe_two _ _]
        exact turn n y _ hy q
    · refine .inr ⟨.ref b, hv _, b, rfl, ⟨zs, st_of hb'⟩, ?_⟩
      have z := cm_it (walk_tup (K := K) (a := b) (xs := zs)) (g := gName j1) (tt := tYes) (tk := fun (_ : Addr) σ3 H6 (Nx1 : Hp → Prop) => tVar j1 σ3 H6 fun y H7 => ∃ acc, H7 Dl = some (.lst acc) ∧ acc.length < sizeLine ∧ Nx1 (upd H7 Dl (.lst (acc ++ [y])))) (vs := [j1]) (σ := (wipe ((wipe σ vs).set j (some (V.ref b))) [j1])) (H1 := H') (D := Dl) (ob := .lst (zss.take i).flatten) (Qd := Pv H1 Dl (i + 1)) Pw h0
        (fun n H'' _ q => by
          have g1 := (hb.ex e1)
          rcases g1 with g1 | g1
          · have := p2 _ _ g1
            rw [hb'] at this
            cases this
          · exact st_of (q.1 _ _ g1)) ?_ done
      · rw [upd_self p3, show wipe (wipe ((wipe σ vs).set j (some (V.ref b))) [j1]) [j1] = wipe ((wipe σ vs).set j (some (V.ref b))) [j1] from wipe_two _ _] at z
        exact z
      · rintro n y H'' H3 hn q ⟨rfl, hy⟩
        rw [show wipe (wipe ((wipe σ vs).set j (some (V.ref b))) [j1]) [j1] = wipe ((wipe σ vs).set j (some (V.ref b))) [j1] from wipe_two _ _]
        exact turn n y _ hy q
  rcases hx with hx | hx
  · refine .inl (h H0 e0 _ fun H1 e1 => ⟨a, rfl, ⟨xs, ex_l (e0.trans e1) (sq_of hx)⟩, fun Dl hD => ?_⟩)
    refine cm_it (walk_list (K := K) (a := a) (xs := xs)) (tk := fun (D : Addr) σ2 H3 (Nx : Hp → Prop) => iSeq K (tVar j) σ2 H3 fun J1 H4 => ∃ W1 : Nat → Nat → Hp → Prop, (∃ m, W1 0 m H4) ∧ ∀ j2 k2 H, W1 j2 k2 H →
        (J1.stop j2 H ∧ Nx H) ∨ (J1.go j2 H ∧ ∃ Nx1 : Hp → Prop, (∀ H', Nx1 H' → ∃ k', k' < k2 ∧ W1 (j2 + 1) k' H') ∧ ∀ y H', J1.yld j2 H y H' → gName j1 y (wipe σ2 [j1]) H' fun σ3 H5 => wipe σ3 [j1] = wipe σ2 [j1] ∧ tYes σ3 H5 fun b H6 =>
          if b = true then tVar j1 σ3 H6 fun y H7 => ∃ acc, H7 D = some (.lst acc) ∧ acc.length < sizeLine ∧ Nx1 (upd H7 D (.lst (acc ++ [y]))) else Nx1 H6)) (Pv H1 Dl) ⟨hD, Ex.new hD, upd_same⟩ (fun i H' _ q => ex_l ((e0.trans e1).trans q.2.1) (sq_of hx)) (fun i x H' H'' hi pv y => ?_) fun H' pv => fin H1 e1 Dl H' pv
    obtain ⟨rfl, hm⟩ := y
    exact ⟨hw x, yes_go (step H1 (e0.trans e1) Dl i x _ hm pv)⟩
  · refine .inr (h H0 e0 _ fun H1 e1 => ⟨a, rfl, ⟨xs, ex_t (e0.trans e1) (st_of hx)⟩, fun Dl hD => ?_⟩)
    refine cm_it (walk_tup (K := K) (a := a) (xs := xs)) (tk := fun (D : Addr) σ2 H3 (Nx : Hp → Prop) => iSeq K (tVar j) σ2 H3 fun J1 H4 => ∃ W1 : Nat → Nat → Hp → Prop, (∃ m, W1 0 m H4) ∧ ∀ j2 k2 H, W1 j2 k2 H →
        (J1.stop j2 H ∧ Nx H) ∨ (J1.go j2 H ∧ ∃ Nx1 : Hp → Prop, (∀ H', Nx1 H' → ∃ k', k' < k2 ∧ W1 (j2 + 1) k' H') ∧ ∀ y H', J1.yld j2 H y H' → gName j1 y (wipe σ2 [j1]) H' fun σ3 H5 => wipe σ3 [j1] = wipe σ2 [j1] ∧ tYes σ3 H5 fun b H6 =>
          if b = true then tVar j1 σ3 H6 fun y H7 => ∃ acc, H7 D = some (.lst acc) ∧ acc.length < sizeLine ∧ Nx1 (upd H7 D (.lst (acc ++ [y]))) else Nx1 H6)) (Pv H1 Dl) ⟨hD, Ex.new hD, upd_same⟩ (fun i H' _ q => ex_t ((e0.trans e1).trans q.2.1) (st_of hx)) (fun i x H' H'' hi pv y => ?_) fun H' pv => fin H1 e1 Dl H' pv
    obtain ⟨rfl, hm⟩ := y
    exact ⟨hw x, yes_go (step H1 (e0.trans e1) Dl i x _ hm pv)⟩
end
end Mv
/-! rises_in, check_papers. -/
namespace Mv
open PySem PySem.Spec PyProof.Rows L2 Evl
/-- sorted(xs) == sorted(ys) of the same rows is true -/
theorem ev_sortedEqP {K : PySem.W.Frag} {σ : L2.St} {H : Hp} {ta tb : TE} {n : Nat} {rs qs : List (List Int)} (ha : EvP ta σ H (fun x H2 => Rws H2 x rs)) (hb : EvP tb σ H (fun x H2 => Rws H2 x qs)) (ho : ∀ r ∈ rs, OkRow n r) (hq : ∀ r ∈ qs, OkRow n r) (h60 : rs.length < 64) (h61 : qs.length < 64) (pm : qs.Perm rs) :
    Ev (tOp (rEqD K) (tCB (rSortS K n 1000) (tCons ta tNil)) (tCB (rSortS K n 1000) (tCons tb tNil))) σ H (.bl true) := fun H1 e Q q =>
  ef_sortedP ha ho h60 H1 e _ fun p H2 _ e2 ⟨cs, xs, h1, h2, h3⟩ =>
    ef_sortedP hb hq h61 H2 (e.trans e2) _ fun p' H3 _ e3 ⟨ds, ys, g1, g2, g3⟩ => by
      have e0 : cs = ds := sorted_same h1 g1 ho pm
      subst e0
      refine ⟨.list (cs.map rd), .list (cs.map rd), .lst (sq_of (e3 _ _ h2)) (dp_rows (Paired.imp (fun _ _ z => z.ex e3) h3)), .lst (sq_of g2) (dp_rows g3), shaped_rows _, shaped_rows _, ?_⟩
      rw [SeqAt.eqv_refl _ (SeqAt.canLay_of_shaped (shaped_rows cs))]
      exact q H3 (e2.trans e3)
/-- the rows cs rise in L -/
def Rise (L cs : List (List Int)) : Prop := cs.Pairwise fun q r => L.idxOf q < L.idxOf r
theorem Rise.next {L cs : List (List Int)} (h : Rise L cs) {i : Nat} {q r : List Int} (h1 : cs[i]? = some q) (h2 : cs[i + 1]? = some r) : L.idxOf q < L.idxOf r := by
  obtain ⟨a, rfl⟩ := List.getElem?_eq_some_iff.mp h1
  obtain ⟨b, rfl⟩ := List.getElem?_eq_some_iff.mp h2
  exact List.pairwise_iff_getElem.mp h i (i + 1) a b (Nat.lt_succ_self i)
section
variable {P : Program} {w : World} {K : PySem.W.Frag} {mg : Str → Option Value} {base : Heap} {a : Nat → Addr} {d : Nat → FuncData} {tk : Nat → Tok}
def sp_rises_in : Sp := fun vs H Q _ => ∃ (x : V) (pd : Addr) (rs cs : List (List Int)) (n : Nat), vs = [x, .ref pd] ∧ Rws H x cs ∧ H pd = some (.dT (dtab rs (plc rs))) ∧ OkRows n rs ∧ (∀ r ∈ cs, r ∈ rs) ∧ cs.length ≤ 100 ∧ Rise rs cs ∧ RetV (.bl true) H Q
theorem ok_rises_in (T : All K mg a d tk) : FnOk P w K mg base CX0 4 (a 12) (d 12) ["rows", "place_of"] sp_rises_in := by
  refine T.F_rises_in.fn.ok sc_rises_in (fun vs H Q E h => ?_) (fun cdv A outer s H vs Q E hr h => ?_)
  · obtain ⟨x, pd, rs, cs, n, rfl, _⟩ := h
    rfl
  · obtain ⟨x, pd, rs, cs, n, rfl, hx, hpd, ho, hc, hl, hri, k⟩ := h
    have nd := sc_rises_in.nd
    have hu := hu_of hr
    refine ⟨_, (pss_cons (ps_if (PW.pt (pw_or (pt_not (pt_val (pe_call (ok_is_list T) (hr.mono (by decide)) rfl T.F_is_list.m T.F_is_list.kp T.F_is_list.b .nil pass0 (pa_cons (pv 0) pa_nil)))) (pw_or1 (pt_not (pt_val (pe_callB (cr_all rfl) (by rfl) T.n_all PyProof.Rows.boot_all (pa_cons (pe_lc (own := [("row", 3)]) (g := (gName 3)) rfl nd (pi_seq (pv 0)) (blkOk_by (N := N_rises_in) (sc := defScope s_rises_in) (by decide +kernel)) (fun _ _ _ _ _ => (pg_name (i := 3) nd rfl (Or.inl rfl))) (fun _ _ _ _ _ => pts_nil) (fun _ _ _ _ _ => (pe_and (pe_call (ok_is_any_row T) (hr.mono (by decide)) rfl T.F_is_any_row.m T.F_is_any_row.kp T.F_is_any_row.b .nil pass0 (pa_cons (pv 3) pa_nil)) (pe_one (pe_cmp (pc_din hu (pv 3) (pv 1))))))) pa_nil)))))))
 (pss_one (ps_ret pe_bl))
 pss_nil)
 (pss_cons (ps_setLc (i := 2) (own := [("row", 3)]) (g := (gName 3)) rfl nd rfl rfl (sw_true rfl rfl rfl (by decide +kernel)) (pi_seq (pv 0)) (blkOk_by (N := N_rises_in) (sc := defScope s_rises_in) (by decide +kernel)) (fun _ _ _ _ _ => (pg_name (i := 3) nd rfl (Or.inl rfl))) (fun _ _ _ _ _ => pts_nil) (fun _ _ _ _ _ => (pe_dget hu (pv 1) (pv 3) (fun _ _ => rfl))))
 (pss_one (ps_ret (pe_callB (cr_all rfl) (by rfl) T.n_all PyProof.Rows.boot_all (pa_cons (pe_lc (own := [("place", 4), ("later", 5)]) (g := (gTup K 2 (gCons (gName 4) (gCons (gName 5) gNil)))) rfl nd (pi_zip rfl T.n_zip (pa_cons (pv 2) (pa_cons (pe_slice sl_list (pv 2) (po_some pe_int) po_none) pa_nil))) (blkOk_by (N := N_rises_in) (sc := defScope s_rises_in) (by decide +kernel)) (fun _ _ _ _ _ => (pg_tup rfl (pgs_cons (pg_name (i := 4) nd rfl (Or.inl rfl)) (pgs_cons (pg_name (i := 5) nd rfl (Or.inl rfl)) pgs_nil)))) (fun _ _ _ _ _ => pts_nil) (fun _ _ _ _ _ => (pe_cmpR op_lt (pv 4) (pv 5) (nomark _)))) pa_nil)))))), ?_⟩
    obtain ⟨f, xs, rfl, hs, hp⟩ := id hx
    have hlen : xs.length = cs.length := Paired.length hp
    refine q_when (b := false) (et_is (et_or (et_not (et_B (ev_call (ea_cons (ev_var rfl) ea_nil) (spv_is_list hs)))) fun _ => et_not (et_B (ev_allT (el_lcSm (fun _ => .bl true) (ev_var rfl) hs (by omega) (fun _ => rfl) fun y H2 e2 hy => ?_)))) rfl) (fun h => nomatch h) fun _ H1 e1 => ?_
    · obtain ⟨r, hr, h⟩ := Paired.mem_l hp y hy
      refine ev_is (ev_andV (ev_call (ea_cons (ev_var rfl) ea_nil) (spv_is_any_row (h.ex e2) (ho.row r (hc r hr)) ho.w1 ho.w5)) fun _ => ev_din (ev_var rfl) (ev_var rfl) (e2 _ _ hpd) (h.ex e2)) ?_
      rw [decide_eq_true (hc r hr)] <;> rfl
    · refine q_asgL (el_lcSo (out := cs.map (plc rs)) (ev_var rfl) (hs.ex e1) (by omega) (by rw [List.length_map, hlen]) (fun _ => rfl) fun i x y H2 e2 hi ho2 => ?_) fun pl H2 npl e2 hpl => ?_
      · obtain ⟨r, hr, h⟩ := Paired.at_l hp i x hi
        rw [List.getElem?_map, hr] at ho2
        cases ho2
        exact ev_dget (ev_var rfl) (ev_var rfl) ((e1.trans e2) _ _ hpd) (h.ex (e1.trans e2)) (hc r (List.mem_of_getElem? hr))
      · have c1 := el_sl (K := K) (σ := [some (V.ref f), some (.ref pd), some (.ref pl), none, none, none]) (H := H2) (te := tVar 2) (ev_var rfl) (eo_some (i := 1) ev_c) eo_none (sq_of hpl)
        have e12 := e1.trans e2
        have ld : (cutV (cs.map (plc rs)) (some 1) none) = (cs.map (plc rs)).drop 1 ∨ cs = [] := by
          cases cs with
          | nil => exact .inr rfl
          | cons c cs => exact .inl (cutV_from _ 1 (by rw [List.length_map, List.length_cons]; omega))
        refine s_ret (ev_is (ev_allT (xs := List.replicate (min (cs.map (plc rs)).length (cutV (cs.map (plc rs)) (some 1) none).length) .non) (by
          rw [← given_true]
          exact el_lcZ1 (fun _ => true) (fun _ => .bl true) (ev_var rfl) c1 (sq_of hpl) rfl (by rw [List.length_map]; have := Nat.min_le_left cs.length (cutV (cs.map (plc rs)) (some 1) none).length; omega) (fun _ _ => rfl) (fun _ _ _ _ _ _ _ => et_yes) fun i x y H3 e3 g1 g2 _ => by
            rcases ld with ld | ld
            · rw [ld, List.getElem?_drop] at g2
              rw [List.getElem?_map] at g1 g2
              obtain ⟨q, hq, rfl⟩ := Option.map_eq_some_iff.mp g1
              obtain ⟨r, hr, rfl⟩ := Option.map_eq_some_iff.mp g2
              have z := hri.next hq (show cs[i + 1]? = some r by rw [Nat.add_comm i 1]; exact hr)
              refine ev_is (ev_I0 (ev_var rfl) (ev_var rfl)) ?_
              show V.bl (decide ((rs.idxOf q : Int) < (rs.idxOf r : Int))) = V.bl true
              rw [decide_eq_true (by omega)]
            · subst ld
              simp at g1)) rfl) fun H3 e3 => k H3 (e12.trans e3)
theorem spv_rises_in {x : V} {pd : Addr} {rs cs : List (List Int)} {n : Nat} {H : Hp} (hx : Rws H x cs) (hpd : H pd = some (.dT (dtab rs (plc rs)))) (ho : OkRows n rs) (hc : ∀ r ∈ cs, r ∈ rs) (hl : cs.length ≤ 100) (hr : Rise rs cs) : SpV sp_rises_in [x, .ref pd] H (.bl true) := fun H1 e Q q _ => ⟨x, pd, rs, cs, n, rfl, hx.ex e, e _ _ hpd, ho, hc, hl, hr, q⟩
/-- lists that fall: each rises in rs, and reversed in qs -/
structure FallsOk (rs qs : List (List Int)) (Ls : List (List (List Int))) : Prop where
  ne : ∀ L ∈ Ls, L ≠ []
  up : ∀ L ∈ Ls, Rise rs L
  dn : ∀ L ∈ Ls, Rise qs L.reverse
  pm : Ls.flatten.Perm rs
theorem FallsOk.mem {rs qs : List (List Int)} {Ls : List (List (List Int))} (h : FallsOk rs qs Ls) {L : List (List Int)} (hL : L ∈ Ls) {r : List Int} (hr : r ∈ L) : r ∈ rs := h.pm.mem_iff.mp (List.mem_flatten.mpr ⟨L, hL, hr⟩)
theorem len_flat {α : Type} : ∀ {Ls : List (List α)} {L : List α}, L ∈ Ls → L.length ≤ Ls.flatten.length
  | [], _, h => absurd h (by simp)
  | A :: Ls, L, h => by
    rw [List.flatten_cons, List.length_append]
    rcases List.mem_cons.mp h with e | h
    · subst e; omega
    · have := len_flat h; omega
theorem FallsOk.len {rs qs : List (List Int)} {Ls : List (List (List Int))} (h : FallsOk rs qs Ls) {L : List (List Int)} (hL : L ∈ Ls) : L.length ≤ rs.length := by
  rw [← h.pm.length_eq]
  exact len_flat hL
theorem lss_flat {H : Hp} : ∀ {xs : List V} {Ls : List (List (List Int))}, Paired (Rws H) xs Ls → ∃ zss : List (List V), Paired (OfSeq H) xs zss ∧ Paired (IsRow H) zss.flatten Ls.flatten
  | _, _, .nil => ⟨[], .nil, .nil⟩
  | _, _, .cons ⟨b, zs, e, h, hp⟩ t => by
    obtain ⟨zss, h1, h2⟩ := lss_flat t
    exact ⟨zs :: zss, .cons ⟨b, e, h⟩ h1, by rw [List.flatten_cons, List.flatten_cons]; exact Paired.append hp h2⟩
def sp_check_papers : Sp := fun vs H Q _ => ∃ (x y s l : V) (rs qs ds : List (List Int)) (Ls : List (List (List Int))) (n : Nat), vs = [x, y, s, l] ∧ Rws H x rs ∧ Rws H y qs ∧ OkRows n rs ∧ qs.Perm rs ∧ Rws H s ds ∧ (∀ r ∈ ds, r ∈ rs) ∧ Rise rs ds ∧ Rise qs ds ∧
  Lss H l Ls ∧ FallsOk rs qs Ls ∧ Ls.length = ds.length ∧ RetV (.bl true) H Q
theorem Rise.nodup {L cs : List (List Int)} (h : Rise L cs) : cs.Nodup := List.Pairwise.imp (fun h e => by rw [e] at h; exact Nat.lt_irrefl _ h) h
theorem sub_len {rs ds : List (List Int)} (nd : ds.Nodup) (h : ∀ r ∈ ds, r ∈ rs) : ds.length ≤ rs.length := nodup_len ds rs nd h
theorem ok_check_papers (T : All K mg a d tk) : FnOk P w K mg base CX0 7 (a 13) (d 13) ["one", "other", "staying", "lists"] sp_check_papers := by
  refine T.F_check_papers.fn.ok sc_check_papers (fun vs H Q E h => ?_) (fun cdv A outer s H vs Q E hr h => ?_)
  · obtain ⟨x, y, s, l, rs, qs, ds, Ls, n, rfl, _⟩ := h
    rfl
  · obtain ⟨x, y, s, l, rs, qs, ds, Ls, dd, rfl, hx, hy, ho, pm, hs, hd, r1, r2, hl, fo, el, k⟩ := h
    have nd := sc_check_papers.nd
    have hu := hu_of hr
    have hu64 := hr.units
    have hdd := ho.w1
    have oq := ho.perm pm
    have h60 := ho.few
    have ld : ds.length ≤ rs.length := sub_len r1.nodup hd
    refine ⟨_, (pss_cons (ps_expr (pe_call (ok_need_pair T) (hr.mono (by decide)) rfl T.F_need_pair.m T.F_need_pair.kp T.F_need_pair.b .nil pass0 (pa_cons (pv 0) (pa_cons (pv 1) pa_nil))))
 (pss_cons (ps_par (i := 4) (j := 5) rfl nd rfl rfl (by decide) rfl rfl (pa_cons (pe_call (ok_places_of T) (hr.mono (by decide)) rfl T.F_places_of.m T.F_places_of.kp T.F_places_of.b .nil pass0 (pa_cons (pv 0) pa_nil)) (pa_cons (pe_call (ok_places_of T) (hr.mono (by decide)) rfl T.F_places_of.m T.F_places_of.kp T.F_places_of.b .nil pass0 (pa_cons (pv 1) pa_nil)) pa_nil)) (by rfl))
 (pss_cons (ps_if (PW.pt (pw_or (pt_not (pt_val (pe_call (ok_rises_in T) (hr.mono (by decide)) rfl T.F_rises_in.m T.F_rises_in.kp T.F_rises_in.b .nil pass0 (pa_cons (pv 2) (pa_cons (pv 4) pa_nil))))) (pw_or1 (pt_not (pt_val (pe_call (ok_rises_in T) (hr.mono (by decide)) rfl T.F_rises_in.m T.F_rises_in.kp T.F_rises_in.b .nil pass0 (pa_cons (pv 2) (pa_cons (pv 5) pa_nil))))))))
 (pss_one (ps_ret pe_bl))
 pss_nil)
 (pss_cons (ps_if (PW.pt (pw_or (pt_not (pt_val (pe_call (ok_is_list T) (hr.mono (by decide)) rfl T.F_is_list.m T.F_is_list.kp T.F_is_list.b .nil pass0 (pa_cons (pv 3) pa_nil)))) (pw_or1 (pt_cmpR op_ne (pe_callB call_len_seq (by rfl) T.n_len PySem.boot_len (pa_cons (pv 3) pa_nil)) (pe_callB call_len_seq (by rfl) T.n_len PySem.boot_len (pa_cons (pv 2) pa_nil)) (nomark _)))))
 (pss_one (ps_ret pe_bl))
 pss_nil)
 (pss_cons (ps_for PassesOwn.never rfl (pi_seq (pv 3)) (pg_name (i := 6) nd rfl (Or.inl rfl))
 (pss_one (ps_if (PW.pt (pw_or (pt_not (pt_val (pe_call (ok_rises_in T) (hr.mono (by decide)) rfl T.F_rises_in.m T.F_rises_in.kp T.F_rises_in.b .nil pass0 (pa_cons (pv 6) (pa_cons (pv 4) pa_nil))))) (pw_or (pt_cmpR op_eq (pe_callB call_len_seq (by rfl) T.n_len PySem.boot_len (pa_cons (pv 6) pa_nil)) pe_int (nomark _)) (pw_or1 (pt_not (pt_val (pe_call (ok_rises_in T) (hr.mono (by decide)) rfl T.F_rises_in.m T.F_rises_in.kp T.F_rises_in.b .nil pass0 (pa_cons (pe_revS (pv 6)) (pa_cons (pv 5) pa_nil)))))))))
 (pss_one (ps_ret pe_bl))
 pss_nil)))
 (pss_one (ps_ret (pe_cmpR (op_eqD hu64) (pe_callB (cr_sortS (d := dd) (B := 1000) hdd) (by rfl) T.n_sorted PyProof.Rows.boot_sorted (pa_cons (pe_lc2 (own := [("rows", 6), ("row", 7)]) (vs1 := [7]) (g := (gName 6)) (g1 := (gName 7)) rfl nd (pi_seq (pv 3)) (blkOk_by (N := N_check_papers) (sc := defScope s_check_papers) (by decide +kernel)) (by decide) (fun _ _ _ _ _ => (pg_name (i := 6) nd rfl (Or.inl rfl))) (fun _ _ _ _ _ => pts_nil) (fun _ _ _ _ _ => (pi_seqK (K := K) rfl (pv 6))) (fun _ _ _ _ _ => (pg_name (i := 7) nd rfl (Or.inl rfl))) (fun _ _ _ _ _ => pts_nil) (fun _ _ _ _ _ => (pv 7))) pa_nil)) (pe_callB (cr_sortS (d := dd) (B := 1000) hdd) (by rfl) T.n_sorted PyProof.Rows.boot_sorted (pa_cons (pv 0) pa_nil)) (nomark _))))))))), ?_⟩
    refine q_drop (ev_call (ea_cons (ev_var rfl) (ea_cons (ev_var rfl) ea_nil)) (spv_need_pair hx hy ho pm)) fun H1 e1 => ?_
    refine ⟨_, rfl, x, rs, rfl, hx.ex e1, ho.nd, ho.few, fun p1 H2 np1 e2 hp1 => ?_⟩
    refine ⟨_, rfl, y, qs, rfl, hy.ex (e1.trans e2), oq.nd, oq.few, fun p2 H3 np2 e3 hp2 => ⟨_, _, rfl, ?_⟩⟩
    have e13 := (e1.trans e2).trans e3
    have hp1 := e3 _ _ hp1
    have hdq : ∀ r ∈ ds, r ∈ qs := fun r hr => pm.mem_iff.mpr (hd r hr)
    refine q_when (b := false) (et_is (et_or (et_not (et_B (ev_call (ea_cons (ev_var rfl) (ea_cons (ev_var rfl) ea_nil)) (spv_rises_in (hs.ex e13) hp1 ho hd (by omega) r1)))) fun _ => et_not (et_B (ev_call (ea_cons (ev_var rfl) (ea_cons (ev_var rfl) ea_nil)) (spv_rises_in (hs.ex e13) hp2 oq hdq (by omega) r2)))) rfl) (fun h => nomatch h) fun _ H4 e4 => ?_
    obtain ⟨lb, ls, rfl, hls, hlp⟩ := id hl
    obtain ⟨sb, ss, rfl, hss, hsp⟩ := id hs
    have e14 := e13.trans e4
    refine q_when (b := false) (et_is (et_or (et_not (et_B (ev_call (ea_cons (ev_var rfl) ea_nil) (spv_is_list (hls.ex e14))))) fun _ => et_test (ev_op (ev_lenS (ev_var rfl) (hls.ex e14)) (ev_lenS (ev_var rfl) (hss.ex e14)) (rv_ne rfl))) ?_) (fun h => nomatch h) fun _ H5 e5 => ?_
    · have z : ls.length = ss.length := by rw [Paired.length hlp, Paired.length hsp, el]
      rw [z, decide_eq_true rfl] <;> rfl
    have e15 := e14.trans e5
    let Pv : Nat → L2.St → Hp → Prop := fun i σ' H' => Ex H5 H' ∧ ∃ v6, σ' = [some x, some y, some (.ref sb), some (.ref lb), some (.ref p1), some (.ref p2), v6, none]
    refine q_forS (a := lb) (xs := ls) (ev_var rfl) (hls.ex e15) Pv (fun H6 e6 => ⟨e6, _, rfl⟩) (fun i σ' H' _ h => hls.elim (fun z => ((e15.trans h.1) _ _ z).trans (e15 _ _ z).symm) fun z => ((e15.trans h.1) _ _ z).trans (e15 _ _ z).symm) ?_ ?_
    · rintro i z σ' H' hi ⟨e6, v6, rfl⟩
      obtain ⟨L, hL, hz⟩ := Paired.at_l hlp i z hi
      have mL := List.mem_of_getElem? hL
      have lL := fo.len mL
      have hz' := hz.ex (e15.trans e6)
      obtain ⟨zb, zs, rfl, hzb, hzp⟩ := id hz'
      have e56 := (e4.trans e5).trans e6
      refine s_when (b := false) (et_is (et_or (et_not (et_B (ev_call (ea_cons (ev_var rfl) (ea_cons (ev_var rfl) ea_nil)) (spv_rises_in hz' (e56 _ _ hp1) ho (fun r hr => fo.mem mL hr) (by omega) (fo.up L mL))))) fun _ => et_or (et_test (ev_op (ev_lenS (ev_var rfl) hzb) ev_c (rv_eq rfl))) fun _ => et_not (a := true) ?_) ?_) (fun h => nomatch h) fun _ H7 e7 => ⟨e6.trans e7, _, rfl⟩
      · refine et_B fun H7 e7 Q q => ?_
        refine (es_rev (K := K) (te := tVar 6) (σ := [some x, some y, some (.ref sb), some (.ref lb), some (.ref p1), some (.ref p2), some (.ref zb), none]) (ev_var rfl) hzb) H7 e7 _ fun rb H8 nrb e8 hrb => ?_
        have e78 := e7.trans e8
        refine ⟨.ref p2, rfl, ?_⟩
        exact ⟨_, p2, qs, L.reverse, dd, rfl, ⟨rb, _, rfl, hrb, Paired.rev (Paired.imp (fun _ _ h => h.ex e78) hzp)⟩, (e56.trans e78) _ _ hp2, oq, fun r hr => pm.mem_iff.mpr (fo.mem mL (List.mem_reverse.mp hr)), by rw [List.length_reverse]; omega, fo.dn L mL, fun H9 e9 => q H9 (e8.trans e9)⟩
      · have hne := fo.ne L mL
        have : zs.length ≠ 0 := fun z => by
          rw [Paired.length hzp] at z
          exact hne (List.length_eq_zero_iff.mp z)
        rw [decide_eq_false (fun z : V.int (zs.length : Int) = V.int 0 => by injection z with z; omega)] <;> rfl
    · rintro σ' H' ⟨e6, v6, rfl⟩
      have e16 := e15.trans e6
      obtain ⟨zss, z1, z2⟩ := lss_flat hlp
      have lz : zss.flatten.length = rs.length := by rw [Paired.length z2, fo.pm.length_eq]
      have c1 := el_flat (K := K) (σ := [some x, some y, some (.ref sb), some (.ref lb), some (.ref p1), some (.ref p2), v6, none]) (H := H') (tl := tVar 3) (j := 6) (j1 := 7) (vs := [6, 7]) (ev_var rfl) (hls.ex e16) (Paired.imp (fun _ _ h => h.ex e16) z1) (by omega) (fun _ => rfl) (fun _ _ => rfl) (fun _ => rfl) (fun _ => rfl) (fun _ _ => rfl)
      have c2 : EvP (tLc2 (iSeq K (tVar 3)) (gName 6) tYes (iSeq K (tVar 6)) (gName 7) tYes (tVar 7) [6, 7] [7]) [some x, some y, some (.ref sb), some (.ref lb), some (.ref p1), some (.ref p2), v6, none] H' (fun v H2 => Rws H2 v Ls.flatten) := fun H7 e7 Q q =>
        c1 H7 e7 _ fun p H8 np e8 h8 => q _ H8 e8 ⟨p, _, rfl, .inl h8, Paired.imp (fun _ _ h => h.ex (e16.trans (e7.trans e8))) z2⟩
      have oF : ∀ r ∈ Ls.flatten, OkRow dd r := fun r hr => ho.row r (fo.pm.mem_iff.mp hr)
      have c3 : EvP (tVar 0) [some x, some y, some (.ref sb), some (.ref lb), some (.ref p1), some (.ref p2), v6, none] H' (fun v H2 => Rws H2 v rs) := fun H7 e7 Q q => ⟨x, rfl, q x H7 (Ex.refl _) (hx.ex (e16.trans e7))⟩
      exact s_ret (ev_sortedEqP c2 c3 oF ho.row (by rw [fo.pm.length_eq]; omega) (by omega) fo.pm.symm) fun H9 e9 => k H9 (e16.trans e9)
end
end Mv
/-! Moves and chains: the plain mathematics. -/
namespace Mv
open PySem PySem.Spec PyProof.Rows L2 Evl
abbrev Row := List Int
theorem Rise.append {L cs : List (List Int)} {r : List Int} (h : Rise L cs) (hr : ∀ q ∈ cs, L.idxOf q < L.idxOf r) : Rise L (cs ++ [r]) := by
  refine List.pairwise_append.mpr ⟨h, List.pairwise_singleton _ _, fun q hq z hz => ?_⟩
  rw [List.mem_singleton.mp hz]
  exact hr q hq
theorem Rise.self {L : List (List Int)} (nd : L.Nodup) : Rise L L := by
  refine List.pairwise_iff_getElem.mpr fun i j hi hj hij => ?_
  rw [idxOf_at nd (List.getElem?_eq_getElem hi), idxOf_at nd (List.getElem?_eq_getElem hj)]
  exact hij
theorem Rise.sub {L cs ds : List (List Int)} (h : Rise L cs) (s : ds.Sublist cs) : Rise L ds := List.Pairwise.sublist s h
theorem rise_eq {L cs ds : List (List Int)} (h1 : Rise L cs) (h2 : Rise L ds) (pm : cs.Perm ds) : cs = ds := by
  refine List.Perm.eq_of_pairwise (le := fun q r => L.idxOf q < L.idxOf r) (fun q r _ _ a b => absurd (Nat.lt_trans a b) (Nat.lt_irrefl _)) h1 h2 pm
theorem nodup_filter {l : List (List Int)} (f : List Int → Bool) (nd : l.Nodup) : (l.filter f).Nodup := nd.filter f
theorem perm_of_mem {a b : List (List Int)} (ha : a.Nodup) (hb : b.Nodup) (h : ∀ r, r ∈ a ↔ r ∈ b) : a.Perm b := (List.perm_ext_iff_of_nodup ha hb).mpr h
/-- the rows of a chain are what is left of the list -/
theorem rise_filter {L ds : List (List Int)} (nd : L.Nodup) (h : Rise L ds) (hd : ∀ r ∈ ds, r ∈ L) : L.filter (fun q => decide (q ∈ ds)) = ds := by
  refine rise_eq ((Rise.self nd).sub List.filter_sublist) h (perm_of_mem (nd.filter _) h.nodup fun r => ?_)
  rw [List.mem_filter]
  exact ⟨fun z => of_decide_eq_true z.2, fun z => ⟨hd r z, decide_eq_true z⟩⟩
theorem split_at {α : Type} {q : α} : ∀ {A B X Y : List α}, A ++ q :: B = X ++ q :: Y → q ∉ A → q ∉ X → A = X ∧ B = Y
  | [], B, [], Y, h, _, _ => ⟨rfl, by simpa using h⟩
  | [], B, x :: X, Y, h, _, hx => by
    rw [List.nil_append, List.cons_append, List.cons.injEq] at h
    exact absurd (h.1 ▸ List.mem_cons_self) hx
  | a :: A, B, [], Y, h, ha, _ => by
    rw [List.nil_append, List.cons_append, List.cons.injEq] at h
    exact absurd (h.1 ▸ List.mem_cons_self) ha
  | a :: A, B, x :: X, Y, h, ha, hx => by
    rw [List.cons_append, List.cons_append, List.cons.injEq] at h
    obtain ⟨e, h⟩ := h
    obtain ⟨z1, z2⟩ := split_at h (fun z => ha (List.mem_cons_of_mem _ z)) (fun z => hx (List.mem_cons_of_mem _ z))
    exact ⟨by rw [e, z1], z2⟩
def orR (F : Row → Bool) (r : Row) : Row → Bool := fun q => F q || decide (q = r)
theorem filter_or {F : Row → Bool} {r : Row} {l : List Row} (h : r ∉ l) : l.filter (orR F r) = l.filter F := by
  refine List.filter_congr fun q hq => ?_
  have : q ≠ r := fun e => h (e ▸ hq)
  simp [orR, this]
theorem drp_filter {F : Row → Bool} {r : Row} (rs : List Row) (h : F r = false) : (drp rs r).filter F = rs.filter F := by
  unfold drp
  rw [List.filter_filter]
  refine List.filter_congr fun q hq => ?_
  by_cases e : q = r
  · subst e; simp [h]
  · simp [e]
theorem drp_nin (rs : List Row) (r : Row) : r ∉ drp rs r := fun h => (drp_mem.mp h).2 rfl
/-- behind whom r comes -/
def beh (qs : List Row) (F : Row → Bool) (r : Row) : Option Row := ((qs.take (qs.idxOf r)).filter F).getLast?
theorem qs_split {qs : List Row} {r : Row} (hr : r ∈ qs) : qs = qs.take (qs.idxOf r) ++ r :: qs.drop (qs.idxOf r + 1) := by
  have hlt := List.idxOf_lt_length_iff.mpr hr
  have e : qs.drop (qs.idxOf r) = r :: qs.drop (qs.idxOf r + 1) := by
    rw [List.drop_eq_getElem_cons hlt, List.getElem_idxOf]
  rw [← e, List.take_append_drop]
theorem done_step {qs here : List Row} {F : Row → Bool} {r : Row} (nq : qs.Nodup) (pm : here.Perm qs) (hF : here.filter F = qs.filter F) (hr : r ∈ qs) (hf : F r = false) :
    ∃ l, done here r (beh qs F r) = some l ∧ l.filter (orR F r) = qs.filter (orR F r) := by
  have nh : here.Nodup := pm.nodup_iff.mpr nq
  have hq := qs_split hr
  generalize hA : qs.take (qs.idxOf r) = pre at hq
  generalize hB : qs.drop (qs.idxOf r + 1) = post at hq
  have nn := nq
  rw [hq] at nn
  have rpre : r ∉ pre := fun z => by
    have := (List.nodup_append.mp nn).2.2 r z r List.mem_cons_self
    exact this rfl
  have rpost : r ∉ post := fun z => (List.nodup_cons.mp (List.nodup_append.mp nn).2.1).1 z
  have fq : qs.filter F = pre.filter F ++ post.filter F := by
    rw [hq, List.filter_append, List.filter_cons, hf] <;> rfl
  have fq' : qs.filter (orR F r) = pre.filter F ++ r :: post.filter F := by
    have z : orR F r r = true := by simp [orR]
    rw [hq, List.filter_append, List.filter_cons, z, filter_or rpre, filter_or rpost] <;> rfl
  have hl : (drp here r).filter F = pre.filter F ++ post.filter F := by rw [drp_filter _ hf, hF, fq]
  have rl := drp_nin here r
  have memr : r ∈ here := pm.mem_iff.mpr hr
  have zr : orR F r r = true := by simp [orR]
  have eb : beh qs F r = (pre.filter F).getLast? := by unfold beh; rw [hA]
  rw [eb]
  cases hp : (pre.filter F).getLast? with
  | none =>
    have z : pre.filter F = [] := List.getLast?_eq_none_iff.mp hp
    refine ⟨_, done_eq ⟨memr, nofun, rfl⟩, ?_⟩
    show (List.take 0 (drp here r) ++ r :: List.drop 0 (drp here r)).filter (orR F r) = _
    rw [List.take_zero, List.drop_zero, List.nil_append, List.filter_cons, zr, filter_or rl, fq', hl, z] <;> rfl
  | some q =>
    obtain ⟨A, eA⟩ := List.getLast?_eq_some_iff.mp hp
    have fq1 : q ∈ pre.filter F := by rw [eA]; exact List.mem_append_right _ List.mem_cons_self
    have hqF : F q = true := (List.mem_filter.mp fq1).2
    have nqr : q ≠ r := fun e => by rw [e, hf] at hqF; cases hqF
    have ql : q ∈ (drp here r).filter F := by rw [hl]; exact List.mem_append_left _ fq1
    have ql' : q ∈ drp here r := (List.mem_filter.mp ql).1
    have qh : q ∈ here := (drp_mem.mp ql').1
    refine ⟨_, done_eq ⟨memr, fun e => nqr (Option.some.inj e), decide_eq_true qh⟩, ?_⟩
    have hs := qs_split ql'
    generalize hL : drp here r = left at hs hl rl ql'
    show (List.take (left.idxOf q + 1) left ++ r :: List.drop (left.idxOf q + 1) left).filter (orR F r) = _
    have nl : left.Nodup := by rw [← hL]; exact nh.filter _
    generalize hX : left.take (left.idxOf q) = X at hs
    generalize hY : left.drop (left.idxOf q + 1) = Y at hs
    have hlt := List.idxOf_lt_length_iff.mpr ql'
    have et : left.take (left.idxOf q + 1) = X ++ [q] := by
      rw [← hX]
      have := take_next (l := left) (by rw [List.getElem?_eq_getElem hlt, List.getElem_idxOf])
      exact this
    have fl : left.filter F = X.filter F ++ q :: Y.filter F := by
      conv => lhs; rw [hs]
      rw [List.filter_append, List.filter_cons, hqF] <;> rfl
    have nX : q ∉ X := fun z => by
      rw [hs] at nl
      exact (List.nodup_append.mp nl).2.2 q z q List.mem_cons_self rfl
    have nA : q ∉ A := fun z => by
      have n2 : (pre.filter F).Nodup := ((List.nodup_append.mp nn).1).filter _
      rw [eA] at n2
      exact (List.nodup_append.mp n2).2.2 q z q List.mem_cons_self rfl
    have e0 : A ++ q :: post.filter F = X.filter F ++ q :: Y.filter F := by
      rw [← fl, hl, eA, List.append_assoc] <;> rfl
    obtain ⟨eX, eY⟩ := split_at e0 nA fun z => nX (List.mem_filter.mp z).1
    have rX : r ∉ X ++ [q] := fun z => rl (by rw [← et] at z; exact List.mem_of_mem_take z)
    have rY : r ∉ Y := fun z => rl (by rw [← hY] at z; exact List.mem_of_mem_drop z)
    rw [et, List.filter_append, List.filter_cons, zr, filter_or rX, filter_or rY, fq', List.filter_append, ← eX, ← eY, eA]
    rw [List.filter_cons, hqF] <;> rfl
/-- the rows of F stand as in qs -/
def LedInv (rs qs : List Row) (F : Row → Bool) (ms : List Move) : Prop := ∃ here, led rs ms = some here ∧ here.filter F = qs.filter F
theorem LedInv.start {rs qs ds : List Row} (nr : rs.Nodup) (nq : qs.Nodup) (h1 : Rise rs ds) (h2 : Rise qs ds) (s1 : ∀ r ∈ ds, r ∈ rs) (s2 : ∀ r ∈ ds, r ∈ qs) : LedInv rs qs (fun q => decide (q ∈ ds)) [] :=
  ⟨rs, rfl, by rw [rise_filter nr h1 s1, rise_filter nq h2 s2]⟩
theorem LedInv.step {rs qs : List Row} {F : Row → Bool} {ms : List Move} {r : Row} (h : LedInv rs qs F ms) (nr : rs.Nodup) (pm : qs.Perm rs) (hr : r ∈ qs) (hf : F r = false) : LedInv rs qs (orR F r) (ms ++ [(r, beh qs F r)]) := by
  obtain ⟨here, h1, h2⟩ := h
  have ph := led_perm nr ms here h1
  obtain ⟨l, g1, g2⟩ := done_step (pm.nodup_iff.mpr nr) (ph.trans pm.symm) h2 hr hf
  exact ⟨l, by rw [led_snoc, h1]; exact g1, g2⟩
theorem LedInv.congr {rs qs : List Row} {F G : Row → Bool} {ms : List Move} (h : LedInv rs qs F ms) (nr : rs.Nodup) (pm : qs.Perm rs) (e : ∀ q ∈ qs, F q = G q) : LedInv rs qs G ms := by
  obtain ⟨here, h1, h2⟩ := h
  have ph := led_perm nr ms here h1
  refine ⟨here, h1, ?_⟩
  rw [← List.filter_congr (fun q hq => e q (pm.mem_iff.mpr (ph.mem_iff.mp hq))), h2]
  exact List.filter_congr e
theorem LedInv.end_ {rs qs : List Row} {F : Row → Bool} {ms : List Move} (h : LedInv rs qs F ms) (nr : rs.Nodup) (pm : qs.Perm rs) (e : ∀ q ∈ qs, F q = true) : led rs ms = some qs := by
  obtain ⟨here, h1, h2⟩ := h
  have ph := led_perm nr ms here h1
  rw [List.filter_eq_self.mpr e, List.filter_eq_self.mpr (fun q hq => e q (pm.mem_iff.mpr (ph.mem_iff.mp hq)))] at h2
  rw [h1, h2]
/-! chains -/
theorem ah_two {rs qs : List Row} {q r : Row} : Ah [rs, qs] q r = true ↔ rs.idxOf q < rs.idxOf r ∧ qs.idxOf q < qs.idxOf r := by
  unfold Ah
  simp
theorem chain_lev {rs qs R : List Row} {lev : Row → Nat} {ahd : Row → Option Row} (L : LevOn [rs, qs] R lev ahd) {ds : List Row} (h1 : Rise rs ds) (h2 : Rise qs ds) (hd : ∀ r ∈ ds, r ∈ R) : ∀ (i : Nat) (r : Row), ds[i]? = some r → i ≤ lev r
  | 0, _, _ => Nat.zero_le _
  | i + 1, r, hr => by
    obtain ⟨hi, _⟩ := List.getElem?_eq_some_iff.mp hr
    have hq := List.getElem?_eq_getElem (l := ds) (i := i) (by omega)
    have ih := chain_lev L h1 h2 hd i _ hq
    have a := L.lt r (hd r (List.mem_of_getElem? hr)) _ (hd _ (List.mem_of_getElem? hq)) (ah_two.mpr ⟨h1.next hq hr, h2.next hq hr⟩)
    omega
theorem chain_len {rs qs R : List Row} {lev : Row → Nat} {ahd : Row → Option Row} {M : Nat} (L : LevOn [rs, qs] R lev ahd) (hM : IsCount R lev M) {ds : List Row} (h1 : Rise rs ds) (h2 : Rise qs ds) (hd : ∀ r ∈ ds, r ∈ R) : ds.length ≤ M := by
  rcases Nat.eq_zero_or_pos ds.length with z | z
  · omega
  · have hl := List.getElem?_eq_getElem (l := ds) (i := ds.length - 1) (by omega)
    have a := chain_lev L h1 h2 hd _ _ hl
    have b := hM.lt _ (hd _ (List.mem_of_getElem? hl))
    omega
theorem chain_to {rs qs R : List Row} {lev : Row → Nat} {ahd : Row → Option Row} (L : LevOn [rs, qs] R lev ahd) : ∀ (k : Nat) (r : Row), r ∈ R → lev r = k → ∃ ds, Rise rs (ds ++ [r]) ∧ Rise qs (ds ++ [r]) ∧ (∀ q ∈ ds, q ∈ R) ∧ ds.length = k
  | 0, r, hr, _ => ⟨[], List.pairwise_singleton _ _, List.pairwise_singleton _ _, fun _ h => absurd h (by simp), rfl⟩
  | k + 1, r, hr, e => by
    rcases L.how r hr with ⟨z, _⟩ | ⟨q, hq, ha, el, _⟩
    · omega
    · obtain ⟨ds, g1, g2, g3, g4⟩ := chain_to L k q hq (by omega)
      obtain ⟨a1, a2⟩ := ah_two.mp ha
      have up : ∀ {Z : List Row}, Rise Z (ds ++ [q]) → Z.idxOf q < Z.idxOf r → ∀ z ∈ ds ++ [q], Z.idxOf z < Z.idxOf r := fun h hqr z hz => by
        rcases List.mem_append.mp hz with hz | hz
        · exact Nat.lt_trans ((List.pairwise_append.mp h).2.2 z hz q List.mem_cons_self) hqr
        · rw [List.mem_singleton.mp hz]; exact hqr
      refine ⟨ds ++ [q], g1.append (up g1 a1), g2.append (up g2 a2), fun z hz => ?_, by rw [List.length_append, g4] <;> rfl⟩
      rcases List.mem_append.mp hz with hz | hz
      · exact g3 z hz
      · rw [List.mem_singleton.mp hz]; exact hq
theorem chain_most {rs qs R : List Row} {lev : Row → Nat} {ahd : Row → Option Row} {M : Nat} (L : LevOn [rs, qs] R lev ahd) (hM : IsCount R lev M) : ∃ ds, Rise rs ds ∧ Rise qs ds ∧ (∀ q ∈ ds, q ∈ R) ∧ ds.length = M := by
  rcases Classical.em (R = []) with z | z
  · exact ⟨[], List.Pairwise.nil, List.Pairwise.nil, fun _ h => absurd h (by simp), (hM.nil z).symm⟩
  · obtain ⟨r, hr, e⟩ := hM.hit z
    obtain ⟨ds, g1, g2, g3, g4⟩ := chain_to L (lev r) r hr rfl
    refine ⟨ds ++ [r], g1, g2, fun q hq => ?_, by rw [List.length_append, g4, List.length_singleton]; omega⟩
    rcases List.mem_append.mp hq with hq | hq
    · exact g3 q hq
    · rw [List.mem_singleton.mp hq]; exact hr
/-! no fewer moves do -/
theorem done_keeps {rs l : List Row} {r : Row} {o : Option Row} {G : Row → Bool} (h : done rs r o = some l) (hg : G r = false) : l.filter G = rs.filter G := by
  by_cases c : r ∈ rs ∧ o ≠ some r ∧ inO rs o = true
  · rw [done_eq c] at h
    cases h
    rw [List.filter_append, List.filter_cons, hg, ← drp_filter rs hg]
    conv => rhs; rw [← List.take_append_drop (at' (drp rs r) o) (drp rs r)]
    rw [List.filter_append] <;> rfl
  · unfold done at h
    rw [if_neg c] at h
    cases h
theorem led_keeps {rs : List Row} {G : Row → Bool} : ∀ (ms : List Move) (o : Option (List Row)), (∀ l, o = some l → l.filter G = rs.filter G) → (∀ m ∈ ms, G m.1 = false) → ∀ l, ms.foldl (fun o m => o.bind fun l => done l m.1 m.2) o = some l → l.filter G = rs.filter G
  | [], o, h, _, l, e => h l e
  | m :: ms, o, h, hg, l, e => by
    refine led_keeps ms _ (fun l' e' => ?_) (fun m' hm' => hg m' (List.mem_cons_of_mem _ hm')) l e
    cases o with
    | none => cases e'
    | some l0 => exact (done_keeps e' (hg m List.mem_cons_self)).trans (h l0 rfl)
theorem filter_nin_len (rs ks : List Row) (nr : rs.Nodup) : rs.length ≤ (rs.filter fun q => !decide (q ∈ ks)).length + ks.length := by
  have h : (rs.filter fun q => decide (q ∈ ks)).length ≤ ks.length := nodup_len _ ks (nr.filter _) fun x hx => of_decide_eq_true (List.mem_filter.mp hx).2
  have g : ∀ l : List Row, l.length = (l.filter fun q => decide (q ∈ ks)).length + (l.filter fun q => !decide (q ∈ ks)).length := by
    intro l
    induction l with
    | nil => rfl
    | cons q l ih =>
      rw [List.filter_cons, List.filter_cons]
      by_cases hq : q ∈ ks
      · rw [decide_eq_true hq]
        simp only [if_true, Bool.not_true, Bool.false_eq_true, if_false, List.length_cons]
        omega
      · rw [decide_eq_false hq]
        simp only [if_true, Bool.not_false, Bool.false_eq_true, if_false, List.length_cons]
        omega
  have := g rs
  omega
theorem led_least {rs qs : List Row} {lev : Row → Nat} {ahd : Row → Option Row} {M : Nat} (nr : rs.Nodup) (pm : qs.Perm rs) (L : LevOn [rs, qs] rs lev ahd) (hM : IsCount rs lev M) {ms : List Move} (h : led rs ms = some qs) : rs.length ≤ M + ms.length := by
  let G : Row → Bool := fun q => !decide (q ∈ ms.map (·.1))
  have hg : ∀ m ∈ ms, G m.1 = false := fun m hm => by
    show (!decide (m.1 ∈ ms.map (·.1))) = false
    rw [decide_eq_true (List.mem_map_of_mem hm)] <;> rfl
  have e : qs.filter G = rs.filter G := led_keeps (rs := rs) ms (some rs) (fun l e => by cases e; rfl) hg qs h
  have r1 : Rise rs (rs.filter G) := (Rise.self nr).sub List.filter_sublist
  have r2 : Rise qs (rs.filter G) := by rw [← e]; exact (Rise.self (pm.nodup_iff.mpr nr)).sub List.filter_sublist
  have a := chain_len L hM r1 r2 fun r hr => (List.mem_filter.mp hr).1
  have b := filter_nin_len rs (ms.map (·.1)) nr
  rw [List.length_map] at b
  have c : (rs.filter G).length = (rs.filter fun q => !decide (q ∈ ms.map (·.1))).length := rfl
  omega
/-! the plan -/
theorem getLast_take {qs : List Row} {p : Nat} (hp : p ≤ qs.length) : (qs.take p).getLast? = if p = 0 then none else qs[p - 1]? := by
  rcases Nat.eq_zero_or_pos p with z | z
  · subst z; rfl
  · rw [if_neg (by omega), List.getLast?_eq_getElem?, List.length_take, Nat.min_eq_left hp, List.getElem?_take_of_lt (by omega)]
def planAt (qs ds : List Row) : Nat → List Move
  | 0 => []
  | p + 1 => planAt qs ds p ++ (match qs[p]? with | some r => if r ∈ ds then [] else [(r, if p = 0 then none else qs[p - 1]?)] | none => [])
theorem plan_inv {rs qs ds : List Row} (nr : rs.Nodup) (pm : qs.Perm rs) (h1 : Rise rs ds) (h2 : Rise qs ds) (s1 : ∀ r ∈ ds, r ∈ rs) : ∀ p, p ≤ qs.length → LedInv rs qs (fun q => decide (q ∈ ds) || decide (q ∈ qs.take p)) (planAt qs ds p) ∧ (planAt qs ds p).length + ((qs.take p).filter fun q => decide (q ∈ ds)).length = p
  | 0, _ => by
    refine ⟨(LedInv.start nr (pm.nodup_iff.mpr nr) h1 h2 s1 fun r hr => pm.mem_iff.mpr (s1 r hr)).congr nr pm fun q _ => by simp, rfl⟩
  | p + 1, hp => by
    obtain ⟨ih, il⟩ := plan_inv nr pm h1 h2 s1 p (by omega)
    have nq := pm.nodup_iff.mpr nr
    have hr := List.getElem?_eq_getElem (l := qs) (i := p) (by omega)
    generalize qs[p] = r at hr
    have et := take_next hr
    have rq := List.mem_of_getElem? hr
    have ir := idxOf_at nq hr
    show LedInv rs qs _ (planAt qs ds p ++ (match qs[p]? with | some r => if r ∈ ds then [] else [(r, if p = 0 then none else qs[p - 1]?)] | none => [])) ∧ _ = _
    rw [show planAt qs ds (p + 1) = planAt qs ds p ++ (match qs[p]? with | some r => if r ∈ ds then [] else [(r, if p = 0 then none else qs[p - 1]?)] | none => []) from rfl, hr, et]
    show LedInv rs qs _ (planAt qs ds p ++ (if r ∈ ds then [] else [(r, if p = 0 then none else qs[p - 1]?)])) ∧ (planAt qs ds p ++ (if r ∈ ds then [] else [(r, if p = 0 then none else qs[p - 1]?)])).length + _ = _
    rw [List.filter_append]
    by_cases hd : r ∈ ds
    · rw [if_pos hd, List.append_nil]
      refine ⟨ih.congr nr pm fun q _ => ?_, ?_⟩
      · by_cases e : q = r
        · subst e; simp [hd]
        · simp [e]
      · rw [List.filter_cons, decide_eq_true hd]
        simp only [if_true, List.filter_nil, List.length_append, List.length_singleton]
        omega
    · have nrp : r ∉ qs.take p := fun z => by
        obtain ⟨i, hi, ei⟩ := List.mem_iff_getElem.mp z
        rw [List.length_take] at hi
        rw [List.getElem_take] at ei
        have := idxOf_at nq (show qs[i]? = some r by rw [← ei]; exact List.getElem?_eq_getElem _)
        omega
      have hf : (decide (r ∈ ds) || decide (r ∈ qs.take p)) = false := by simp [hd, nrp]
      have z := ih.step nr pm rq hf
      have eb : beh qs (fun q => decide (q ∈ ds) || decide (q ∈ qs.take p)) r = if p = 0 then none else qs[p - 1]? := by
        unfold beh
        rw [ir, List.filter_eq_self.mpr fun q hq => by simp [hq], getLast_take (by omega)]
      rw [eb] at z
      rw [if_neg hd]
      refine ⟨z.congr nr pm fun q _ => ?_, ?_⟩
      · unfold orR
        by_cases e : q = r
        · subst e; simp
        · simp [e]
      · rw [List.filter_cons, decide_eq_false hd]
        simp only [Bool.false_eq_true, if_false, List.filter_nil, List.length_append, List.length_singleton, List.length_nil]
        omega
theorem plan_led {rs qs ds : List Row} (nr : rs.Nodup) (pm : qs.Perm rs) (h1 : Rise rs ds) (h2 : Rise qs ds) (s1 : ∀ r ∈ ds, r ∈ rs) : led rs (planAt qs ds qs.length) = some qs := by
  refine (plan_inv nr pm h1 h2 s1 qs.length (Nat.le_refl _)).1.end_ nr pm fun q hq => ?_
  rw [List.take_length]
  simp [hq]
theorem plan_len {rs qs ds : List Row} (nr : rs.Nodup) (pm : qs.Perm rs) (h1 : Rise rs ds) (h2 : Rise qs ds) (s1 : ∀ r ∈ ds, r ∈ rs) : (planAt qs ds qs.length).length + ds.length = rs.length := by
  have z := (plan_inv nr pm h1 h2 s1 qs.length (Nat.le_refl _)).2
  rw [List.take_length, rise_filter (pm.nodup_iff.mpr nr) h2 fun r hr => pm.mem_iff.mpr (s1 r hr)] at z
  rw [z, pm.length_eq]
end Mv
/-! Comprehensions of new tuples; plan_moves. -/
namespace Mv
open PySem PySem.Spec PyProof.Rows L2 Evl
/-- the tuples stay -/
def TupK (H H' : Hp) : Prop := ∀ a xs, H a = some (.tup xs) → H' a = some (.tup xs)
theorem Ex.tk {H H' : Hp} (e : Ex H H') : TupK H H' := fun a xs h => e a _ h
theorem TupK.trans {H H1 H2 : Hp} (a : TupK H H1) (b : TupK H1 H2) : TupK H H2 := fun x o h => b x o (a x o h)
theorem TupK.upd {H : Hp} {p : Addr} {o o' : HO} (h : H p = some o) (n : ∀ xs, o ≠ .tup xs) : TupK H (L2.upd H p o') := fun a xs ha => by
  have : a ≠ p := fun e => by rw [e, h] at ha; exact n xs (Option.some.inj ha)
  rw [upd_ne this]
  exact ha
theorem IsRow.tk {H H' : Hp} {x : V} {r : List Int} (h : IsRow H x r) (e : TupK H H') : IsRow H' x r := let ⟨b, h1, h2⟩ := h; ⟨b, h1, e _ _ h2⟩
theorem AhV.tk {H H' : Hp} {x : V} {o : Option (List Int)} (h : AhV H x o) (e : TupK H H') : AhV H' x o := by
  cases o with
  | none => exact h
  | some q => exact IsRow.tk h e
theorem IsMv.tk {H H' : Hp} {x : V} {r : List Int} {o : Option (List Int)} (h : IsMv H x r o) (e : TupK H H') : IsMv H' x r o := let ⟨a, vr, vo, h1, h2, h3, h4⟩ := h; ⟨a, vr, vo, h1, e _ _ h2, h3.tk e, h4.tk e⟩
section
variable {K : PySem.W.Frag} {σ : L2.St} {H H' : Hp} {ta tb tc te tl tx : TE} {t u tt : TT} {x y z v : V} {D : Ends}
/-- a comprehension over some walk, by the items' facts about tuples -/
theorem lc_items {J : It} {n : Nat} {G : Hp → Prop} {Y : Nat → Hp → V → Hp → Prop} (w : Walk J n G Y) {g : TG} {M : Type} (It : Hp → V → M → Prop) (stab : ∀ H H' y m, TupK H H' → It H y m → It H' y m) (ms : Nat → List M) (m0 : ms 0 = []) (hb : ∀ i, i ≤ n → (ms i).length ≤ 1000)
    {vs : List Nat} {H1 : Hp} {Dl : Addr} {Qd : Hp → Prop} (hD : H1 Dl = none) (hG : ∀ H', Ex H1 H' → G H')
    (turn : ∀ (i : Nat) (x : V) (H' H'' : Hp), i < n → Ex H1 H' → Y i H' x H'' → g x (wipe σ vs) H'' fun σ2 H2 => Ex H' H2 ∧ wipe σ2 vs = wipe σ vs ∧ ∃ b, EvT tt σ2 H2 b ∧ (b = false → ms (i + 1) = ms i) ∧ (b = true → ∃ m, ms (i + 1) = ms i ++ [m] ∧ ∀ H3, Ex H2 H3 → ∀ Q : VK, (∀ v H4, Ex H3 H4 → It H4 v m → Q v H4) → te σ2 H3 Q))
    (gm : ∀ (x : V) (H'' : Hp) (P P' : L2.St → Hp → Prop), (∀ σ2 H2, P σ2 H2 → P' σ2 H2) → g x (wipe σ vs) H'' P → g x (wipe σ vs) H'' P')
    (hd : ∀ H' ys, Ex H1 H' → H' Dl = some (.lst ys) → Paired (It H') ys (ms n) → Qd H') :
    ∃ W : Nat → Nat → Hp → Prop, (∃ m, W 0 m (upd H1 Dl (.lst []))) ∧ ∀ i m H, W i m H →
      (J.stop i H ∧ Qd H) ∨ (J.go i H ∧ ∃ Nx : Hp → Prop, (∀ H', Nx H' → ∃ m', m' < m ∧ W (i + 1) m' H') ∧ ∀ x H', J.yld i H x H' → g x (wipe σ vs) H' fun σ2 H2 => wipe σ2 vs = wipe σ vs ∧ tt σ2 H2 fun b H3 =>
        if b = true then te σ2 H3 fun y H4 => ∃ acc, H4 Dl = some (.lst acc) ∧ acc.length < sizeLine ∧ Nx (upd H4 Dl (.lst (acc ++ [y]))) else Nx H3) := by
  refine lc_it w (fun i H' => Ex H1 H' ∧ ∃ ys, H' Dl = some (.lst ys) ∧ Paired (It H') ys (ms i)) ⟨Ex.new hD, [], upd_same, by rw [m0]; exact .nil⟩ (fun i H' _ q => hG H' q.1) ?_ fun H' ⟨e, ys, h1, h2⟩ => hd H' ys e h1 h2
  rintro i x H' H'' hi ⟨e, ys, h1, h2⟩ y
  refine gm x H'' _ _ ?_ (turn i x H' H'' hi e y)
  rintro σ2 H2 ⟨e2, hw, b, ht, f0, f1⟩
  refine ⟨hw, ht H2 (Ex.refl _) _ fun H3 e3 => ?_⟩
  have e23 := e2.trans e3
  cases b with
  | false =>
    show Ex H1 H3 ∧ _
    rw [f0 rfl]
    exact ⟨e.trans e23, ys, e23 _ _ h1, Paired.imp (fun _ _ z => stab _ _ _ _ (Ex.tk e23) z) h2⟩
  | true =>
    obtain ⟨m, em, hte⟩ := f1 rfl
    show te σ2 H3 _
    refine hte H3 e3 _ fun v H4 e4 hv => ?_
    have e24 := e23.trans e4
    have hl : ys.length = (ms i).length := Paired.length h2
    have k1 : H4 Dl = some (.lst ys) := e24 _ _ h1
    have tk : TupK H4 (upd H4 Dl (.lst (ys ++ [v]))) := TupK.upd k1 fun xs z => by cases z
    refine ⟨ys, k1, Nat.lt_of_le_of_lt (by rw [hl]; exact hb i (by omega)) (show 1000 < sizeLine by decide), Ex.mut (e.trans e24) hD, _, upd_same, ?_⟩
    rw [em]
    exact Paired.append (Paired.imp (fun _ _ z => stab _ _ _ _ ((Ex.tk e24).trans tk) z) h2) (.cons (stab _ _ _ _ tk hv) .nil)
theorem ef_enumS {M : Type} (It : Hp → V → M → Prop) (stab : ∀ H H' y m, TupK H H' → It H y m → It H' y m) (ms : Nat → List M) (m0 : ms 0 = []) {a : Addr} {xs : List V} {j1 j2 : Nat} {vs : List Nat} (hb : ∀ i, i ≤ xs.length → (ms i).length ≤ 1000)
    (h : Ev tl σ H (.ref a)) (hx : Seq H a xs) (hw : ∀ x y, wipe (((wipe σ vs).set j1 (some x)).set j2 (some y)) vs = wipe σ vs)
    (turn : ∀ (i : Nat) (y : V) (H2 : Hp), xs[i]? = some y → Ex H H2 → ∃ b, EvT tt (((wipe σ vs).set j1 (some (.int (i : Nat)))).set j2 (some y)) H2 b ∧ (b = false → ms (i + 1) = ms i) ∧ (b = true → ∃ m, ms (i + 1) = ms i ++ [m] ∧ ∀ H3, Ex H2 H3 → ∀ Q : VK, (∀ v H4, Ex H3 H4 → It H4 v m → Q v H4) → te (((wipe σ vs).set j1 (some (.int (i : Nat)))).set j2 (some y)) H3 Q)) :
    EvF (tLc (iEnumS K (tCons tl tNil)) (gTup K 2 (gCons (gName j1) (gCons (gName j2) gNil))) tt te vs) σ H (fun p H2 => ∃ ys, H2 p = some (.lst ys) ∧ Paired (It H2) ys (ms xs.length)) := by
  intro H0 e0 Q k
  have step : ∀ (H1 : Hp), Ex H H1 → ∀ (i : Nat) (x : V) (H' H'' : Hp), i < xs.length → Ex H1 H' → YPair (fun i => some (.int (i : Nat))) (fun i => xs[i]?) i H' x H'' →
      gTup K 2 (gCons (gName j1) (gCons (gName j2) gNil)) x (wipe σ vs) H'' fun σ2 H2 => Ex H' H2 ∧ wipe σ2 vs = wipe σ vs ∧ ∃ b, EvT tt σ2 H2 b ∧ (b = false → ms (i + 1) = ms i) ∧ (b = true → ∃ m, ms (i + 1) = ms i ++ [m] ∧ ∀ H3, Ex H2 H3 → ∀ Q : VK, (∀ v H4, Ex H3 H4 → It H4 v m → Q v H4) → te σ2 H3 Q) := by
    rintro H1 e1 i x H' H'' hi e' ⟨T, x1, x2, rfl, hT, rfl, g1, g2⟩
    cases g1
    have eT : Ex H' (upd H' T (.tup [.int (i : Nat), x2])) := Ex.new hT
    exact ⟨T, _, rfl, st_of upd_same, rfl, _, _, rfl, _, _, rfl, rfl, eT, hw _ _, turn i x2 _ g2 ((e1.trans e').trans eT)⟩
  have gm : ∀ (x : V) (H'' : Hp) (P P' : L2.St → Hp → Prop), (∀ σ2 H2, P σ2 H2 → P' σ2 H2) → gTup K 2 (gCons (gName j1) (gCons (gName j2) gNil)) x (wipe σ vs) H'' P → gTup K 2 (gCons (gName j1) (gCons (gName j2) gNil)) x (wipe σ vs) H'' P' := by
    rintro x H'' P P' f ⟨T, xs, h1, h2, h3, h4⟩
    obtain ⟨x1, r1, e1, x2, r2, e2, e3, h⟩ := h4
    exact ⟨T, xs, h1, h2, h3, x1, r1, e1, x2, r2, e2, e3, f _ _ h⟩
  rcases hx with hx | hx
  · refine .inl (h H0 e0 _ fun H1 e1 => ⟨a, xs, rfl, sq_of ((e0.trans e1) _ _ hx), fun Dl hD => ?_⟩)
    exact lc_items (walk_enum (K := K) (a := a) (xs := xs)) It stab ms m0 hb hD (fun H' e => sq_of ((e0.trans (e1.trans e)) _ _ hx)) (step H1 (e0.trans e1)) gm fun H' ys e g1 g2 => k Dl H' (fresh_back e1 hD) (e1.trans e) ⟨ys, g1, g2⟩
  · refine .inr (h H0 e0 _ fun H1 e1 => ⟨a, xs, rfl, st_of ((e0.trans e1) _ _ hx), fun Dl hD => ?_⟩)
    exact lc_items (walk_enumU (K := K) (a := a) (xs := xs)) It stab ms m0 hb hD (fun H' e => st_of ((e0.trans (e1.trans e)) _ _ hx)) (step H1 (e0.trans e1)) gm fun H' ys e g1 g2 => k Dl H' (fresh_back e1 hD) (e1.trans e) ⟨ys, g1, g2⟩
/-- over a list or a tuple -/
theorem ef_itemsS {M : Type} (It : Hp → V → M → Prop) (stab : ∀ H H' y m, TupK H H' → It H y m → It H' y m) (ms : Nat → List M) (m0 : ms 0 = []) {a : Addr} {xs : List V} {j : Nat} {vs : List Nat} (hb : ∀ i, i ≤ xs.length → (ms i).length ≤ 1000)
    (h : Ev tl σ H (.ref a)) (hx : Seq H a xs) (hw : ∀ x, wipe ((wipe σ vs).set j (some x)) vs = wipe σ vs)
    (turn : ∀ (i : Nat) (y : V) (H2 : Hp), xs[i]? = some y → Ex H H2 → ∃ b, EvT tt ((wipe σ vs).set j (some y)) H2 b ∧ (b = false → ms (i + 1) = ms i) ∧ (b = true → ∃ m, ms (i + 1) = ms i ++ [m] ∧ ∀ H3, Ex H2 H3 → ∀ Q : VK, (∀ v H4, Ex H3 H4 → It H4 v m → Q v H4) → te ((wipe σ vs).set j (some y)) H3 Q)) :
    EvF (tLc (iSeq K tl) (gName j) tt te vs) σ H (fun p H2 => ∃ ys, H2 p = some (.lst ys) ∧ Paired (It H2) ys (ms xs.length)) := by
  intro H0 e0 Q k
  have gm : ∀ (x : V) (H'' : Hp) (P P' : L2.St → Hp → Prop), (∀ σ2 H2, P σ2 H2 → P' σ2 H2) → gName j x (wipe σ vs) H'' P → gName j x (wipe σ vs) H'' P' := fun x H'' P P' f h => f _ _ h
  rcases hx with hx | hx
  · refine .inl (h H0 e0 _ fun H1 e1 => ⟨a, rfl, ⟨xs, sq_of ((e0.trans e1) _ _ hx)⟩, fun Dl hD => ?_⟩)
    refine lc_items (walk_list (K := K) (a := a) (xs := xs)) It stab ms m0 hb hD (fun H' e => sq_of ((e0.trans (e1.trans e)) _ _ hx)) ?_ gm fun H' ys e g1 g2 => k Dl H' (fresh_back e1 hD) (e1.trans e) ⟨ys, g1, g2⟩
    rintro i x H' H'' hi e' ⟨rfl, hm⟩
    exact ⟨Ex.refl _, hw _, turn i x _ hm ((e0.trans e1).trans e')⟩
  · refine .inr (h H0 e0 _ fun H1 e1 => ⟨a, rfl, ⟨xs, st_of ((e0.trans e1) _ _ hx)⟩, fun Dl hD => ?_⟩)
    refine lc_items (walk_tup (K := K) (a := a) (xs := xs)) It stab ms m0 hb hD (fun H' e => st_of ((e0.trans (e1.trans e)) _ _ hx)) ?_ gm fun H' ys e g1 g2 => k Dl H' (fresh_back e1 hD) (e1.trans e) ⟨ys, g1, g2⟩
    rintro i x H' H'' hi e' ⟨rfl, hm⟩
    exact ⟨Ex.refl _, hw _, turn i x _ hm ((e0.trans e1).trans e')⟩
theorem ea_starS {t : TA} {a : Addr} {xs vs : List V} (h : Ev te σ H (.ref a)) (hx : Seq H a xs) (hr : EvA t σ H vs) : EvA (StX.tStar K te t) σ H (xs ++ vs) := fun H1 e Q q => h H1 e _ fun H2 e2 => ⟨a, xs, rfl, (hx.ex (e.trans e2)).sq.symm, hr H2 (e.trans e2) _ fun H3 e3 => q H3 (e2.trans e3)⟩
end
theorem planAt_ok {n : Nat} {rs qs ds : List Row} (ho : OkRows n qs) : ∀ p, ∀ m ∈ planAt qs ds p, OkMv n m
  | 0, m, h => absurd h (by simp [planAt])
  | p + 1, m, h => by
    rcases List.mem_append.mp (show m ∈ planAt qs ds p ++ _ from h) with h | h
    · exact planAt_ok (rs := rs) ho p m h
    · cases hr : qs[p]? with
      | none => rw [hr] at h; cases h
      | some r =>
        rw [hr] at h
        have h : m ∈ (if r ∈ ds then [] else [(r, if p = 0 then none else qs[p - 1]?)] : List Move) := h
        by_cases hd : r ∈ ds
        · rw [if_pos hd] at h; cases h
        · rw [if_neg hd] at h
          rw [List.mem_singleton.mp h]
          refine ⟨ho.w1, ho.w5, ho.row r (List.mem_of_getElem? hr), fun q hq => ?_⟩
          have hq : (if p = 0 then none else qs[p - 1]?) = some q := hq
          by_cases h0 : p = 0
          · rw [if_pos h0] at hq; cases hq
          · rw [if_neg h0] at hq
            exact ho.row q (List.mem_of_getElem? hq)
theorem planAt_len {qs ds : List Row} : ∀ p, (planAt qs ds p).length ≤ p
  | 0 => Nat.le_refl _
  | p + 1 => by
    have ih := planAt_len (qs := qs) (ds := ds) p
    show (planAt qs ds p ++ _).length ≤ _
    rw [List.length_append]
    cases hr : qs[p]? with
    | none => show _ + 0 ≤ _; omega
    | some r =>
      show _ + (if r ∈ ds then [] else [(r, if p = 0 then none else qs[p - 1]?)] : List Move).length ≤ _
      by_cases hd : r ∈ ds
      · rw [if_pos hd]; show _ + 0 ≤ _; omega
      · rw [if_neg hd]; show _ + 1 ≤ _; omega
section
variable {P : Program} {w : World} {K : PySem.W.Frag} {mg : Str → Option Value} {base : Heap} {a : Nat → Addr} {d : Nat → FuncData} {tk : Nat → Tok}
/-- moves that lead from rs to qs, as few as possible -/
def PlanRes (n : Nat) (rs qs : List Row) (p : Addr) (H2 : Hp) : Prop := ∃ (ys : List V) (ms : List Move) (lev : Row → Nat) (ahd : Row → Option Row) (M : Nat), H2 p = some (.lst ys) ∧ MvAll H2 ys ms ∧ (∀ m ∈ ms, OkMv n m) ∧ led rs ms = some qs ∧ LevOn [rs, qs] rs lev ahd ∧ IsCount rs lev M ∧ ms.length + M = rs.length ∧ (ms.map (·.1)).Nodup
theorem chn_rise {rs qs : List Row} (h : ∀ {ds : List Row}, Chn [rs, qs] ds → True) : True := trivial
theorem chn_head {Ls : List (List Row)} {L : List Row} (hL : L ∈ Ls) : ∀ {q : Row} {ds : List Row}, Chn Ls (q :: ds) → ∀ r ∈ ds, L.idxOf q < L.idxOf r
  | q, [], _, r, hr => absurd hr (by simp)
  | q, s :: ds, ⟨h1, h2⟩, r, hr => by
    have a := Ah.lt h1 hL
    rcases List.mem_cons.mp hr with e | hr
    · subst e; exact a
    · have := chn_head hL h2 r hr
      omega
theorem Chn.rise {Ls : List (List Row)} {L : List Row} (hL : L ∈ Ls) : ∀ {ds : List Row}, Chn Ls ds → Rise L ds
  | [], _ => List.Pairwise.nil
  | [q], _ => List.pairwise_singleton _ _
  | q :: r :: ds, h => List.Pairwise.cons (chn_head hL h) (Chn.rise hL h.2)
theorem planAt_nodup {qs ds : List Row} (nq : qs.Nodup) : ∀ p, p ≤ qs.length → ((planAt qs ds p).map (·.1)).Nodup ∧ ∀ m ∈ planAt qs ds p, m.1 ∈ qs.take p ∧ m.1 ∉ ds
  | 0, _ => ⟨List.Pairwise.nil, fun m h => absurd h (by simp [planAt])⟩
  | p + 1, hp => by
    obtain ⟨ih, im⟩ := planAt_nodup (ds := ds) nq p (by omega)
    have hr := List.getElem?_eq_getElem (l := qs) (i := p) (by omega)
    generalize qs[p] = r at hr
    have et := take_next hr
    have nrp : r ∉ qs.take p := fun z => by
      obtain ⟨i, hi, ei⟩ := List.mem_iff_getElem.mp z
      rw [List.length_take] at hi
      rw [List.getElem_take] at ei
      have := idxOf_at nq (show qs[i]? = some r by rw [← ei]; exact List.getElem?_eq_getElem _)
      have := idxOf_at nq hr
      omega
    have e1 : planAt qs ds (p + 1) = planAt qs ds p ++ (if r ∈ ds then [] else [(r, if p = 0 then none else qs[p - 1]?)]) := by
      show planAt qs ds p ++ (match qs[p]? with | some r => if r ∈ ds then [] else [(r, if p = 0 then none else qs[p - 1]?)] | none => []) = _
      rw [hr]
    rw [e1, et]
    by_cases hd : r ∈ ds
    · rw [if_pos hd, List.append_nil]
      exact ⟨ih, fun m hm => ⟨List.mem_append_left _ (im m hm).1, (im m hm).2⟩⟩
    · rw [if_neg hd]
      refine ⟨?_, fun m hm => ?_⟩
      · rw [List.map_append]
        refine List.nodup_append.mpr ⟨ih, List.pairwise_singleton _ _, fun q hq s hs => ?_⟩
        obtain ⟨m, hm, rfl⟩ := List.mem_map.mp hq
        rw [List.mem_singleton.mp hs]
        intro e
        have z := (im m hm).1
        rw [show m.1 = r from e] at z
        exact nrp z
      · rcases List.mem_append.mp hm with hm | hm
        · exact ⟨List.mem_append_left _ (im m hm).1, (im m hm).2⟩
        · rw [List.mem_singleton.mp hm]
          exact ⟨List.mem_append_right _ List.mem_cons_self, hd⟩
def sp_plan_moves : Sp := fun vs H Q _ => ∃ (x y : V) (rs qs : List Row) (n : Nat), vs = [x, y] ∧ Rws H x rs ∧ Rws H y qs ∧ OkRows n rs ∧ qs.Perm rs ∧ ∀ p H2, H p = none → Ex H H2 → PlanRes n rs qs p H2 → Q (.ref p) H2
theorem ok_plan_moves (T : All K mg a d tk) : FnOk P w K mg base CX0 7 (a 14) (d 14) ["one", "other"] sp_plan_moves := by
  refine T.F_plan_moves.fn.ok sc_plan_moves (fun vs H Q E h => ?_) (fun cdv A outer s H vs Q E hr h => ?_)
  · obtain ⟨x, y, rs, qs, n, rfl, _⟩ := h
    rfl
  · obtain ⟨x, y, rs, qs, n, rfl, hx, hy, ho, pm, k⟩ := h
    have nd := sc_plan_moves.nd
    have hu := hu_of hr
    have hu0 := hr.units0
    have oq := ho.perm pm
    have h60 := ho.few
    refine ⟨_, (pss_cons (ps_expr (pe_call (ok_need_pair T) (hr.mono (by decide)) rfl T.F_need_pair.m T.F_need_pair.kp T.F_need_pair.b .nil pass0 (pa_cons (pv 0) (pa_cons (pv 1) pa_nil))))
 (pss_cons (ps_set (i := 2) nd rfl (Or.inr rfl) (pe_dcT (own := [("row", 4)]) (g := (gName 4)) hu0 rfl nd (pi_list (pe_call (ok_longest_of T) (hr.mono (by decide)) rfl T.F_longest_of.m T.F_longest_of.kp T.F_longest_of.b .nil pass0 (pa_cons (pv 0) (pa_cons (pv 1) pa_nil)))) (blkOk_by (N := N_plan_moves) (sc := defScope s_plan_moves) (by decide +kernel)) (fun _ _ _ _ _ => (pg_name (i := 4) nd rfl (Or.inl rfl))) (fun _ _ _ _ _ => pts_nil) (fun _ _ _ _ _ => (pv 4)) (fun _ _ _ _ _ => pe_bl)))
 (pss_cons (ps_set (i := 3) nd rfl (Or.inr rfl) (pe_lst (pa_cons pe_non (StX.pa_star (pv 1) pa_nil))))
 (pss_one (ps_ret (pe_lc (own := [("place", 5), ("row", 4)]) (g := (gTup K 2 (gCons (gName 5) (gCons (gName 4) gNil)))) rfl nd (pi_enumS rfl T.n_enumerate (pa_cons (pv 1) pa_nil)) (blkOk_by (N := N_plan_moves) (sc := defScope s_plan_moves) (by decide +kernel)) (fun _ _ _ _ _ => (pg_tup rfl (pgs_cons (pg_name (i := 5) nd rfl (Or.inl rfl)) (pgs_cons (pg_name (i := 4) nd rfl (Or.inl rfl)) pgs_nil)))) (fun _ _ _ _ _ => (pts_one (pt_cmp (pc_dnotin hu (pv 4) (pv 2))))) (fun _ _ _ _ _ => (pe_tup (pa_cons (pv 4) (pa_cons (pe_ix (show IxR _ (rIxL K) from ix_list) (pv 3) (pv 5) (fun _ _ => rfl)) pa_nil)))))))))), ?_⟩
    refine q_drop (ev_call (ea_cons (ev_var rfl) (ea_cons (ev_var rfl) ea_nil)) (spv_need_pair hx hy ho pm)) fun H1 e1 => ?_
    refine ⟨_, rfl, _, rfl, x, y, rs, qs, n, rfl, hx.ex e1, hy.ex e1, ho, pm, fun pl H2 npl e2 ⟨yl, ds, lev, ahd, M, hyl, lM, hds, hch, hdr, hL, hM⟩ => ?_⟩
    have r1 : Rise rs ds := Chn.rise List.mem_cons_self hch
    have r2 : Rise qs ds := Chn.rise (List.mem_cons_of_mem _ List.mem_cons_self) hch
    have ldr : ds.length ≤ rs.length := sub_len r1.nodup hdr
    have lyd : yl.length = ds.length := Paired.length hds
    refine ⟨pl, rfl, ⟨yl, sq_of hyl⟩, fun Dd hDd => ?_⟩
    let Pv : Nat → Hp → Prop := fun i H' => Ex H2 H' ∧ H' Dd = some (.dT (dtab (ds.take i) fun _ => .bl true))
    refine cm_it (walk_list (K := K) (a := pl) (xs := yl)) Pv ⟨Ex.new hDd, upd_same⟩ (fun i H' _ q => sq_of (q.1 _ _ hyl)) (fun i x' H' H'' hi ⟨e', hd'⟩ y' => ?_) fun H3 ⟨e3, hd3⟩ => ?_
    · obtain ⟨rfl, hm⟩ := y'
      obtain ⟨r, hr, hrow⟩ := Paired.at_l hds i x' hm
      have nrp : r ∉ ds.take i := fun z => by
        obtain ⟨i', hi', ei⟩ := List.mem_iff_getElem.mp z
        rw [List.length_take] at hi'
        rw [List.getElem_take] at ei
        have a1 := idxOf_at r1.nodup (show ds[i']? = some r by rw [← ei]; exact List.getElem?_eq_getElem _)
        have a2 := idxOf_at r1.nodup hr
        omega
      refine ⟨rfl, yes_go ⟨x', rfl, _, dput_new hd' (hrow.ex e') nrp (by rw [List.length_take]; omega), Ex.mut e' hDd, ?_⟩⟩
      rw [upd_same, take_next hr]
      refine congrArg (fun z => some (HO.dT z)) (dtab_congr fun q hq => ?_)
      unfold fset
      split <;> rfl
    · rw [lyd, List.take_length] at hd3
      have e13 := (e1.trans e2).trans e3
      obtain ⟨yb, ys, rfl, hys, hyp⟩ := id hy
      refine q_asgL (el_lst (ea_cons ev_c (ea_starS (ev_var rfl) (hys.ex e13) ea_nil)) (by rw [List.append_nil]; show ys.length + 1 ≤ 100000; have := Paired.length hyp; have := pm.length_eq; omega)) fun pa H4 npa e4 hpa => ?_
      rw [List.append_nil] at hpa
      have e14 := e13.trans e4
      have hlen : ys.length = qs.length := Paired.length hyp
      refine (ef_enumS (K := K) (fun H y (m : Move) => IsMv H y m.1 m.2) (fun _ _ _ _ e h => h.tk e) (planAt qs ds) rfl (a := yb) (xs := ys) (j1 := 5) (j2 := 4) (vs := [5, 4]) (σ := [some x, some (V.ref yb), some (.ref Dd), some (.ref pa), none, none]) (H := H4) (fun i hi => ?_) (ev_var rfl) (hys.ex e14) (fun _ _ => rfl) (fun i y H5 hi e5 => ?_)) H4 (Ex.refl _) _ fun p H5 np e5 ⟨yz, hyz, hmv⟩ => ?_
      · have := planAt_len (qs := qs) (ds := ds) i
        have := pm.length_eq
        omega
      · obtain ⟨r, hr, hrow⟩ := Paired.at_l hyp i y hi
        have e1 : planAt qs ds (i + 1) = planAt qs ds i ++ (if r ∈ ds then [] else [(r, if i = 0 then none else qs[i - 1]?)]) := by
          show planAt qs ds i ++ (match qs[i]? with | some r => if r ∈ ds then [] else [(r, if i = 0 then none else qs[i - 1]?)] | none => []) = _
          rw [hr]
        refine ⟨!decide (r ∈ ds), et_test (et_dnin (ev_var rfl) (ev_var rfl) ((e4.trans e5) _ _ hd3) (hrow.ex (e14.trans e5))), fun hb => ?_, fun hb => ?_⟩
        · have hd : r ∈ ds := by
            by_cases z : r ∈ ds
            · exact z
            · rw [decide_eq_false z] at hb; cases hb
          rw [e1, if_pos hd, List.append_nil]
        · have hd : r ∉ ds := fun z => by rw [decide_eq_true z] at hb; cases hb
          refine ⟨(r, if i = 0 then none else qs[i - 1]?), by rw [e1, if_neg hd], fun H6 e6 Q' q' => ?_⟩
          have e46 := e5.trans e6
          have hi60 : i < ys.length := (List.getElem?_eq_some_iff.mp hi).1
          obtain ⟨u, hu1, hu2⟩ : ∃ u, (V.non :: ys)[i]? = some u ∧ AhV H6 u (if i = 0 then none else qs[i - 1]?) := by
            cases i with
            | zero => exact ⟨.non, rfl, rfl⟩
            | succ i =>
              have h1 := List.getElem?_eq_getElem (l := ys) (i := i) (by omega)
              obtain ⟨q, hq, hqr⟩ := Paired.at_l hyp i _ h1
              refine ⟨ys[i], by rw [List.getElem?_cons_succ]; exact h1, ?_⟩
              rw [if_neg (by omega)]
              show AhV H6 _ qs[i]?
              rw [hq]
              exact hqr.ex (e14.trans e46)
          refine (eu_tup (σ := ((wipe [some x, some (V.ref yb), some (.ref Dd), some (.ref pa), none, none] [5, 4]).set 5 (some (.int (i : Nat)))).set 4 (some y)) (H := H6) (ea_cons (ev_var rfl) (ea_cons (ev_ixL (K := K) (i := (i : Int)) (ev_var rfl) (ev_var rfl) (sq_of (e46 _ _ hpa)) (atI_nat hu1)) ea_nil)) (show 2 ≤ 100000 by decide)) H6 (Ex.refl _) _ fun t H7 nt e7 ht => ?_
          exact q' _ H7 e7 ⟨t, y, u, rfl, ht, hrow.ex ((e14.trans e46).trans e7), hu2.ex e7⟩
      · rw [hlen] at hmv
        refine k p H5 (fresh_back e14 np) (e14.trans e5) ⟨yz, planAt qs ds qs.length, lev, ahd, M, hyz, hmv, planAt_ok (rs := rs) oq _, plan_led ho.nd pm r1 r2 hdr, hL, hM, ?_, (planAt_nodup oq.nd _ (Nat.le_refl _)).1⟩
        have := plan_len ho.nd pm r1 r2 hdr
        omega
end
end Mv
/-! A for loop in a generator's body, its turns handing out; an if. -/
namespace Mv
open PySem PySem.Spec PyProof.Rows L2
section
variable {M : Model} {A : Around} {R : GenEnd} {Y : Protocol} {n : Nat} {s₀ : Shared} {c : Code} {fs : List Frame} {s : Shared} {env : Env}
  {K : Flow → Sem PySem.Fin} {H : Value → Sem PySem.Fin} {gd : Bool → Bool} {lv : List Value → List Value}
theorem seg_For {target iter : Expr} {body orelse : List Stmt} {pos : Pos} (hs : ∀ x, foldedSetIterable iter env x = pure x)
    (h : wpAny M (A.over c fs) (eval iter env) (fun v s1 => wpAny M (A.over c fs) (pyIter v) (fun it s2 => ∀ p, Seg M A R Y n s₀ (.forLoop target it body orelse env) (M.den (.forLoop target it body orelse env))
      (.ret (fun r => ((match r with | .ok f => (.pure f : Sem Flow) | .error e => .raise e).onRaise (cameBack env)).wrap K H gd lv) none (gd false) (lv []) c p [] :: fs) s2) (fun x s' => Seg M A R Y n s₀ c (H x) fs s') s1) (fun x s' => Seg M A R Y n s₀ c (H x) fs s') s) :
    Seg M A R Y n s₀ c ((exec (.For target iter body orelse pos) env).wrap K H gd lv) fs s := by
  rw [exec_For]
  refine seg_at ?_
  show Seg M A R Y n s₀ c ((eval iter env >>= fun v => (foldedSetIterable iter env v >>= fun x => (standAt iter.pos >>= fun _ => (holding [x] (pyIter x) >>= fun it => runOwn (.forLoop target it body orelse env) env)))).wrap K H gd lv) fs s
  rw [Sem.bind_eq_wrap', Sem.wrap_wrap]
  refine seg_wrap (wpAny_mono h (fun v s1 h1 => ?_) fun _ _ x => x)
  rw [hs v]
  refine seg_at ?_
  show Seg M A R Y n s₀ c ((holding [v] (pyIter v) >>= fun it => runOwn (.forLoop target it body orelse env) env).wrap K H gd lv) fs s1
  rw [Sem.bind_eq_wrap', Sem.wrap_wrap]
  refine seg_wrap (wpAny_mono (wpAny_holding h1) (fun it s2 h2 => ?_) fun _ _ x => x)
  exact seg_call h2
end
section
variable {prog : Program} {w : World} {A : Around} {R : GenEnd} {Y : Protocol} {n : Nat} {s₀ : Shared} {c : Code} {fs : List Frame} {s : Shared} {env : Env}
def hEx (env : Env) : Value → Sem PySem.Fin := fun e => (do noteFrame e env; theTreesLotGoes e : Sem Unit).wrap (fun _ => .raise e) .raise id id
theorem seg_forLoop {target : Expr} {it : Value} {body : List Stmt} (A0 : Around) (hA : A.over (.forLoop target it body [] env) fs = A0)
    (ee : ∀ x s', (fun x s' => Seg (model prog w) A R Y n s₀ (.forLoop target it body [] env) (hEx env x) fs s') x s' → Seg (model prog w) A R Y n s₀ (.forLoop target it body [] env) (hEx env x) fs s')
    (h : wpAny (model prog w) A0 (pyNext it) (fun r s₁ => match r with
      | none => Seg (model prog w) A R Y n s₀ (.block [] env) ((model prog w).den (.block [] env)) fs s₁
      | some v => wpAny (model prog w) A0 (letOwnedTupleGo target it v) (fun _ s₁' => wpAny (model prog w) A0 (assign target env v) (fun _ s₂ =>
          Seg (model prog w) A R Y n s₀ (.forLoop target it body [] env) ((execs body env).wrap (fun f => match f with
            | .next | .cont => .pure (.again (.forLoop target it body [] env))
            | .brk => .pure (.done .next)
            | .ret v => .pure (.done (.ret v))) (hEx env) id id) fs s₂)
          (fun x s' => Seg (model prog w) A R Y n s₀ (.forLoop target it body [] env) (hEx env x) fs s') s₁') (fun x s' => Seg (model prog w) A R Y n s₀ (.forLoop target it body [] env) (hEx env x) fs s') s₁)
      (fun x s' => Seg (model prog w) A R Y n s₀ (.forLoop target it body [] env) (hEx env x) fs s') s) :
    Seg (model prog w) A R Y n s₀ (.forLoop target it body [] env) ((model prog w).den (.forLoop target it body [] env)) fs s := by
  show Seg _ A R Y n s₀ _ ((forTurn target it body [] env).onRaise (fun x => do noteFrame x env; theTreesLotGoes x)) fs s
  unfold forTurn
  rw [Sem.onRaise_eq_wrap]
  refine seg_at ?_
  have hraise : ∀ e : Value, ((do noteFrame e env; theTreesLotGoes e : Sem Unit).bind fun _ => (.raise e : Sem PySem.Fin)) = hEx env e := fun e => by
    rw [Sem.bind_eq_wrap] <;> rfl
  have conv : ∀ {α : Type} {m : Sem α} {K K' : α → Sem PySem.Fin} {s' : Shared}, (∀ a, K a = K' a) → Seg (model prog w) A R Y n s₀ (.forLoop target it body [] env) (m.wrap K' (hEx env) id id) fs s' →
      Seg (model prog w) A R Y n s₀ (.forLoop target it body [] env) (m.wrap K (fun e => (do noteFrame e env; theTreesLotGoes e : Sem Unit).bind fun _ => .raise e) id id) fs s' := fun hK hh => by
    rw [Sem.wrap_congr _ _ _ hK hraise]
    exact hh
  refine conv (m := ((pyNext it).onRaise fun _ => standAt { target.pos with line := 0 }) >>= fun r => match r with
    | none => again (.block [] env)
    | some v => letOwnedTupleGo target it v >>= fun _ => assign target env v >>= fun _ => execs body env >>= fun f => match f with
      | .next | .cont => again (.forLoop target it body [] env)
      | .brk => pure (.done .next)
      | .ret v => pure (.done (.ret v))) (K' := .pure) (fun _ => rfl) ?_
  rw [Sem.bind_eq_wrap', Sem.wrap_wrap]
  refine seg_wrap ?_
  rw [hA]
  refine wpAny_onRaise (wpAny_mono h (fun r s₁ h₁ => ?_) fun _ _ h' => wpAny_standAt h')
  cases r with
  | none => exact seg_again rfl h₁
  | some v =>
    show Seg _ A R Y n s₀ _ ((letOwnedTupleGo target it v >>= fun _ => assign target env v >>= fun _ => execs body env >>= fun f => match f with
      | .next | .cont => again (.forLoop target it body [] env)
      | .brk => pure (.done .next)
      | .ret v => pure (.done (.ret v))).wrap .pure (hEx env) id id) fs s₁
    rw [Sem.bind_eq_wrap', Sem.wrap_wrap]
    refine seg_wrap ?_
    rw [hA]
    refine wpAny_mono h₁ (fun _ s₁' h₁' => ?_) fun _ _ x => x
    show Seg _ A R Y n s₀ _ ((assign target env v >>= fun _ => execs body env >>= fun f => match f with
      | .next | .cont => again (.forLoop target it body [] env)
      | .brk => pure (.done .next)
      | .ret v => pure (.done (.ret v))).wrap .pure (hEx env) id id) fs s₁'
    rw [Sem.bind_eq_wrap', Sem.wrap_wrap]
    refine seg_wrap ?_
    rw [hA]
    refine wpAny_mono h₁' (fun _ s₂ h₂ => ?_) fun _ _ x => x
    show Seg _ A R Y n s₀ _ ((execs body env >>= fun f => match f with
      | .next | .cont => again (.forLoop target it body [] env)
      | .brk => pure (.done .next)
      | .ret v => pure (.done (.ret v))).wrap .pure (hEx env) id id) fs s₂
    rw [Sem.bind_eq_wrap', Sem.wrap_wrap]
    exact cast (congrArg (fun t => Seg (model prog w) A R Y n s₀ (.forLoop target it body [] env) t fs s₂) (Sem.wrap_congr (execs body env) _ _ (fun f => by cases f <;> rfl) (fun _ => rfl)).symm) h₂
end
section
variable {X : Cx}
def tGFor (wi : TI) (g : TG) (tb : TGn) : TGn := fun D ys σ H => wi σ H fun J H1 => ∃ W : Nat → Nat → List V → L2.St → Hp → Prop, (∃ m, W 0 m ys σ H1) ∧ ∀ i m ys σ H, W i m ys σ H →
  (J.stop i H ∧ D.nx ys σ H) ∨ (J.go i H ∧ ∃ N : List V → L2.St → Hp → Prop, (∀ ys' σ' H', N ys' σ' H' → ∃ m', m' < m ∧ W (i + 1) m' ys' σ' H') ∧ ∀ x H', J.yld i H x H' → g x σ H' fun σ2 H2 => tb { D with nx := N, ct := N, bk := D.nx } ys σ2 H2)
theorem gs_for {tg iter : Expr} {body : List Stmt} {wi : TI} {g : TG} {tb : TGn} {pos : Pos} (hp : PassesOwn (model X.prog X.w) X.A X.env X.xe) (hc : X.calm = true) (hi : PI X tg iter wi) (hg : PG X tg g) (hb : GSs X body tb)
    (hs : ∀ x, foldedSetIterable iter X.env x = pure x := by intro _; rfl) : GS X (.For tg iter body [] pos) (tGFor wi g tb) := by
  refine ⟨fun A S ip R n ys s₀ c fs K J gd lv s σ H D gc hn k hI ht => ?_⟩
  obtain ⟨acc, cc, r, I⟩ := hI
  refine seg_For hs ?_
  rw [gc.over]
  refine wpAny_mono (hi.run _ s σ H _ I ht) (fun v s1 h1 => wpAny_mono h1 (fun itv s2 h2 => ?_) fun x s' hx => k.exc n s₀ x s' hx) fun x s' hx => k.exc n s₀ x s' hx
  obtain ⟨it, fp, tn, Jt, H2, e, I2, T, st2, f2, W, ⟨m0, w0⟩, turn⟩ := h2
  subst e
  intro p
  have gl := fun (kk : Result → Sem PySem.Fin) => gc_loop (k := kk) (c' := .forLoop tg (.ref it) body [] X.env) (l := lv []) (kp := []) (p := p) gc rfl rfl
  have gb := fun (kk : Result → Sem PySem.Fin) => gc_loop (k := kk) (c' := .block [] X.env) (l := lv []) (kp := []) (p := p) gc rfl rfl
  have stat : ∀ {H' : Hp} (acc' : Array Value) (c' : Nat), (∀ b ∈ fp, H' b = none) → ∀ b ∈ fp, FpOk X ((S, lstObj acc' c') :: ip) H' b := fun acc' c' hn b hb => by
    obtain ⟨_, g1, g2, g3, g4, g5⟩ := f2 b hb
    refine ⟨hn b hb, g1, g2, g3, g4, fun p hp => ?_⟩
    rcases List.mem_append.mp hp with hp | hp
    · exact g5 p (List.mem_append_left _ hp)
    · rcases List.mem_cons.mp hp with hp | hp
      · rw [hp]
        exact g5 (S, lstObj acc cc) (List.mem_append_right _ List.mem_cons_self)
      · exact g5 p (List.mem_append_right _ (List.mem_cons_of_mem _ hp))
  have loop : ∀ (m n : Nat) (i : Nat) (ys : List V) (s₀ s : Shared) (σ : L2.St) (H : Hp), n + ys.length = sizeLine → W i m ys σ H → GI X S ip ys σ H s → tn i s.heap → (∀ b ∈ fp, H b = none) →
      Seg (model X.prog X.w) A R (GY X S) n s₀ (.forLoop tg (.ref it) body [] X.env) ((model X.prog X.w).den (.forLoop tg (.ref it) body [] X.env))
        (.ret (fun r => ((match r with | .ok f => (.pure f : Sem Flow) | .error e => .raise e).onRaise (cameBack X.env)).wrap K J gd lv) none (gd false) (lv []) c p [] :: fs) s := by
    intro m
    induction m using Nat.strongRecOn with
    | ind m ih =>
      intro n i ys s₀ s σ H hn w hI hst hfr
      have ee : ∀ (n : Nat) (s₀ : Shared) (x : Value) (s' : Shared), X.xe x s' → Seg (model X.prog X.w) A R (GY X S) n s₀ (.forLoop tg (.ref it) body [] X.env) (hEx X.env x)
          (.ret (fun r => ((match r with | .ok f => (.pure f : Sem Flow) | .error e => .raise e).onRaise (cameBack X.env)).wrap K J gd lv) none (gd false) (lv []) c p [] :: fs) s' := fun n s₀ x s' hx => by
        refine seg_wrap ?_
        rw [(gl _).over]
        refine wpAny_bind (wpAny_mono (hp x s' hx) (fun _ s'' hcb => wpAny_theTreesLotGoes ?_) fun y s'' hcb => ?_)
        · exact seg_leaf (.error x) (seg_cameBack gc k hcb)
        · exact seg_leaf (.error y) (seg_cameBack gc k hcb)
      obtain ⟨acc, cc, r, I⟩ := hI
      refine seg_forLoop X.A (gl _).over (fun _ _ x => x) ?_
      rcases turn i m ys σ H w with ⟨stop, qn⟩ | ⟨go, N, hN, step⟩
      · refine wpAny_mono (T.done X rfl rfl rfl hc i _ s σ H X.xe I (stat acc cc hfr) hst stop) (fun r' s4 ⟨hr, I4⟩ => ?_) fun x s' hx => ee n s₀ x s' hx
        subst hr
        show Seg _ _ _ _ _ _ _ (do return Fin.done (← (execs [] X.env).onRaise (fun x => do noteFrame x X.env; theTreesLotGoes x))) _ _
        exact seg_leaf (.ok .next) (k.ok n ys s₀ s4 .next hn ⟨σ, H, ⟨acc, cc, r, I4⟩, qn⟩)
      · refine wpAny_mono (T.item X rfl rfl rfl hc i _ s σ H X.xe I (stat acc cc hfr) hst go) (fun r' s4 ⟨u, hr, h4⟩ => ?_) fun x s' hx => ee n s₀ x s' hx
        subst hr
        refine wpAny_mono h4 (fun _ s5 ⟨x, H5, I5, r5, y5, st5, fr5⟩ => ?_) fun x s' hx => ee n s₀ x s' hx
        have I5' := I5.pinned (stat acc cc fr5) (T.obj _ _ st5)
        refine wpAny_mono (hg.run _ s5 σ H5 x u _ I5' r5 (step x H5 y5)) (fun _ s6 ⟨σ6, H6, I6, q6⟩ => ?_) fun x s' hx => ee n s₀ x s' hx
        have gl' : GC X S (ip ++ pinsAt fp s5.heap) A (.forLoop tg (.ref it) body [] X.env) (.ret (fun r => ((match r with | .ok f => (.pure f : Sem Flow) | .error e => .raise e).onRaise (cameBack X.env)).wrap K J gd lv) none (gd false) (lv []) c p [] :: fs) id := by
          obtain ⟨g1, g2, g3, g4, g5, g6, g7⟩ := gl (fun r => ((match r with | .ok f => (.pure f : Sem Flow) | .error e => .raise e).onRaise (cameBack X.env)).wrap K J gd lv)
          refine ⟨g1, fun q hq => ?_, g3, g4, g5, g6, g7⟩
          rcases List.mem_append.mp hq with hq | hq
          · exact g2 q hq
          · obtain ⟨z1, _⟩ := of_pinsAt hq
            have z2 := (stat acc cc fr5 q.1 z1).2.2.2.2.2 (S, lstObj acc cc) (List.mem_append_right _ List.mem_cons_self)
            exact fun z => z2 z.symm
        refine hb.run A S (ip ++ pinsAt fp s5.heap) R n ys s₀ _ _ _ _ id id s6 σ6 H6 { D with nx := N, ct := N, bk := D.nx } gl' hn ⟨fun n' ys' s₀' s3 f hn' hsf => ?_, fun n' s₀' x s3 hx => ee n' s₀' x s3 hx⟩ ⟨acc, cc, r, I6⟩ q6
        have dropP : ∀ {σ7 : L2.St} {H7 : Hp}, GI X S (ip ++ pinsAt fp s5.heap) ys' σ7 H7 s3 → GI X S ip ys' σ7 H7 s3 ∧ tn (i + 1) s3.heap ∧ ∀ b ∈ fp, H7 b = none := fun {σ7 H7} ⟨a7, c7, r7, I7⟩ => by
          refine ⟨⟨a7, c7, r7, I7.unpinned (pins := (S, lstObj a7 c7) :: ip) (pl := pinsAt fp s5.heap)⟩, T.keep _ _ _ st5 fun b hb o e => (I7.pin (b, o) (List.mem_append_right _ (List.mem_cons_of_mem _ (List.mem_append_right _ (mem_pinsAt hb e))))).1, fun b hb => ?_⟩
          obtain ⟨o, e, d⟩ := T.obj _ _ st5 b hb
          exact (I7.pin (b, o) (List.mem_append_right _ (List.mem_cons_of_mem _ (List.mem_append_right _ (mem_pinsAt hb e))))).2.1
        cases f with
        | next =>
          obtain ⟨σ3, H3, I3, n3⟩ := hsf
          obtain ⟨m', hm, w3⟩ := hN ys' σ3 H3 n3
          obtain ⟨z1, z2, z3⟩ := dropP I3
          exact seg_again rfl (ih m' hm n' (i + 1) ys' s₀' s3 σ3 H3 hn' w3 z1 z2 z3)
        | cont =>
          obtain ⟨σ3, H3, I3, n3⟩ := hsf
          obtain ⟨m', hm, w3⟩ := hN ys' σ3 H3 n3
          obtain ⟨z1, z2, z3⟩ := dropP I3
          exact seg_again rfl (ih m' hm n' (i + 1) ys' s₀' s3 σ3 H3 hn' w3 z1 z2 z3)
        | brk =>
          obtain ⟨σ3, H3, I3, n3⟩ := hsf
          exact seg_leaf (.ok .next) (k.ok n' ys' s₀' s3 .next hn' ⟨σ3, H3, (dropP I3).1, n3⟩)
        | ret v =>
          obtain ⟨v3, σ3, H3, I3, r3, n3⟩ := hsf
          exact seg_leaf (.ok (.ret v)) (k.ok n' ys' s₀' s3 (.ret v) hn' ⟨v3, σ3, H3, (dropP I3).1, r3, n3⟩)
  exact loop m0 n 0 ys s₀ s2 σ H2 hn w0 ⟨acc, cc, r, I2⟩ st2 fun b hb => (f2 b hb).1
end
end Mv
/-! walk_moves, apply_moves. -/
namespace Mv
open PySem PySem.Spec PyProof.Rows L2 Evl
theorem passF {X : Cx} : Passes (L2.CX X.prog X.w) X (fun _ _ _ => False) := fun _ _ _ _ _ _ _ h => by
  obtain ⟨_, _, _, _, _, _, _, _, _, _, _, _, z⟩ := h
  exact z.elim
theorem noStopF {K : PySem.W.Frag} : NoStop K (fun _ _ _ => False) := fun _ _ _ h => h.elim
theorem gfor_it {J : It} {n : Nat} {G : Hp → Prop} {Y : Nat → Hp → V → Hp → Prop} (w : Walk J n G Y) {g : TG} {tb : TGn} {D : GEnds} {ys0 : List V} {σ : L2.St} {H : Hp} (Pv : Nat → List V → L2.St → Hp → Prop) (h0 : Pv 0 ys0 σ H) (hG : ∀ i ys σ H, i ≤ n → Pv i ys σ H → G H)
    (hs : ∀ i x ys σ H H', i < n → Pv i ys σ H → Y i H x H' → g x σ H' fun σ2 H2 => tb { D with nx := Pv (i + 1), ct := Pv (i + 1), bk := D.nx } ys σ2 H2) (hd : ∀ ys σ H, Pv n ys σ H → D.nx ys σ H) :
    ∃ W : Nat → Nat → List V → L2.St → Hp → Prop, (∃ m, W 0 m ys0 σ H) ∧ ∀ i m ys σ H, W i m ys σ H →
      (J.stop i H ∧ D.nx ys σ H) ∨ (J.go i H ∧ ∃ N : List V → L2.St → Hp → Prop, (∀ ys' σ' H', N ys' σ' H' → ∃ m', m' < m ∧ W (i + 1) m' ys' σ' H') ∧ ∀ x H', J.yld i H x H' → g x σ H' fun σ2 H2 => tb { D with nx := N, ct := N, bk := D.nx } ys σ2 H2) := by
  refine ⟨fun i m ys σ H => m = n - i ∧ i ≤ n ∧ Pv i ys σ H, ⟨n, by simp, Nat.zero_le _, h0⟩, ?_⟩
  rintro i m ys σ H ⟨rfl, hi, p⟩
  have q := hG i ys σ H hi p
  by_cases hlt : i < n
  · refine .inr ⟨w.goes i H hlt q, Pv (i + 1), fun ys' σ' H' p' => ⟨n - (i + 1), by omega, rfl, hlt, p'⟩, fun x H' y => hs i x ys σ H H' hlt p (w.yields i H x H' hlt q y)⟩
  · have e : i = n := by omega
    subst e
    exact .inl ⟨w.stops H q, hd ys σ H p⟩
section
variable {σ : L2.St} {H : Hp} {te : TE} {v : V} {D : GEnds} {ys : List V} {u : TGn}
theorem g_asgL {i : Nat} {xs : List V} (h : EvL te σ H xs) (k : ∀ p H1, H p = none → Ex H H1 → H1 p = some (.lst xs) → u D ys (σ.set i (some (.ref p))) H1) : tGThen (tPlain (tAsg te (gName i))) u D ys σ H := h H (Ex.refl H) _ fun p H1 hp e hl => k p H1 hp e hl
theorem g_skip {t : TT} {tu : TS} (h : EvT t σ H false) (k : ∀ H1, Ex H H1 → u D ys σ H1) : tGThen (tPlain (tIfS t tu tNext)) u D ys σ H := h H (Ex.refl H) _ fun H1 e => iteF (k H1 e)
def GLoop (J : It) (g : TG) (tb : TGn) (D : GEnds) (ys : List V) (σ : L2.St) (H : Hp) : Prop := ∃ W : Nat → Nat → List V → L2.St → Hp → Prop, (∃ m, W 0 m ys σ H) ∧ ∀ i m ys σ H, W i m ys σ H →
  (J.stop i H ∧ D.nx ys σ H) ∨ (J.go i H ∧ ∃ N : List V → L2.St → Hp → Prop, (∀ ys' σ' H', N ys' σ' H' → ∃ m', m' < m ∧ W (i + 1) m' ys' σ' H') ∧ ∀ x H', J.yld i H x H' → g x σ H' fun σ2 H2 => tb { D with nx := N, ct := N, bk := D.nx } ys σ2 H2)
theorem g_forEnumN {K : PySem.W.Frag} {xs : List V} {g : TG} {tb : TGn} (h : EvL te σ H xs) (k : ∀ p H1, H p = none → Ex H H1 → H1 p = some (.lst xs) → GLoop (Ite K p) g tb { D with nx := fun ys' σ' H' => u D ys' σ' H' } ys σ H1) :
    tGThen (tGFor (iEnum K (tCons te tNil)) g tb) u D ys σ H := h H (Ex.refl H) _ fun p H1 hp e hl => ⟨p, xs, rfl, sq_of hl, k p H1 hp e hl⟩
theorem g_drop (h : Ev te σ H v) (k : ∀ H1, Ex H H1 → u D ys σ H1) : tGThen (tPlain (tDrop te)) u D ys σ H := h H (Ex.refl H) _ fun H1 e => k H1 e
end
theorem gsc_walk_moves : GScope N_walk_moves ["rows", "moves"] (defScope s_walk_moves) := ⟨rfl, rfl, rfl, by decide +kernel, rfl, by decide +kernel, by decide +kernel⟩
section
variable {P : Program} {w : World} {K : PySem.W.Frag} {mg : Str → Option Value} {base : Heap} {a : Nat → Addr} {d : Nat → FuncData} {tk : Nat → Tok}
def sp_walk_moves : SpG := fun vs H Q _ => ∃ (x y : V) (rs l : List Row) (ms : List Move) (n : Nat), vs = [x, y] ∧ Rws H x rs ∧ OkRows n rs ∧ MvS H y ms ∧ (∀ m ∈ ms, OkMv n m) ∧ ms.length ≤ 300 ∧ led rs ms = some l ∧
  ∀ ys H2, Ex H H2 → ys.length = ms.length → (∀ v, ys.getLast? = some v → LRw H2 v l) → Q ys H2
theorem ok_walk_moves (T : All K mg a d tk) : GFn P w K mg base 7 (a 20) (d 20) ["rows", "moves"] sp_walk_moves := by
  obtain ⟨oc, od, kV, doc, pm, an, cdv, ct, osl, e1, lk, hcd⟩ := T.F_walk_moves.fn.ex
  rw [e1] at lk ⊢
  refine gfn_of lk hcd gsc_walk_moves (fun vs H Q E h => ?_) fun A outer s H vs Q E pn hr h => ?_
  · obtain ⟨x, y, rs, l, ms, n, rfl, _⟩ := h
    rfl
  · obtain ⟨x, y, rs, l, ms, n, rfl, hx, ho, hm, om, l300, hL, k⟩ := h
    have nd := gsc_walk_moves.nd
    refine ⟨_, (gss_cons (gs_ps (ps_expr (pe_call (ok_need_moves T) (hr.mono (by decide)) rfl T.F_need_moves.m T.F_need_moves.kp T.F_need_moves.b .nil pass0 (pa_cons (pv 0) (pa_cons (pv 1) pa_nil)))))
 (gss_cons (gs_ps (ps_set (i := 2) nd rfl (Or.inl rfl) (pe_callTy call_list_of rfl T.n_list PyProof.Rows.boot_list (pa_cons (pv 0) pa_nil))))
 (gss_cons (gs_for owns_gcx rfl (pi_enum rfl T.n_enumerate (pa_cons (pe_callTy call_list_of rfl T.n_list PyProof.Rows.boot_list (pa_cons (pv 1) pa_nil)) pa_nil)) (pg_tup rfl (pgs_cons (pg_name (i := 3) nd rfl (Or.inl rfl)) (pgs_cons (pg_name (i := 4) nd rfl (Or.inl rfl)) pgs_nil)))
 (gss_cons (gs_ps (ps_set (i := 2) nd rfl (Or.inl rfl) (pe_call (ok_moved T) (hr.mono (by decide)) rfl T.F_moved.m T.F_moved.kp T.F_moved.b .nil pass0 (pa_cons (pv 2) (pa_cons (pv 4) pa_nil)))))
 (gss_cons (gs_ps (ps_if (pt_cmp (pc_isN (pv 2)))
 (pss_one ps_dead)
 pss_nil))
 (gss_cons (gs_yield (pe_callTy call_list_of rfl T.n_list PyProof.Rows.boot_list (pa_cons (pv 2) pa_nil)))
 gss_nil))))
 gss_nil))), ?_⟩
    have nR := ho.nd
    obtain ⟨xb, xs, rfl, hxs, hxp⟩ := id hx
    obtain ⟨yb, zs, rfl, hzs, hzm⟩ := id hm
    refine g_drop (ev_call (ea_cons (ev_var rfl) (ea_cons (ev_var rfl) ea_nil)) (spv_need_moves hx ho hm om l300)) fun H1 e1 => ?_
    refine g_asgL (el_listS (ev_var rfl) (hxs.ex e1)) fun q H2 nq e2 h2 => ?_
    have e12 := e1.trans e2
    refine g_forEnumN (el_listS (ev_var rfl) (hzs.ex e12)) fun mq H3 nmq e3 h3 => ?_
    have e13 := e12.trans e3
    let Pv : Nat → List V → L2.St → Hp → Prop := fun i ys σ' H' => Ex H3 H' ∧ ∃ (b : Addr) (v3 v4 : Option V) (l' : List Row), σ' = [some (.ref xb), some (.ref yb), some (.ref b), v3, v4] ∧ led rs (ms.take i) = some l' ∧ LRw H' (.ref b) l' ∧ ys.length = i ∧ ∀ v, ys.getLast? = some v → LRw H' v l'
    refine gfor_it (walk_enum (K := K) (a := mq) (xs := zs)) Pv ⟨Ex.refl _, q, none, none, rs, rfl, rfl, ⟨q, xs, rfl, e3 _ _ h2, Paired.imp (fun _ _ h => h.ex e13) hxp⟩, rfl, fun v h => by cases h⟩ (fun i ys σ' H' _ h => sq_of (h.1 _ _ h3)) ?_ ?_
    · rintro i m ys σ' H' H'' hi ⟨e', b, v3, v4, l', rfl, hl, hb, ly, hv⟩ ⟨T0, x1, x2, rfl, hT0, rfl, ex1, ex2⟩
      cases ex1
      have eT : Ex H' (upd H' T0 (.tup [.int (i : Nat), x2])) := Ex.new hT0
      obtain ⟨mv, hmvi, hmm⟩ := Paired.at_l hzm i x2 ex2
      have nx : led rs (ms.take (i + 1)) = done l' mv.1 mv.2 := by rw [take_next hmvi, led_snoc, hl] <;> rfl
      obtain ⟨l2, hl2⟩ := led_take hL (i + 1)
      have pl := led_perm nR _ _ hl
      have hd : done l' mv.1 mv.2 = some l2 := nx.symm.trans hl2
      have eA := (e13.trans e').trans eT
      refine ⟨T0, _, rfl, st_of upd_same, rfl, _, _, rfl, _, _, rfl, rfl, ?_⟩
      refine ⟨_, rfl, x2, rfl, .ref b, x2, l', mv.1, mv.2, rfl, hb.ex eT, hmm.ex eA, by rw [pl.length_eq]; exact ho.few, ?_⟩
      rw [hd]
      intro b' H4 nb e4 hb'
      refine g_skip (t := tB (tIsN (tVar 2))) (tu := fun _ _ _ => False) (σ := [some (V.ref xb), some (.ref yb), some (.ref b'), some (.int (i : Nat)), some x2]) (H := H4) (et_is (et_B (ev_isN (x := .ref b') (ev_var rfl))) rfl) fun H5 e5 => ?_
      have e05 : Ex H' H5 := eT.trans (e4.trans e5)
      refine ⟨Nat.lt_of_le_of_lt (by
        have := (List.getElem?_eq_some_iff.mp hmvi).1
        omega) (show 1000 < sizeLine by decide), ?_⟩
      obtain ⟨b'', ws, eb, hbw, hwp⟩ := id hb'
      cases eb
      refine (el_listS (K := K) (ta := tVar 2) (σ := [some (V.ref xb), some (.ref yb), some (.ref b'), some (.int (i : Nat)), some x2]) (ev_var rfl) (.inl (e5 _ _ hbw))) H5 (Ex.refl _) _ fun yq H6 nyq e6 h6 => ?_
      refine ⟨e'.trans (e05.trans e6), b', _, _, l2, rfl, hl2, (hb'.ex e5).ex e6, by rw [List.length_append, ly] <;> rfl, fun v hv' => ?_⟩
      rw [List.getLast?_append] at hv'
      cases hv'
      exact ⟨yq, ws, rfl, h6, Paired.imp (fun _ _ h => h.ex (e5.trans e6)) hwp⟩
    · rintro ys σ' H' ⟨e', b, v3, v4, l', rfl, hl, hb, ly, hv⟩
      have lz : zs.length = ms.length := Paired.length hzm
      rw [lz, List.take_length, hL] at hl
      cases hl
      exact k ys H' (e13.trans e') (by omega) hv
def sp_apply_moves : Sp := fun vs H Q _ => ∃ (x y : V) (rs l : List Row) (ms : List Move) (n : Nat), vs = [x, y] ∧ Rws H x rs ∧ OkRows n rs ∧ MvS H y ms ∧ (∀ m ∈ ms, OkMv n m) ∧ ms.length ≤ 300 ∧ led rs ms = some l ∧ ∀ v H2, Ex H H2 → LRw H2 v l → Q v H2
theorem ok_apply_moves (T : All K mg a d tk) : FnOk P w K mg base CX0 11 (a 21) (d 21) ["rows", "moves"] sp_apply_moves := by
  refine T.F_apply_moves.fn.ok sc_apply_moves (fun vs H Q E h => ?_) (fun cdv A outer s H vs Q E hr h => ?_)
  · obtain ⟨x, y, rs, l, ms, n, rfl, _⟩ := h
    rfl
  · obtain ⟨x, y, rs, l, ms, n, rfl, hx, ho, hm, om, l300, hL, k⟩ := h
    have nd := sc_apply_moves.nd
    refine ⟨_, (pss_one (ps_ret (pe_ix ix_list (pe_op op_cat (pe_lst (pa_cons (pe_ifExp (pt_val (pe_call (ok_is_list T) (hr.mono (by decide)) rfl T.F_is_list.m T.F_is_list.kp T.F_is_list.b .nil pass0 (pa_cons (pv 0) pa_nil))) (pe_callTy call_list_of rfl T.n_list PyProof.Rows.boot_list (pa_cons (pv 0) pa_nil)) (pe_lst pa_nil)) pa_nil)) (pe_listG (pgen_call (ok_walk_moves T) (hr.mono (by decide)) rfl T.F_walk_moves.m T.F_walk_moves.kp T.F_walk_moves.b .nil (pa_cons (pv 0) (pa_cons (pv 1) pa_nil))) passF noStopF (hr.mono (by decide)) rfl T.n_list PyProof.Rows.boot_list)) (pe_un un_neg pe_int) (fun _ _ => rfl)))), ?_⟩
    obtain ⟨xb, xs, rfl, hxs, hxp⟩ := id hx
    have c0 : EvF (tIf (tB (tCall sp_is_list [] E0 (tCons (tVar 0) tNil))) (tCB (rListS K) (tCons (tVar 0) tNil)) (tLst tNil)) [some (V.ref xb), some y] H (fun p H2 => H2 p = some (.lst xs)) := fun H1 e Q q => by
      refine (et_B (ev_call (ea_cons (ev_var rfl) ea_nil) (spv_is_list hxs))) H1 e _ fun H2 e2 => ?_
      refine iteT (el_listS (K := K) (ta := tVar 0) (ev_var rfl) (hxs.ex (e.trans e2)) H2 (Ex.refl _) _ fun p H3 np e3 h3 => ?_)
      exact q p H3 (fresh_back e2 np) (e2.trans e3) h3
    refine c0 H (Ex.refl _) _ fun p0 H1 np0 e1 h0 => ?_
    refine ⟨sz_of (show 1 ≤ 100000 by decide), fun p1 np1 => ?_⟩
    have e2 : Ex H1 (upd H1 p1 (.lst [V.ref p0])) := Ex.new np1
    have e02 := e1.trans e2
    refine ⟨_, rfl, _, rfl, _, _, rs, l, ms, n, rfl, hx.ex e02, ho, hm.ex e02, om, l300, hL, fun ys H3 e3 ly hlast p3 np3 => ?_⟩
    have e4 : Ex H3 (upd H3 p3 (.lst ys)) := Ex.new np3
    have n13 : p1 ≠ p3 := fun z => by rw [← z, e3 _ _ upd_same] at np3; cases np3
    refine ⟨p1, p3, [.ref p0], ys, rfl, rfl, e4 _ _ (e3 _ _ upd_same), upd_same, sz_of (show _ ≤ 100000 by show 1 + ys.length ≤ 100000; omega), fun p5 np5 => ?_⟩
    have e5 : Ex (upd H3 p3 (.lst ys)) (upd (upd H3 p3 (.lst ys)) p5 (.lst ([.ref p0] ++ ys))) := Ex.new np5
    have e35 := e4.trans e5
    have e05 := e02.trans (e3.trans e35)
    refine ⟨1, rfl, ?_⟩
    rcases Classical.em (ys = []) with z | z
    · subst z
      have : ms = [] := List.length_eq_zero_iff.mp ly.symm
      subst this
      cases hL
      refine ⟨p5, _, -1, .ref p0, rfl, rfl, sq_of upd_same, rfl, k _ _ e05 ⟨p0, xs, rfl, (e2.trans (e3.trans e35)) _ _ h0, Paired.imp (fun _ _ h => h.ex e05) hxp⟩⟩
    · obtain ⟨v, hv⟩ : ∃ v, ys.getLast? = some v := by
        cases hq : ys.getLast? with
        | none => exact absurd (List.getLast?_eq_none_iff.mp hq) z
        | some v => exact ⟨v, rfl⟩
      refine ⟨p5, _, -1, v, rfl, rfl, sq_of upd_same, ?_, k v _ e05 (LRw.ex (hlast v hv) e35)⟩
      have hne : ([V.ref p0] ++ ys) ≠ [] := by simp
      have hl2 : ([V.ref p0] ++ ys).getLast? = some v := by rw [List.getLast?_append, hv] <;> rfl
      obtain ⟨zs', ez⟩ := List.getLast?_eq_some_iff.mp hl2
      rw [ez]
      exact atI_last _ _
end
end Mv
/-! _law_stay: a longest chain, from the end. -/
namespace Mv
open PySem PySem.Spec PyProof.Rows L2 Evl
structure DP (rs qs ks : List Row) (C : Row → List Row) : Prop where
  ch : ∀ r ∈ ks, ∃ t, C r = r :: t ∧ (∀ q ∈ t, q ∈ ks) ∧ Rise rs (C r) ∧ Rise qs (C r)
  best : ∀ r ∈ ks, ∀ c, Rise rs (r :: c) → Rise qs (r :: c) → (∀ q ∈ c, q ∈ rs) → c.length + 1 ≤ (C r).length
theorem rise_cons {L c : List Row} {r : Row} : Rise L (r :: c) ↔ (∀ q ∈ c, L.idxOf r < L.idxOf q) ∧ Rise L c := List.pairwise_cons
/-- a longest of the chains that may follow r -/
structure Bst (qs ks : List Row) (C : Row → List Row) (r : Row) (B : List Row) : Prop where
  how : B = [] ∨ ∃ q ∈ ks, B = C q ∧ qs.idxOf r < qs.idxOf q
  top : ∀ q ∈ ks, qs.idxOf r < qs.idxOf q → (C q).length ≤ B.length
theorem Bst.none {qs : List Row} {C : Row → List Row} {r : Row} : Bst qs [] C r [] := ⟨.inl rfl, fun q h => absurd h (by simp)⟩
theorem Bst.keep {qs ks : List Row} {C : Row → List Row} {r q : Row} {B : List Row} (h : Bst qs ks C r B) (n : qs.idxOf r < qs.idxOf q → (C q).length ≤ B.length) : Bst qs (ks ++ [q]) C r B :=
  ⟨h.how.imp id fun ⟨z, h1, h2⟩ => ⟨z, List.mem_append_left _ h1, h2⟩, fun z hz hr => by
    rcases List.mem_append.mp hz with hz | hz
    · exact h.top z hz hr
    · rw [List.mem_singleton.mp hz] at hr ⊢
      exact n hr⟩
theorem Bst.new {qs ks : List Row} {C : Row → List Row} {r q : Row} {B : List Row} (h : Bst qs ks C r B) (h1 : qs.idxOf r < qs.idxOf q) (h2 : B.length < (C q).length) : Bst qs (ks ++ [q]) C r (C q) :=
  ⟨.inr ⟨q, List.mem_append_right _ List.mem_cons_self, rfl, h1⟩, fun z hz hr => by
    rcases List.mem_append.mp hz with hz | hz
    · have := h.top z hz hr
      omega
    · rw [List.mem_singleton.mp hz]
      exact Nat.le_refl _⟩
theorem DP.step {rs qs ks : List Row} {C : Row → List Row} (h : DP rs qs ks C) {r : Row} {B : List Row} (b : Bst qs ks C r B) (hr : r ∉ ks) (lt : ∀ q ∈ ks, rs.idxOf r < rs.idxOf q) (ge : ∀ q ∈ rs, rs.idxOf r < rs.idxOf q → q ∈ ks) :
    DP rs qs (ks ++ [r]) (nset C r (r :: B)) := by
  have ne : ∀ {q : Row}, q ∈ ks → q ≠ r := fun hq e => hr (e ▸ hq)
  constructor
  · intro q hq
    rcases List.mem_append.mp hq with hq | hq
    · obtain ⟨t, h1, h2, h3, h4⟩ := h.ch q hq
      rw [nset_ne (ne hq)]
      exact ⟨t, h1, fun z hz => List.mem_append_left _ (h2 z hz), h3, h4⟩
    · rw [List.mem_singleton.mp hq, nset_same]
      have hB : (∀ z ∈ B, z ∈ ks) ∧ Rise rs B ∧ Rise qs B ∧ ∀ z ∈ B, qs.idxOf r < qs.idxOf z := by
        rcases b.how with z | ⟨z, hz, e, hi⟩
        · subst z
          exact ⟨fun z h => absurd h (by simp), List.Pairwise.nil, List.Pairwise.nil, fun z h => absurd h (by simp)⟩
        · subst e
          obtain ⟨t, h1, h2, h3, h4⟩ := h.ch z hz
          rw [h1] at h3 h4 ⊢
          refine ⟨fun u hu => ?_, h3, h4, fun u hu => ?_⟩
          · rcases List.mem_cons.mp hu with e | hu
            · rw [e]; exact hz
            · exact h2 u hu
          · rcases List.mem_cons.mp hu with e | hu
            · rw [e]; exact hi
            · have := (rise_cons.mp h4).1 u hu
              omega
      obtain ⟨b1, b2, b3, b4⟩ := hB
      exact ⟨B, rfl, fun z hz => List.mem_append_left _ (b1 z hz), rise_cons.mpr ⟨fun z hz => lt z (b1 z hz), b2⟩, rise_cons.mpr ⟨b4, b3⟩⟩
  · intro q hq c h1 h2 h3
    rcases List.mem_append.mp hq with hq | hq
    · rw [nset_ne (ne hq)]
      exact h.best q hq c h1 h2 h3
    · have e := List.mem_singleton.mp hq
      subst e
      rw [nset_same, List.length_cons]
      cases c with
      | nil => simp
      | cons z c =>
        have a1 := (rise_cons.mp h1).1 z List.mem_cons_self
        have a2 := (rise_cons.mp h2).1 z List.mem_cons_self
        have zk := ge z (h3 z List.mem_cons_self) a1
        have := h.best z zk c (rise_cons.mp h1).2 (rise_cons.mp h2).2 fun u hu => h3 u (List.mem_cons_of_mem _ hu)
        have := b.top z zk a2
        rw [List.length_cons]
        omega
/-- as long as any -/
def Longest (rs qs ds : List Row) : Prop := Rise rs ds ∧ Rise qs ds ∧ (∀ r ∈ ds, r ∈ rs) ∧ ∀ c, Rise rs c → Rise qs c → (∀ q ∈ c, q ∈ rs) → c.length ≤ ds.length
theorem Longest.count {rs qs ds : List Row} (h : Longest rs qs ds) {lev : Row → Nat} {ahd : Row → Option Row} {M : Nat} (L : LevOn [rs, qs] rs lev ahd) (hM : IsCount rs lev M) : ds.length = M := by
  obtain ⟨h1, h2, h3, h4⟩ := h
  obtain ⟨c, c1, c2, c3, c4⟩ := chain_most L hM
  have a := h4 c c1 c2 c3
  have b := chain_len L hM h1 h2 h3
  omega
section
variable {K : PySem.W.Frag} {σ : L2.St} {H : Hp} {D : Ends} {tb tz : TS}
/-- for each in a dict of rows, which the body leaves as it is -/
theorem q_forKeys {p : Addr} {ks : List Row} {g : Row → V} {i j : Nat} (hσ : σ[i]? = some (some (.ref p))) (hp : H p = some (.dT (dtab ks g))) (Pv : Obj → Nat → L2.St → Hp → Prop) (h0 : ∀ od, Pv od 0 σ (upd H p (.frz od (.dT (dtab ks g)))))
    (hl : ∀ od i σ' H', Pv od i σ' H' → H' p = some (.frz od (.dT (dtab ks g))))
    (hs : ∀ od (i : Nat) (r : Row) (x : V) σ' H' (rt : VK) (bk : L2.St → Hp → Prop), ks[i]? = some r → Pv od i σ' H' → IsRow H' x r → tb ⟨Pv od (i + 1), rt, bk, Pv od (i + 1)⟩ (σ'.set j (some x)) H')
    (hd : ∀ od σ' H', Pv od ks.length σ' H' → tz D σ' (upd H' p (.dT (dtab ks g)))) : tSeq (tLock (tFor (iKeys (tVar i)) (gName j) tb)) tz D σ H := by
  refine ⟨p, _, hp, trivial, fun od => ⟨.ref p, hσ, p, od, rfl, .inr ⟨_, upd_same, ?_⟩⟩⟩
  have hn : (dtab ks g).length = ks.length := dtab_len ks g
  refine for_it (walk_keysT (d := p) (o := od) (kvs := dtab ks g)) (Pv od) (h0 od) (fun i σ' H' _ q => hl od i σ' H' q) ?_ fun σ' H' q => ?_
  · rintro i x σ' H' H'' hi q ⟨rfl, k, v, b, hk, rfl, hb⟩
    unfold dtab at hk
    rw [List.getElem?_map] at hk
    obtain ⟨r, hr, e⟩ := Option.map_eq_some_iff.mp hk
    cases e
    rw [ky_kV] at hb
    exact hs od i r _ σ' _ _ _ hr q ⟨b, rfl, hb⟩
  · rw [hn] at q
    exact ⟨hl od _ σ' H' q, hd od σ' H' q⟩
end
theorem dget_frz {H : Hp} {p : Addr} {od : Obj} {rs : List (List Int)} {f : List Int → V} {x : V} {r : List Int} (hp : H p = some (.frz od (.dT (dtab rs f)))) (hx : IsRow H x r) (hr : r ∈ rs) : DGet H p x (some (f r)) := by
  obtain ⟨b, rfl, hb⟩ := hx.key
  refine .inr ⟨_, ky r, b, .inr ⟨od, hp⟩, rfl, hb, ?_⟩
  rw [dtab_val, if_pos hr]
theorem ev_dgetF {σ : L2.St} {H : Hp} {ta tb : TE} {x : V} {p : Addr} {od : Obj} {rs : List (List Int)} {f : List Int → V} {r : List Int} (ha : Ev ta σ H (.ref p)) (hb : Ev tb σ H x) (hp : H p = some (.frz od (.dT (dtab rs f)))) (hx : IsRow H x r) (hr : r ∈ rs) : Ev (tDGet ta tb) σ H (f r) := fun H1 e Q q =>
  ha H1 e _ fun H2 e2 => hb H2 (e.trans e2) _ fun H3 e3 => ⟨p, f r, rfl, dget_frz (((e.trans e2).trans e3) _ _ hp) (hx.ex ((e.trans e2).trans e3)) hr, q H3 (e2.trans e3)⟩
section
variable {K : PySem.W.Frag} {σ : L2.St} {H : Hp} {ta tb : TE}
theorem el_revE {a : Addr} {xs : List V} (ha : Ev ta σ H (.ref a)) (h : H a = some (.lst xs)) : EvL (tRevL K ta) σ H xs.reverse := fun H1 e Q q =>
  ha H1 e _ fun H2 e2 => ⟨a, xs, rfl, sq_of (e2 _ _ (e _ _ h)), fun p hp => q p _ (fresh_back e2 hp) (e2.trans (Ex.new hp)) upd_same⟩
theorem el_catLE {xs ys : List V} {b : Addr} (ha : EvL ta σ H xs) (hb : Ev tb σ H (.ref b)) (h : H b = some (.lst ys)) (hz : xs.length + ys.length ≤ 100000) : EvL (tOp rCat ta tb) σ H (xs ++ ys) := fun H1 e Q q =>
  ha H1 e _ fun p H2 hp e2 h1 => hb H2 (e.trans e2) _ fun H3 e3 => ⟨p, b, xs, ys, rfl, rfl, e3 _ _ h1, ((e.trans e2).trans e3) _ _ h, sz_of hz, fun l hl => q l _ (fresh_back (e2.trans e3) hl) ((e2.trans e3).trans (Ex.new hl)) upd_same⟩
end
theorem LRw.ne {H : Hp} {x : V} {rs : List Row} {p : Addr} {kvs : List (List Key × V)} (h : LRw H x rs) (hp : H p = some (.dT kvs)) : x ≠ .ref p := fun z => by
  obtain ⟨b, ys, rfl, hb, _⟩ := h
  cases z
  rw [hp] at hb
  cases hb
structure Lng (ks : List Row) (C : Row → List Row) (F : List Row) : Prop where
  how : F = [] ∨ ∃ q ∈ ks, F = C q
  top : ∀ q ∈ ks, (C q).length ≤ F.length
section
variable {P : Program} {w : World} {K : PySem.W.Frag} {mg : Str → Option Value} {base : Heap} {a : Nat → Addr} {d : Nat → FuncData} {tk : Nat → Tok}
def sp__law_stay : Sp := fun vs H Q _ => ∃ (x y : V) (rs qs : List Row) (n : Nat), vs = [x, y] ∧ LRw H x rs ∧ LRw H y qs ∧ OkRows n rs ∧ qs.Perm rs ∧ ∀ v ds H2, Ex H H2 → LRw H2 v ds → Longest rs qs ds → Q v H2
theorem ok__law_stay (T : All K mg a d tk) : FnOk P w K mg base CX0 1 (a 33) (d 33) ["first", "second"] sp__law_stay := by
  refine T.F__law_stay.fn.ok sc__law_stay (fun vs H Q E h => ?_) (fun cdv A outer s H vs Q E hr h => ?_)
  · obtain ⟨x, y, rs, qs, n, rfl, _⟩ := h
    rfl
  · obtain ⟨x, y, rs, qs, n, rfl, hx, hy, ho, pm, k⟩ := h
    have nd := sc__law_stay.nd
    have hu := hu_of hr
    have hu0 := hr.units0
    have hu64 := hr.units
    have oq := ho.perm pm
    have h60 := ho.few
    have nR := ho.nd
    obtain ⟨xb, xs, rfl, hxb, hxp⟩ := id hx
    obtain ⟨yb, ys, rfl, hyb, hyp⟩ := id hy
    refine ⟨_, (pss_cons (ps_par (i := 2) (j := 3) rfl nd rfl rfl (by decide) rfl rfl (pa_cons (pe_callTy (cr_dictPT rfl hu64) rfl T.n_dict PyProof.Rows.boot_dict (pa_cons (pe_lc (own := [("at", 8), ("row", 4)]) (g := (gTup K 2 (gCons (gName 8) (gCons (gName 4) gNil)))) rfl nd (pi_enum rfl T.n_enumerate (pa_cons (pv 1) pa_nil)) (blkOk_by (N := N__law_stay) (sc := defScope s__law_stay) (by decide +kernel)) (fun _ _ _ _ _ => (pg_tup rfl (pgs_cons (pg_name (i := 8) nd rfl (Or.inl rfl)) (pgs_cons (pg_name (i := 4) nd rfl (Or.inl rfl)) pgs_nil)))) (fun _ _ _ _ _ => pts_nil) (fun _ _ _ _ _ => (pe_tup (pa_cons (pv 4) (pa_cons (pv 8) pa_nil))))) pa_nil)) (pa_cons pe_dnewT pa_nil)) (by rfl))
 (pss_cons (ps_for PassesOwn.never rfl (pi_list (pe_revL (pv 0))) (pg_name (i := 4) nd rfl (Or.inl rfl))
 (pss_cons (ps_set (i := 5) nd rfl (Or.inl rfl) (pe_lst pa_nil))
 (pss_cons (ps_lock (ps_for PassesOwn.never rfl (pi_keys (pv 3)) (pg_name (i := 6) nd rfl (Or.inl rfl))
 (pss_one (ps_if (PW.pt (pw_and (pt_cmpR op_gt (pe_dget hu (pv 2) (pv 6) (fun _ _ => rfl)) (pe_dget hu (pv 2) (pv 4) (fun _ _ => rfl)) (nomark _)) (pw_and1 (pt_cmpR op_gt (pe_callB call_len_seq (by rfl) T.n_len PySem.boot_len (pa_cons (pe_dget hu (pv 3) (pv 6) (fun _ _ => rfl)) pa_nil)) (pe_callB call_len_seq (by rfl) T.n_len PySem.boot_len (pa_cons (pv 5) pa_nil)) (nomark _)))))
 (pss_one (ps_set (i := 5) nd rfl (Or.inl rfl) (pe_dget hu (pv 3) (pv 6) (fun _ _ => rfl))))
 pss_nil))))
 (pss_one (ps_dput hu (pv 3) (pv 4) (pe_op op_cat (pe_lst (pa_cons (pv 4) pa_nil)) (pv 5)) rfl)))))
 (pss_cons (ps_set (i := 7) nd rfl (Or.inl rfl) (pe_lst pa_nil))
 (pss_cons (ps_lock (ps_for PassesOwn.never rfl (pi_keys (pv 3)) (pg_name (i := 4) nd rfl (Or.inl rfl))
 (pss_one (ps_set (i := 7) nd rfl (Or.inl rfl) (pe_ifExp (pt_cmpR op_gt (pe_callB call_len_seq (by rfl) T.n_len PySem.boot_len (pa_cons (pe_dget hu (pv 3) (pv 4) (fun _ _ => rfl)) pa_nil)) (pe_callB call_len_seq (by rfl) T.n_len PySem.boot_len (pa_cons (pv 7) pa_nil)) (nomark _)) (pe_dget hu (pv 3) (pv 4) (fun _ _ => rfl)) (pv 7))))))
 (pss_one (ps_ret (pv 7))))))), ?_⟩
    refine ef_dictEnum (K := K) (σ := [some (V.ref xb), some (.ref yb), none, none, none, none, none, none, none]) (tl := tVar 1) (j1 := 8) (j2 := 4) (vs := [8, 4]) (ev_var rfl) hyb hyp oq.nd oq.few (fun _ _ => rfl) (fun _ _ => rfl) (fun _ _ => rfl) _ (Ex.refl _) _ fun pp H1 npp e1 hpp => ?_
    refine fun kn nkn => ⟨_, _, rfl, ?_⟩
    have eK : Ex H1 (upd H1 kn (.dT [])) := Ex.new nkn
    have e2 := e1.trans eK
    have lenx : xs.length = rs.length := Paired.length hxp
    generalize hks : rs.reverse = kr
    have kr_at : ∀ {i : Nat} {r : Row}, kr[i]? = some r → rs.idxOf r + i + 1 = rs.length := fun {i r} h => by
      have hi : i < rs.length := by
        have := (List.getElem?_eq_some_iff.mp h).1
        rw [← hks, List.length_reverse] at this
        exact this
      rw [← hks, List.getElem?_reverse hi] at h
      have := idxOf_at nR h
      have := (List.getElem?_eq_some_iff.mp h).1
      omega
    have kr_mem : ∀ {i : Nat} {q : Row}, q ∈ rs → (q ∈ kr.take i ↔ rs.length < rs.idxOf q + i + 1) := fun {i q} hq => by
      have hlt := List.idxOf_lt_length_iff.mpr hq
      have hk : kr[rs.length - 1 - rs.idxOf q]? = some q := by
        rw [← hks, List.getElem?_reverse (by omega), show rs.length - 1 - (rs.length - 1 - rs.idxOf q) = rs.idxOf q by omega, List.getElem?_eq_getElem hlt, List.getElem_idxOf]
      constructor
      · intro h
        obtain ⟨j, hj, ej⟩ := List.mem_iff_getElem.mp h
        rw [List.length_take] at hj
        rw [List.getElem_take] at ej
        have g : kr[j]? = some q := by rw [← ej]; exact List.getElem?_eq_getElem _
        have := kr_at g
        omega
      · intro h
        refine List.mem_of_getElem? (i := rs.length - 1 - rs.idxOf q) ?_
        rw [List.getElem?_take_of_lt (by omega)]
        exact hk
    let Ov : Nat → L2.St → Hp → Prop := fun i σ' H' => Ex H1 H' ∧ ∃ (v4 v5 v6 : Option V) (g : Row → V) (C : Row → List Row), σ' = [some (.ref xb), some (.ref yb), some (.ref pp), some (.ref kn), v4, v5, v6, none, none] ∧
      H' kn = some (.dT (dtab (kr.take i) g)) ∧ (∀ r ∈ kr.take i, LRw H' (g r) (C r)) ∧ DP rs qs (kr.take i) C
    have hkrp : Paired (IsRow H) xs.reverse kr := by rw [← hks]; exact Paired.rev hxp
    refine q_forNLn (K := K) (xs := xs.reverse) (el_revE (ev_var rfl) (eK _ _ (e1 _ _ hxb))) (fun rb i σ' H' => Ov i σ' H' ∧ H' rb = some (.lst xs.reverse)) (fun rb H2 nrb e3 hrb => ⟨⟨eK.trans e3, none, none, none, fun _ => .non, fun _ => [], rfl, e3 _ _ upd_same, fun r h => absurd h (by simp), ⟨fun r h => absurd h (by simp), fun r h => absurd h (by simp)⟩⟩, hrb⟩) (fun rb i σ' H' _ h => sq_of h.2) ?_ ?_
    · rintro rb i x σ' H' hi ⟨⟨e', v4, v5, v6, g, C, rfl, hkn, hg, hC⟩, hrb⟩
      obtain ⟨r, hr, hrow⟩ := Paired.at_l hkrp i x hi
      have eH' := e1.trans e'
      have ei := kr_at hr
      have rm : r ∈ rs := by rw [← List.mem_reverse, hks]; exact List.mem_of_getElem? hr
      generalize hk0 : kr.take i = ks at *
      have nk : r ∉ ks := fun z => by
        rw [← hk0] at z
        have := (kr_mem rm).mp z
        omega
      have ksr : ∀ q ∈ ks, q ∈ rs := fun q hq => by
        rw [← hk0] at hq
        rw [← List.mem_reverse, hks]
        exact List.mem_of_mem_take hq
      have ksl : ks.length ≤ 60 := by rw [← hk0, List.length_take, ← hks, List.length_reverse]; omega
      refine q_asgL (el_lst ea_nil (Nat.zero_le _)) fun pb H5 npb e5 hpb => ?_
      have e05 := eH'.trans e5
      have hkn5 := e5 _ _ hkn
      refine q_forKeys (p := kn) (ks := ks) (g := g) rfl hkn5 (fun od k2 σ'' H'' => Ex (upd H5 kn (.frz od (.dT (dtab ks g)))) H'' ∧ ∃ (v5 : V) (v6 : Option V) (B : List Row), σ'' = [some (.ref xb), some (.ref yb), some (.ref pp), some (.ref kn), some x, some v5, v6, none, none] ∧ LRw H'' v5 B ∧ Bst qs (ks.take k2) C r B)
        (fun od => ⟨Ex.refl _, .ref pb, v6, [], rfl, ⟨pb, [], rfl, by rw [upd_ne (fun z => by rw [z, hkn5] at hpb; cases hpb)]; exact hpb, .nil⟩, by rw [List.take_zero]; exact .none⟩) (fun od k2 σ'' H'' h => h.1 _ _ upd_same) ?_ ?_
      · rintro od k2 q z σ'' H'' rt bk hq ⟨eF, v5, v6, B, rfl, hB, hb⟩ hz
        have qk := List.mem_of_getElem? hq
        have gq := hg q qk
        have up : ∀ {v : V} {c : List Row}, LRw H' v c → LRw H'' v c := fun h => LRw.ex (LRw.upd (LRw.ex h e5) hkn5 (fun _ z => by cases z) (LRw.ne (LRw.ex h e5) hkn5)) eF
        have gq' := up gq
        have upA : ∀ b o, b ≠ kn → H b = some o → H'' b = some o := fun b o n h => eF _ _ (by rw [upd_ne n]; exact e05 _ _ h)
        have hpp' : H'' pp = some (.dT (dtab qs (plc qs))) := eF _ _ (by
          have n : pp ≠ kn := fun z => by rw [z, nkn] at hpp; cases hpp
          rw [upd_ne n]
          exact (e'.trans e5) _ _ hpp)
        have hknF : H'' kn = some (.frz od (.dT (dtab ks g))) := eF _ _ upd_same
        have hrow' : IsRow H'' x r := ((hrow.ex e05).upd hkn5 (fun _ z => by cases z)).ex eF
        have et : ks.take (k2 + 1) = ks.take k2 ++ [q] := take_next hq
        have qq : q ∈ qs := pm.mem_iff.mpr (ksr q qk)
        have rq : r ∈ qs := pm.mem_iff.mpr rm
        obtain ⟨gb, gl, eg, hgb, hgp⟩ := id gq'
        obtain ⟨bb, bl, eb, hbb, hbp⟩ := id hB
        subst eb
        have lg : gl.length = (C q).length := Paired.length hgp
        have lb : bl.length = B.length := Paired.length hbp
        refine s_if (et_and (et_I0 (g := fun i j => decide (j < i)) (ev_dget (ev_var rfl) (ev_var rfl) hpp' hz qq) (ev_dget (ev_var rfl) (ev_var rfl) hpp' hrow' rq)) fun _ => et_I0 (g := fun i j => decide (j < i)) (ev_lenS (K := K) (p := gb) (ev_is (ev_dgetF (ev_var rfl) (ev_var rfl) hknF hz qk) eg) (.inl hgb)) (ev_lenS (ev_var rfl) (.inl hbb))) (fun hc H6 e6 => ?_) fun hc H6 e6 => ?_
        · rw [Bool.and_eq_true] at hc
          have c1 := of_decide_eq_true hc.1
          have c2 := of_decide_eq_true hc.2
          refine s_asg (ev_dgetF (ev_var rfl) (ev_var rfl) (e6 _ _ hknF) (hz.ex e6) qk) fun H7 e7 => ⟨eF.trans (e6.trans e7), g q, _, C q, rfl, gq'.ex (e6.trans e7), ?_⟩
          rw [et]
          exact hb.new (by omega) (by omega)
        · refine ⟨eF.trans e6, .ref bb, _, B, rfl, LRw.ex hB e6, ?_⟩
          rw [et]
          refine hb.keep fun hlt => ?_
          rw [decide_eq_true (show (qs.idxOf r : Int) < (qs.idxOf q : Int) by omega), Bool.true_and] at hc
          have := of_decide_eq_false hc
          omega
      · rintro od σ'' H'' ⟨eF, v5, v6, B, rfl, hB, hb⟩
        rw [List.take_length] at hb
        have hknF : H'' kn = some (.frz od (.dT (dtab ks g))) := eF _ _ upd_same
        have e56 : Ex H5 (upd H'' kn (.dT (dtab ks g))) := fun b o h => by
          by_cases z : b = kn
          · rw [z] at h ⊢
            rw [hkn5] at h
            cases h
            exact upd_same
          · rw [upd_ne z]
            exact eF _ _ (by rw [upd_ne z]; exact h)
        have nB : v5 ≠ .ref kn := fun z => by
          obtain ⟨b, ys, rfl, hb', _⟩ := hB
          cases z
          rw [hknF] at hb'
          cases hb'
        have hB6 : LRw (upd H'' kn (.dT (dtab ks g))) v5 B := LRw.upd hB hknF (fun _ z => by cases z) nB
        obtain ⟨bb, bl, rfl, hbb, hbp⟩ := id hB6
        have lb : bl.length = B.length := Paired.length hbp
        have Bl : B.length ≤ 60 := by
          rcases hb.how with z | ⟨q, hq, z, _⟩
          · rw [z]; exact Nat.zero_le _
          · obtain ⟨t, h1, h2, h3, h4⟩ := hC.ch q hq
            rw [z]
            have := sub_len h3.nodup (rs := rs) fun u hu => by
              rw [h1] at hu
              rcases List.mem_cons.mp hu with e | hu
              · rw [e]; exact ksr q hq
              · exact ksr u (h2 u hu)
            omega
        refine (el_catLE (ta := tLst (tCons (tVar 4) tNil)) (tb := tVar 5) (σ := [some (.ref xb), some (.ref yb), some (.ref pp), some (.ref kn), some x, some (.ref bb), v6, none, none]) (el_lst (ea_cons (ev_var rfl) ea_nil) (show 1 ≤ 100000 by decide)) (ev_var rfl) hbb (by show 1 + bl.length ≤ 100000; omega)) _ (Ex.refl _) _ fun pn H7 npn e7 hpn => ?_
        have e07 := e05.trans (e56.trans e7)
        have hrow7 : IsRow H7 x r := hrow.ex e07
        have hkn7 := e7 _ _ (show (upd H'' kn (.dT (dtab ks g))) kn = _ from upd_same)
        refine ⟨.ref kn, rfl, x, rfl, kn, _, rfl, dput_new hkn7 hrow7 nk (by omega), ?_⟩
        have eT : kr.take (i + 1) = ks ++ [r] := by rw [← hk0]; exact take_next hr
        have nrb : rb ≠ kn := fun z => by rw [z, hkn] at hrb; cases hrb
        have up7 : ∀ {v : V} {c : List Row} {o : HO}, LRw H7 v c → LRw (upd H7 kn o) v c := fun h => LRw.upd h hkn7 (fun _ z => by cases z) (LRw.ne h hkn7)
        refine ⟨⟨Ex.mut (e'.trans ((e5.trans e56).trans e7)) nkn, _, _, _, fset g r (.ref pn), nset C r (r :: B), rfl, by rw [eT]; exact upd_same, ?_, ?_⟩, by rw [upd_ne nrb]; exact ((e5.trans e56).trans e7) _ _ hrb⟩
        · rw [eT]
          intro q hq
          rcases List.mem_append.mp hq with hq | hq
          · have n : q ≠ r := fun e => nk (e ▸ hq)
            unfold fset
            rw [if_neg n, nset_ne n]
            exact up7 (LRw.ex (hg q hq) ((e5.trans e56).trans e7))
          · rw [List.mem_singleton.mp hq, nset_same]
            unfold fset
            rw [if_pos rfl]
            exact up7 ⟨pn, _, rfl, hpn, .cons hrow7 (Paired.imp (fun _ _ h => h.ex e7) hbp)⟩
        · rw [eT]
          refine hC.step hb nk (fun q hq => ?_) fun q hq hlt => ?_
          · have h1 := ksr q hq
            rw [← hk0] at hq
            have := (kr_mem h1).mp hq
            omega
          · rw [← hk0]
            exact (kr_mem hq).mpr (by omega)
    · rintro rb σ' H' ⟨⟨e', v4, v5, v6, g, C, rfl, hkn, hg, hC⟩, _⟩
      have elk : kr.take xs.reverse.length = kr := by
        rw [List.length_reverse, lenx, ← hks, ← List.length_reverse, List.take_length]
      rw [elk] at hkn hg hC
      refine q_asgL (el_lst ea_nil (Nat.zero_le _)) fun pb H5 npb e5 hpb => ?_
      have hkn5 := e5 _ _ hkn
      refine q_forKeys (p := kn) (ks := kr) (g := g) rfl hkn5 (fun od k2 σ'' H'' => Ex (upd H5 kn (.frz od (.dT (dtab kr g)))) H'' ∧ ∃ (v4 : Option V) (v7 : V) (F : List Row), σ'' = [some (.ref xb), some (.ref yb), some (.ref pp), some (.ref kn), v4, v5, v6, some v7, none] ∧ LRw H'' v7 F ∧ Lng (kr.take k2) C F)
        (fun od => ⟨Ex.refl _, v4, .ref pb, [], rfl, ⟨pb, [], rfl, by rw [upd_ne (fun z => by rw [z, hkn5] at hpb; cases hpb)]; exact hpb, .nil⟩, .inl rfl, fun q h => absurd h (by simp)⟩) (fun od k2 σ'' H'' h => h.1 _ _ upd_same) ?_ ?_
      · rintro od k2 q z σ'' H'' rt bk hq ⟨eF, v4, v7, F, rfl, hF, hf⟩ hz
        have qk := List.mem_of_getElem? hq
        have up : ∀ {v : V} {c : List Row}, LRw H' v c → LRw H'' v c := fun h => LRw.ex (LRw.upd (LRw.ex h e5) hkn5 (fun _ z => by cases z) (LRw.ne (LRw.ex h e5) hkn5)) eF
        have gq' := up (hg q qk)
        have hknF : H'' kn = some (.frz od (.dT (dtab kr g))) := eF _ _ upd_same
        have et : kr.take (k2 + 1) = kr.take k2 ++ [q] := take_next hq
        obtain ⟨gb, gl, eg, hgb, hgp⟩ := id gq'
        obtain ⟨bb, bl, eb, hbb, hbp⟩ := id hF
        subst eb
        have lg : gl.length = (C q).length := Paired.length hgp
        have lb : bl.length = F.length := Paired.length hbp
        have c0 : ∀ {H6 : Hp}, Ex H'' H6 → Ev (tDGet (tVar 3) (tVar 4)) [some (.ref xb), some (.ref yb), some (.ref pp), some (.ref kn), some z, v5, v6, some (.ref bb), none] H6 (g q) := fun e6 => ev_dgetF (ev_var rfl) (ev_var rfl) (e6 _ _ hknF) (hz.ex e6) qk
        have c1 := et_I0 (g := fun i j => decide (j < i)) (ev_lenS (K := K) (p := gb) (ev_is (c0 (Ex.refl _)) eg) (.inl hgb)) (ev_lenS (K := K) (ta := tVar 7) (ev_var rfl) (.inl hbb))
        have fin : ∀ (b : Bool), decide ((bl.length : Int) < (gl.length : Int)) = b → Lng (kr.take k2 ++ [q]) C (if b = true then C q else F) := fun b hb => by
          cases b with
          | true =>
            have := of_decide_eq_true hb
            refine ⟨.inr ⟨q, List.mem_append_right _ List.mem_cons_self, rfl⟩, fun u hu => ?_⟩
            show (C u).length ≤ (C q).length
            rcases List.mem_append.mp hu with hu | hu
            · have := hf.top u hu
              omega
            · rw [List.mem_singleton.mp hu]
              exact Nat.le_refl _
          | false =>
            have := of_decide_eq_false hb
            refine ⟨hf.how.imp id fun ⟨u, h1, h2⟩ => ⟨u, List.mem_append_left _ h1, h2⟩, fun u hu => ?_⟩
            show (C u).length ≤ F.length
            rcases List.mem_append.mp hu with hu | hu
            · exact hf.top u hu
            · rw [List.mem_singleton.mp hu]
              omega
        cases hb : decide ((bl.length : Int) < (gl.length : Int)) with
        | true =>
          refine s_asg (ev_if (et_is c1 hb) (fun _ => c0 (Ex.refl _)) fun h => nomatch h) fun H6 e6 => ⟨eF.trans e6, _, g q, C q, rfl, gq'.ex e6, ?_⟩
          rw [et]
          exact fin true hb
        | false =>
          refine s_asg (ev_if (et_is c1 hb) (fun h => nomatch h) fun _ => ev_var rfl) fun H6 e6 => ⟨eF.trans e6, _, .ref bb, F, rfl, LRw.ex hF e6, ?_⟩
          rw [et]
          exact fin false hb
      · rintro od σ'' H'' ⟨eF, v4, v7, F, rfl, hF, hf⟩
        rw [List.take_length] at hf
        have hknF : H'' kn = some (.frz od (.dT (dtab kr g))) := eF _ _ upd_same
        have e56 : Ex H5 (upd H'' kn (.dT (dtab kr g))) := fun b o h => by
          by_cases z : b = kn
          · rw [z] at h ⊢
            rw [hkn5] at h
            cases h
            exact upd_same
          · rw [upd_ne z]
            exact eF _ _ (by rw [upd_ne z]; exact h)
        have nB : v7 ≠ .ref kn := fun z => by
          obtain ⟨b, ys, rfl, hb', _⟩ := hF
          cases z
          rw [hknF] at hb'
          cases hb'
        have hF6 : LRw (upd H'' kn (.dT (dtab kr g))) v7 F := LRw.upd hF hknF (fun _ z => by cases z) nB
        have krm : ∀ q, q ∈ kr ↔ q ∈ rs := fun q => by rw [← hks, List.mem_reverse]
        refine s_ret (ev_var rfl) fun H8 e8 => k v7 F H8 ((e1.trans (e'.trans (e5.trans e56))).trans e8) (LRw.ex hF6 e8) ?_
        have hch : Rise rs F ∧ Rise qs F ∧ ∀ r ∈ F, r ∈ rs := by
          rcases hf.how with z | ⟨q, hq, z⟩
          · rw [z]
            exact ⟨List.Pairwise.nil, List.Pairwise.nil, fun r h => absurd h (by simp)⟩
          · obtain ⟨t, h1, h2, h3, h4⟩ := hC.ch q hq
            rw [z]
            refine ⟨h3, h4, fun u hu => ?_⟩
            rw [h1] at hu
            rcases List.mem_cons.mp hu with e | hu
            · rw [e]; exact (krm q).mp hq
            · exact (krm u).mp (h2 u hu)
        refine ⟨hch.1, hch.2.1, hch.2.2, fun c c1 c2 c3 => ?_⟩
        cases c with
        | nil => exact Nat.zero_le _
        | cons r c =>
          have rk : r ∈ kr := (krm r).mpr (c3 r List.mem_cons_self)
          have := hC.best r rk c c1 c2 fun q hq => c3 q (List.mem_cons_of_mem _ hq)
          have := hf.top r rk
          rw [List.length_cons]
          omega
end
end Mv
/-! _law_own_moves: the rows that do not stay, in any sequence. -/
namespace Mv
open PySem PySem.Spec PyProof.Rows L2 Evl
theorem filter_ids (xs : List V) (f : V → Bool) : (xs.filter f).map (fun x => x) = xs.filter f := List.map_id' _
section
variable {K : PySem.W.Frag} {σ : L2.St} {H : Hp} {tl te : TE} {t : TT}
/-- rows of a list, picked -/
theorem el_pick {a : Addr} {xs : List V} {rs : List Row} {j : Nat} {vs : List Nat} (F : Row → Bool) (h : Ev tl σ H (.ref a)) (hx : H a = some (.lst xs)) (hp : Paired (IsRow H) xs rs) (hl : rs.length ≤ 1000) (hw : ∀ x, wipe ((wipe σ vs).set j (some x)) vs = wipe σ vs) (hj : ∀ x, ((wipe σ vs).set j (some x))[j]? = some (some x))
    (ht : ∀ (x : V) (r : Row) H1, Ex H H1 → r ∈ rs → IsRow H1 x r → EvT t ((wipe σ vs).set j (some x)) H1 (F r)) :
    EvF (tLc (iList K tl) (gName j) t (tVar j) vs) σ H (fun p H2 => LRw H2 (.ref p) (rs.filter F)) := fun H0 e Q k => by
  have lx : xs.length = rs.length := Paired.length hp
  refine (el_lcF (K := K) (t := t) (te := tVar j) (byRow H F) (fun x => x) h (sq_of hx) (by omega) hw (fun x H1 e1 hm => ?_) fun x H1 e1 hm _ => ev_var (hj x)) H0 e Q fun p H1 np e1 h1 => ?_
  · obtain ⟨r, hr, hrow⟩ := Paired.mem_l hp x hm
    rw [byRow_eq hrow]
    exact ht x r H1 e1 hr (hrow.ex e1)
  · rw [filter_ids] at h1
    exact k p H1 np e1 ⟨p, _, rfl, h1, Paired.imp (fun _ _ h => h.ex (e.trans e1)) (Paired.filter hp fun x _ y hy => byRow_eq hy)⟩
/-- .. of a new list -/
theorem el_pickN {xs : List V} {rs : List Row} {j : Nat} {vs : List Nat} (F : Row → Bool) (h : EvL tl σ H xs) (hp : Paired (IsRow H) xs rs) (hl : rs.length ≤ 1000) (hw : ∀ x, wipe ((wipe σ vs).set j (some x)) vs = wipe σ vs) (hj : ∀ x, ((wipe σ vs).set j (some x))[j]? = some (some x))
    (ht : ∀ (x : V) (r : Row) H1, Ex H H1 → r ∈ rs → IsRow H1 x r → EvT t ((wipe σ vs).set j (some x)) H1 (F r)) :
    EvF (tLc (iList K tl) (gName j) t (tVar j) vs) σ H (fun p H2 => LRw H2 (.ref p) (rs.filter F)) := fun H0 e Q k => by
  have lx : xs.length = rs.length := Paired.length hp
  have hm : ∀ (i : Nat) (x : V), xs[i]? = some x → xs.getD i .non = x := fun i x e => by rw [List.getD_eq_getElem?_getD, e] <;> rfl
  refine (el_lcNL (K := K) (t := t) (te := tVar j) (fun i => byRow H F (xs.getD i .non)) (fun i => xs.getD i .non) h (by omega) hw (fun i x H1 e1 hi => ?_) fun i x H1 e1 hi _ => by rw [hm i x hi]; exact ev_var (hj x)) H0 e Q fun p H1 np e1 h1 => ?_
  · obtain ⟨r, hr, hrow⟩ := Paired.at_l hp i x hi
    show EvT t _ H1 (byRow H F (xs.getD i .non))
    rw [hm i x hi, byRow_eq hrow]
    exact ht x r H1 e1 (List.mem_of_getElem? hr) (hrow.ex e1)
  · have e0 := given_eq xs (byRow H F) (fun x => x)
    rw [e0, filter_ids] at h1
    exact k p H1 np e1 ⟨p, _, rfl, h1, Paired.imp (fun _ _ h => h.ex (e.trans e1)) (Paired.filter hp fun x _ y hy => byRow_eq hy)⟩
end
/-- moves that lead from rs to qs, as few as possible, in a list -/
def OwnRes (n : Nat) (rs qs : List Row) (v : V) (H2 : Hp) : Prop := ∃ (z : Addr) (zs : List V) (ms : List Move), v = .ref z ∧ H2 z = some (.lst zs) ∧ MvAll H2 zs ms ∧ (∀ m ∈ ms, OkMv n m) ∧ led rs ms = some qs ∧ ms.length ≤ 60 ∧ ∀ lev ahd M, LevOn [rs, qs] rs lev ahd → IsCount rs lev M → ms.length + M = rs.length
section
variable {P : Program} {w : World} {K : PySem.W.Frag} {mg : Str → Option Value} {base : Heap} {a : Nat → Addr} {d : Nat → FuncData} {tk : Nat → Tok}
def sp__law_own_moves : Sp := fun vs H Q _ => ∃ (p : Addr) (x y : V) (rs qs : List Row) (n m : Nat), vs = [.ref p, x, y] ∧ LRw H x rs ∧ LRw H y qs ∧ OkRows n rs ∧ qs.Perm rs ∧ BoxAt H p m ∧ m ≤ 80000 ∧ ∀ v H2, ExB p H H2 → BoxAt H2 p (m + 100) → OwnRes n rs qs v H2 → Q v H2
theorem ok__law_own_moves (T : All K mg a d tk) : FnOk P w K mg base CX0 3 (a 34) (d 34) ["box", "first", "second"] sp__law_own_moves := by
  refine T.F__law_own_moves.fn.ok sc__law_own_moves (fun vs H Q E h => ?_) (fun cdv A outer s H vs Q E hr h => ?_)
  · obtain ⟨p, x, y, rs, qs, n, m, rfl, _⟩ := h
    rfl
  · obtain ⟨p, x, y, rs, qs, n, bn, rfl, hx, hy, ho, pm, hB, hbn, k⟩ := h
    have nd := sc__law_own_moves.nd
    have hu := hu_of hr
    have hu0 := hr.units0
    have hu65 := hu65_of hr
    have oq := ho.perm pm
    have h60 := ho.few
    have nR := ho.nd
    refine ⟨_, (pss_cons (ps_set (i := 3) nd rfl (Or.inr rfl) (pe_callTy call_list_of rfl T.n_list PyProof.Rows.boot_list (pa_cons (pe_call (ok__law_stay T) (hr.mono (by decide)) rfl T.F__law_stay.m T.F__law_stay.kp T.F__law_stay.b .nil pass0 (pa_cons (pv 1) (pa_cons (pv 2) pa_nil))) pa_nil)))
 (pss_cons (ps_set (i := 4) nd rfl (Or.inl rfl) (pe_lst pa_nil))
 (pss_cons (ps_for PassesOwn.never rfl (pi_list (pe_call (ok__law_mixed T) (hr.mono (by decide)) rfl T.F__law_mixed.m T.F__law_mixed.kp T.F__law_mixed.b .nil pass0 (pa_cons (pv 0) (pa_cons (pe_lc (own := [("each", 7)]) (g := (gName 7)) rfl nd (pi_list (pv 1)) (blkOk_by (N := N__law_own_moves) (sc := defScope s__law_own_moves) (by decide +kernel)) (fun _ _ _ _ _ => (pg_name (i := 7) nd rfl (Or.inl rfl))) (fun _ _ _ _ _ => (pts_one (pt_cmpR (show OpR _ (compareOp .NotIn) (rNotInD K) from (op_notInD hu65)) (pv 7) (pv 3) rfl))) (fun _ _ _ _ _ => (pv 7))) pa_nil)))) (pg_name (i := 5) nd rfl (Or.inl rfl))
 (pss_cons (ps_setLc (i := 6) (own := [("each", 7)]) (g := (gName 7)) rfl nd rfl rfl (sw_true rfl rfl rfl (by decide +kernel)) (pi_list (pe_slice sl_list (pv 2) po_none (po_some (pe_bm PySem.F.plainAttrs_list PySem.F.slot_list_index PySem.F.type_list_index (mt_indexD hu65) (pv 2) (pa_cons (pv 5) pa_nil))))) (blkOk_by (N := N__law_own_moves) (sc := defScope s__law_own_moves) (by decide +kernel)) (fun _ _ _ _ _ => (pg_name (i := 7) nd rfl (Or.inl rfl))) (fun _ _ _ _ _ => (pts_one (pt_cmpR (show OpR _ (compareOp .In) (rInD K) from (op_inD hu65)) (pv 7) (pv 3) rfl))) (fun _ _ _ _ _ => (pv 7)))
 (pss_cons (ps_expr (pe_bm PySem.F.plainAttrs_list PySem.F.slot_list_append PySem.F.type_list_append mt_append (pv 4) (pa_cons (pe_tup (pa_cons (pv 5) (pa_cons (pe_ifExp (pt_cmpR (op_neNil hu0) (pv 6) (pe_lst pa_nil) (nomark _)) (pe_ix ix_list (pv 6) (pe_un un_neg pe_int) (fun _ _ => rfl)) pe_non) pa_nil))) pa_nil)))
 (pss_one (ps_expr (pe_bm PySem.F.plainAttrs_list PySem.F.slot_list_append PySem.F.type_list_append mt_append (pv 3) (pa_cons (pv 5) pa_nil)))))))
 (pss_one (ps_ret (pv 4)))))), ?_⟩
    obtain ⟨xb, xs, rfl, hxb, hxp⟩ := id hx
    obtain ⟨yb, ys, rfl, hyb, hyp⟩ := id hy
    have lenx : xs.length = rs.length := Paired.length hxp
    have leny : ys.length = qs.length := Paired.length hyp
    refine ⟨.ref xb, rfl, .ref yb, rfl, .ref xb, .ref yb, rs, qs, n, rfl, hx, hy, ho, pm, fun v ds H1 e1 hv hlong => ?_⟩
    obtain ⟨vb, vs1, rfl, hvb, hvp⟩ := id hv
    obtain ⟨r1, r2, r3, hlmax⟩ := hlong
    have ldr : ds.length ≤ rs.length := sub_len r1.nodup r3
    refine ⟨vb, vs1, rfl, .inl (sq_of hvb), fun fx nfx => ?_⟩
    have e2 : Ex H1 (upd H1 fx (.lst vs1)) := Ex.new nfx
    have e02 := e1.trans e2
    refine q_asgL (σ := [some (.ref p), some (.ref xb), some (.ref yb), some (.ref fx), none, none, none, none]) (H := upd H1 fx (.lst vs1)) (el_lst ea_nil (Nat.zero_le _)) fun fd H3 nfd e3 hfd => ?_
    have e03 := e02.trans e3
    have hfx3 : H3 fx = some (.lst vs1) := e3 _ _ upd_same
    have nfx0 : H fx = none := fresh_back e1 nfx
    have nfd0 : H fd = none := fresh_back e02 nfd
    have nff : fx ≠ fd := fun z => by rw [← z, upd_same] at nfd; cases nfd
    have hvp3 : Paired (IsRow H3) vs1 ds := Paired.imp (fun _ _ h => h.ex (e2.trans e3)) hvp
    let rest := rs.filter fun r => !decide (r ∈ ds)
    have lrest : rest.length ≤ 60 := Nat.le_trans (List.length_filter_le _ _) h60
    have c1 := el_pick (K := K) (tl := tVar 1) (t := tTest (tOp (rNotInD K) (tVar 7) (tVar 3))) (σ := [some (.ref p), some (.ref xb), some (.ref yb), some (.ref fx), some (.ref fd), none, none, none]) (H := H3) (j := 7) (vs := [7]) (fun r => !decide (r ∈ ds)) (ev_var rfl) (e03 _ _ hxb) (Paired.imp (fun _ _ h => h.ex e03) hxp) (by omega) (fun _ => rfl) (fun _ => rfl)
      (fun x r H4 e4 hr hrow => et_test (ev_op (ev_var rfl) (ev_var rfl) (rv_ninRows (e4 _ _ hfx3) (Paired.imp (fun _ _ h => h.ex e4) hvp3) hrow)))
    refine ⟨_, rfl, c1 H3 (Ex.refl _) _ fun rb H4 nrb e4 hrb => ?_⟩
    have e04 := e03.trans e4
    refine ⟨p, .ref rb, rest, bn, rfl, hrb, lrest, hB.ex e04, by omega, fun v5 cs H5 hcs pmc e5 hB5 => ?_⟩
    obtain ⟨cb, zs5, rfl, hcb, hcp⟩ := id hcs
    have lenc : zs5.length = cs.length := Paired.length hcp
    have nfxp : fx ≠ p := fun z => hB.some (z ▸ nfx0)
    have nfdp : fd ≠ p := fun z => hB.some (z ▸ nfd0)
    have e05 : ExB p H H5 := (Ex.b e04).trans e5
    have hB4 := hB.ex e04
    have csm : ∀ r ∈ cs, r ∈ rs ∧ r ∉ ds := fun r hr => by
      have := List.mem_filter.mp (pmc.mem_iff.mp hr)
      exact ⟨this.1, fun z => by rw [decide_eq_true z] at this; cases this.2⟩
    have csn : cs.Nodup := pmc.nodup_iff.mpr (nR.filter _)
    have lcs : cs.length ≤ 60 := by rw [pmc.length_eq]; exact lrest
    let Pv : Nat → L2.St → Hp → Prop := fun i σ' H' => ExB p H H' ∧ BoxAt H' p (bn + 100) ∧ H' cb = some (.lst zs5) ∧ Paired (IsRow H') zs5 cs ∧ ∃ (w5 w6 : Option V) (fs gs : List V) (ms : List Move), σ' = [some (.ref p), some (.ref xb), some (.ref yb), some (.ref fx), some (.ref fd), w5, w6, none] ∧
      H' fx = some (.lst fs) ∧ Paired (IsRow H') fs (ds ++ cs.take i) ∧ H' fd = some (.lst gs) ∧ MvAll H' gs ms ∧ (∀ m ∈ ms, OkMv n m) ∧ LedInv rs qs (fun q => decide (q ∈ ds ++ cs.take i)) ms ∧ ms.length = i
    refine ⟨cb, rfl, ⟨zs5, sq_of hcb⟩, ?_⟩
    refine for_list (K := K) (a := cb) (xs := zs5) Pv ⟨e05, hB5, hcb, hcp, none, none, vs1, [], [], rfl, e5 _ _ nfxp (e4 _ _ hfx3), ?_, e5 _ _ nfdp (e4 _ _ hfd), .nil, fun m h => absurd h (by simp), ?_, rfl⟩ (fun i σ' H' _ h => sq_of h.2.2.1) ?_ ?_
    · rw [List.take_zero, List.append_nil]
      exact Paired.imp (fun _ _ h => (h.ex e4).exB hB4 e5) hvp3
    · rw [List.take_zero, List.append_nil]
      exact LedInv.start nR oq.nd r1 r2 r3 fun r hr => pm.mem_iff.mpr (r3 r hr)
    · rintro i x σ' H' hi ⟨e', hB', hcb', hcp', w5, w6, fs, gs, ms, rfl, hfx, hfp, hfd', hgm, om, hL, lm⟩
      obtain ⟨r, hr, hrow⟩ := Paired.at_l hcp' i x hi
      obtain ⟨rrs, rds⟩ := csm r (List.mem_of_getElem? hr)
      have rq : r ∈ qs := pm.mem_iff.mpr rrs
      have hic : i < cs.length := (List.getElem?_eq_some_iff.mp hr).1
      have nrt : r ∉ cs.take i := fun z => by
        obtain ⟨j, hj, ej⟩ := List.mem_iff_getElem.mp z
        rw [List.length_take] at hj
        rw [List.getElem_take] at ej
        have a1 := idxOf_at csn (show cs[j]? = some r by rw [← ej]; exact List.getElem?_eq_getElem _)
        have a2 := idxOf_at csn hr
        omega
      have nF : r ∉ ds ++ cs.take i := fun z => (List.mem_append.mp z).elim rds nrt
      have hxb' : H' xb = some (.lst xs) := e' _ _ (fun z => by
        have := rows_box hB hxb hxp
        exact this z) hxb
      have hyb' : H' yb = some (.lst ys) := e' _ _ (rows_box hB hyb hyp) hyb
      have hyp' : Paired (IsRow H') ys qs := Paired.imp (fun _ _ h => h.exB hB e') hyp
      have ncx : cb ≠ fx := fun z => by
        rw [z, hfx] at hcb'
        cases hcb'
        obtain ⟨r', hr', hrow'⟩ := Paired.at_l hfp i x hi
        have := hrow.fn hrow'
        subst this
        exact nF (List.mem_of_getElem? hr')
      have ncd : cb ≠ fd := fun z => by
        rw [z, hfd'] at hcb'
        cases hcb'
        obtain ⟨mv, _, ma, vr, vo, ex, hma, ⟨b2, e2, _⟩, _⟩ := Paired.at_l hgm i x hi
        obtain ⟨b, eb, hb⟩ := hrow
        rw [eb] at ex
        cases ex
        rw [hb] at hma
        have h2 : r.map V.int = [vr, vo] := by injection (Option.some.inj hma)
        rw [e2] at h2
        cases r with
        | nil => cases h2
        | cons _ _ => cases h2
      have hix : Ev (tBM K "list" (rIndexD K) (tVar 2) (tCons (tVar 5) tNil)) [some (.ref p), some (.ref xb), some (.ref yb), some (.ref fx), some (.ref fd), some x, w6, none] H' (.int (qs.idxOf r : Nat)) := ev_indexR (ev_var rfl) hyb' hyp' (ev_var rfl) hrow rq
      have csl := el_sl (K := K) (te := tVar 2) (σ := [some (.ref p), some (.ref xb), some (.ref yb), some (.ref fx), some (.ref fd), some x, w6, none]) (H := H') (ev_var rfl) eo_none (eo_some hix) (sq_of hyb')
      have hlt := List.idxOf_lt_length_iff.mpr rq
      rw [cutV_to ys (qs.idxOf r) (by omega)] at csl
      refine q_asgE (el_pickN (K := K) (j := 7) (vs := [7]) (rs := qs.take (qs.idxOf r)) (fun q => decide (q ∈ ds ++ cs.take i)) csl (Paired.take _ hyp') (by rw [List.length_take]; have := pm.length_eq; omega) (fun _ => rfl) (fun _ => rfl)
        (fun x2 r2 H6 e6 hr2 hrow2 => et_test (ev_op (ev_var rfl) (ev_var rfl) (rv_inRows (e6 _ _ hfx) (Paired.imp (fun _ _ h => h.ex e6) hfp) hrow2)))) fun al H6 nal e6 hal => ?_
      obtain ⟨ab, as_, eab, hab, hap⟩ := id hal
      cases eab
      have eBeh : beh qs (fun q => decide (q ∈ ds ++ cs.take i)) r = ((qs.take (qs.idxOf r)).filter fun q => decide (q ∈ ds ++ cs.take i)).getLast? := rfl
      obtain ⟨u, hu1, hu2⟩ : ∃ u, Ev (tIf (tTest (tOp (rNilEq K true) (tVar 6) (tLst tNil))) (tOp (rIxL K) (tVar 6) (tUn (rU fun i => .int (-i)) (tC (.int 1)))) (tC .non)) [some (.ref p), some (.ref xb), some (.ref yb), some (.ref fx), some (.ref fd), some x, some (.ref al), none] H6 u ∧ AhV H6 u (beh qs (fun q => decide (q ∈ ds ++ cs.take i)) r) := by
        have hc := et_test (ev_neNil (K := K) (ta := tVar 6) (σ := [some (.ref p), some (.ref xb), some (.ref yb), some (.ref fx), some (.ref fd), some x, some (.ref al), none]) (H := H6) (ev_var rfl) (sq_of hab))
        have hm1 : ∀ {H7 : Hp} {σ7 : L2.St}, Ev (tUn (rU fun i => .int (-i)) (tC (.int 1))) σ7 H7 (.int (-1)) := fun H1 e Q q => ⟨1, rfl, q H1 (Ex.refl _)⟩
        cases hl : as_.getLast? with
        | none =>
          have z := List.getLast?_eq_none_iff.mp hl
          subst z
          refine ⟨.non, ev_if (b := false) (et_is hc rfl) (fun h => nomatch h) fun _ => ev_c, ?_⟩
          rw [eBeh]
          have z2 : (qs.take (qs.idxOf r)).filter (fun q => decide (q ∈ ds ++ cs.take i)) = [] := List.length_eq_zero_iff.mp (Paired.length hap).symm
          rw [z2]
          exact rfl
        | some u =>
          obtain ⟨as0, ea⟩ := List.getLast?_eq_some_iff.mp hl
          have hne : (!as_.isEmpty) = true := by rw [ea]; simp
          refine ⟨u, ev_if (b := true) (et_is hc hne) (fun _ => ?_) (fun h => nomatch h), ?_⟩
          · exact ev_ixL (i := -1) (ev_var rfl) hm1 (sq_of hab) (by rw [ea]; exact atI_last _ _)
          rw [eBeh, List.getLast?_eq_getElem?]
          have lal := Paired.length hap
          rw [List.getLast?_eq_getElem?] at hl
          obtain ⟨q, hq, hqr⟩ := Paired.at_l hap _ u hl
          rw [lal] at hq
          rw [hq]
          exact hqr
      have hB6 := hB'.ex e6
      have lgs : gs.length = i := by rw [Paired.length hgm, lm]
      refine q_appU (K := K) (e6 _ _ hfd') (ev_var rfl) (eu_tup (ea_cons (ev_var rfl) (ea_cons hu1 ea_nil)) (show 2 ≤ 100000 by decide)) (by omega) fun tp H7 ntp e7 htp => ?_
      have hfd7 : H7 fd = some (.lst gs) := (e6.trans e7) _ _ hfd'
      have hfx7 : H7 fx = some (.lst fs) := (e6.trans e7) _ _ hfx
      have nxd : fx ≠ fd := nff
      have lfs : fs.length = ds.length + i := by rw [Paired.length hfp, List.length_append, List.length_take]; omega
      refine s_app (K := K) (l := fx) (xs := fs) (by rw [upd_ne nxd]; exact hfx7) (ev_var rfl) (ev_var rfl) (by omega) fun H8 e8 => ?_
      have tk78 : TupK H7 H8 := (TupK.upd hfd7 fun _ z => by cases z).trans (Ex.tk e8)
      have hfx8 : H8 fx = some (.lst fs) := e8 _ _ (by rw [upd_ne nxd]; exact hfx7)
      have tk89 : TupK H8 (upd H8 fx (.lst (fs ++ [x]))) := TupK.upd hfx8 fun _ z => by cases z
      have tkA := (Ex.tk (e6.trans e7)).trans (tk78.trans tk89)
      have et : cs.take (i + 1) = cs.take i ++ [r] := take_next hr
      have hst := hL.step nR pm rq (show decide (r ∈ ds ++ cs.take i) = false from decide_eq_false nF)
      have eA : ExB p H (upd H8 fx (.lst (fs ++ [x]))) := ((((e'.trans (Ex.b (e6.trans e7))).mut nfd0).trans (Ex.b e8))).mut nfx0
      have hcb8 : H8 cb = some (.lst zs5) := e8 _ _ (by rw [upd_ne ncd]; exact (e6.trans e7) _ _ hcb')
      refine ⟨eA, ?_, by rw [upd_ne ncx]; exact hcb8, Paired.imp (fun _ _ h => h.tk tkA) hcp', _, _, fs ++ [x], gs ++ [.ref tp], ms ++ [(r, beh qs (fun q => decide (q ∈ ds ++ cs.take i)) r)], rfl, upd_same, ?_, ?_, ?_, fun m hm => ?_, ?_, by rw [List.length_append, lm] <;> rfl⟩
      · exact (((hB'.ex (e6.trans e7)).upd (Ne.symm nfdp)).ex e8).upd (Ne.symm nfxp)
      · rw [et, ← List.append_assoc]
        exact Paired.append (Paired.imp (fun _ _ h => h.tk tkA) hfp) (.cons (hrow.tk tkA) .nil)
      · rw [upd_ne (Ne.symm nxd)]
        exact e8 _ _ upd_same
      · refine Paired.append (Paired.imp (fun _ _ h => h.tk tkA) hgm) (.cons ⟨tp, x, u, rfl, ?_, hrow.tk tkA, ?_⟩ .nil)
        · exact (tk78.trans tk89) _ _ htp
        · exact hu2.tk ((Ex.tk e7).trans (tk78.trans tk89))
      · rcases List.mem_append.mp hm with hm | hm
        · exact om m hm
        · rw [List.mem_singleton.mp hm]
          refine ⟨ho.w1, ho.w5, ho.row r rrs, fun q hq => ?_⟩
          have hq : beh qs (fun q => decide (q ∈ ds ++ cs.take i)) r = some q := hq
          rw [eBeh] at hq
          have h1 := List.mem_of_getLast? hq
          exact oq.row q (List.mem_of_mem_take (List.mem_filter.mp h1).1)
      · refine hst.congr nR pm fun q _ => ?_
        unfold orR
        rw [et, ← List.append_assoc]
        by_cases e : q = r
        · subst e; simp
        · simp [e]
    · rintro σ' H' ⟨e', hB', hcb', hcp', w5, w6, fs, gs, ms, rfl, hfx, hfp, hfd', hgm, om, hL, lm⟩
      rw [lenc, List.take_length] at hL
      rw [lenc] at lm
      have all : ∀ q ∈ qs, decide (q ∈ ds ++ cs) = true := fun q hq => by
        have hq' := pm.mem_iff.mp hq
        refine decide_eq_true ?_
        by_cases z : q ∈ ds
        · exact List.mem_append_left _ z
        · exact List.mem_append_right _ (pmc.mem_iff.mpr (List.mem_filter.mpr ⟨hq', by rw [decide_eq_false z] <;> rfl⟩))
      refine s_ret (ev_var rfl) fun H9 e9 => k _ H9 (e'.trans (Ex.b e9)) (hB'.ex e9) ⟨fd, gs, ms, rfl, e9 _ _ hfd', hgm.ex e9, om, hL.end_ nR pm all, by omega, fun lev ahd M L hM => ?_⟩
      have eM := Longest.count ⟨r1, r2, r3, hlmax⟩ L hM
      have z1 : cs.length = rest.length := pmc.length_eq
      have z2 := rise_filter nR r1 r3
      have g : ∀ l : List Row, l.length = (l.filter fun q => decide (q ∈ ds)).length + (l.filter fun q => !decide (q ∈ ds)).length := by
        intro l
        induction l with
        | nil => rfl
        | cons q l ih =>
          rw [List.filter_cons, List.filter_cons]
          by_cases hq : q ∈ ds
          · rw [decide_eq_true hq]
            simp only [if_true, Bool.not_true, Bool.false_eq_true, if_false, List.length_cons]
            omega
          · rw [decide_eq_false hq]
            simp only [if_true, Bool.not_false, Bool.false_eq_true, if_false, List.length_cons]
            omega
      have z3 := g rs
      rw [z2] at z3
      have z4 : rest.length = (rs.filter fun q => !decide (q ∈ ds)).length := rfl
      omega
end
end Mv
/-! _law_within: going through all lists that so many moves lead to. -/
namespace Mv
open PySem PySem.Spec PyProof.Rows L2 Evl
def rl (l : List Row) : PyData := .list (l.map rd)
theorem eqv_rowsAll : ∀ l q : List Row, PyData.eqvAll (l.map rd) (q.map rd) = decide (l = q)
  | [], [] => by simp [PyData.eqvAll]
  | [], _ :: _ => by simp [PyData.eqvAll]
  | _ :: _, [] => by simp [PyData.eqvAll]
  | r :: l, s :: q => by
    rw [List.map_cons, List.map_cons, PyData.eqvAll, eqv_rowsAll l q, eqv_row]
    by_cases h : r = s
    · by_cases h2 : l = q <;> simp [h, h2]
    · simp [h]
theorem eqv_rl (l q : List Row) : PyData.eqv (rl l) (rl q) = decide (l = q) := by
  unfold rl
  rw [PyData.eqv, eqv_rowsAll]
theorem lay_lists : ∀ Ls : List (List Row), PyData.canLayAll0 (Ls.map rl) = true ∧ PyData.depthAll (Ls.map rl) ≤ 5
  | [] => ⟨rfl, by simp [PyData.depthAll]⟩
  | l :: Ls => by
    obtain ⟨h1, h2⟩ := lay_lists Ls
    have a := lay_rows l
    have b := deep_rows l
    constructor
    · rw [List.map_cons, PyData.canLayAll0, h1]
      unfold rl
      rw [PyData.canLay0, a] <;> rfl
    · simp only [List.map_cons, PyData.depthAll]
      unfold rl at h2 ⊢
      simp only [PyData.depth]
      omega
theorem shaped_lists (Ls : List (List Row)) : SeqAt.shaped (.list (Ls.map rl)) = true := by
  obtain ⟨h1, h2⟩ := lay_lists Ls
  unfold SeqAt.shaped
  have e : (PyData.list (Ls.map rl)).canLay0 = true := by rw [PyData.canLay0, h1]
  have e2 : (PyData.list (Ls.map rl)).depth ≤ 64 := by
    simp only [PyData.depth]
    omega
  rw [e, decide_eq_true e2] <;> rfl
theorem any_rl (Ls : List (List Row)) (q : List Row) : ((Ls.map rl).any fun z => PyData.eqv z (rl q)) = decide (q ∈ Ls) := by
  rw [List.any_map, Bool.eq_iff_iff, List.any_eq_true, decide_eq_true_eq]
  constructor
  · rintro ⟨l, hl, e⟩
    have e : PyData.eqv (rl l) (rl q) = true := e
    rw [eqv_rl] at e
    rw [← of_decide_eq_true e]
    exact hl
  · intro h
    exact ⟨q, h, by show PyData.eqv (rl q) (rl q) = true; rw [eqv_rl, decide_eq_true rfl]⟩
section
variable {K : PySem.W.Frag} {H : Hp}
theorem LRw.dp {x : V} {l : List Row} (h : LRw H x l) : Dp K H x (rl l) := by
  obtain ⟨b, ys, rfl, h1, h2⟩ := h
  exact .lst (sq_of h1) (dp_rows h2)
theorem dp_lists : ∀ {xs : List V} {Ls : List (List Row)}, Paired (LRw H) xs Ls → DpAll K H xs (Ls.map rl)
  | _, _, .nil => .nil
  | _, _, .cons h t => .cons h.dp (dp_lists t)
theorem rv_inLists {x : V} {f : Addr} {ys : List V} {Ls : List (List Row)} {q : List Row} (hf : H f = some (.lst ys)) (hp : Paired (LRw H) ys Ls) (hx : LRw H x q) : RV (rInD K) x (.ref f) H (.bl (decide (q ∈ Ls))) := fun H1 e Q k => by
  refine ⟨rl q, Ls.map rl, (LRw.ex hx e).dp, .lst (sq_of (e _ _ hf)) (dp_lists (Paired.imp (fun _ _ h => LRw.ex h e) hp)), shaped_rows q, shaped_lists Ls, ?_⟩
  rw [any_rl]
  exact k H1 (Ex.refl H1)
theorem rv_ninLists {x : V} {f : Addr} {ys : List V} {Ls : List (List Row)} {q : List Row} (hf : H f = some (.lst ys)) (hp : Paired (LRw H) ys Ls) (hx : LRw H x q) : RV (rNotInD K) x (.ref f) H (.bl (!decide (q ∈ Ls))) := fun H1 e Q k => by
  refine ⟨rl q, Ls.map rl, (LRw.ex hx e).dp, .lst (sq_of (e _ _ hf)) (dp_lists (Paired.imp (fun _ _ h => LRw.ex h e) hp)), shaped_rows q, shaped_lists Ls, ?_⟩
  rw [any_rl]
  exact k H1 (Ex.refl H1)
end
section
variable {σ : L2.St} {H : Hp} {ta tb : TE} {t : TT} {D : Ends} {tz : TS}
theorem q_asgIf {i : Nat} {b : Bool} (h : EvT t σ H b) (k1 : b = true → ∀ H1, Ex H H1 → ta σ H1 (fun v H2 => tz D (σ.set i (some v)) H2)) (k2 : b = false → ∀ H1, Ex H H1 → tb σ H1 (fun v H2 => tz D (σ.set i (some v)) H2)) : tSeq (tAsg (tIf t ta tb) (gName i)) tz D σ H :=
  h H (Ex.refl H) _ fun H1 e => by
    cases b with
    | true => exact iteT (k1 rfl H1 e)
    | false => exact iteF (k2 rfl H1 e)
end
/-- l is reached by j moves -/
def Rch (rs : List Row) (j : Nat) (l : List Row) : Prop := ∃ ms : List Move, ms.length = j ∧ led rs ms = some l
theorem Rch.next {rs l l' : List Row} {j : Nat} {r : Row} {o : Option Row} (h : Rch rs j l) (hd : done l r o = some l') : Rch rs (j + 1) l' := by
  obtain ⟨ms, h1, h2⟩ := h
  exact ⟨ms ++ [(r, o)], by rw [List.length_append, h1] <;> rfl, by rw [led_snoc, h2]; exact hd⟩
section
variable {P : Program} {w : World} {K : PySem.W.Frag} {mg : Str → Option Value} {base : Heap} {a : Nat → Addr} {d : Nat → FuncData} {tk : Nat → Tok}
def sp__law_within : Sp := fun vs H Q _ => ∃ (x y : V) (rs qs : List Row) (m : Nat), vs = [x, y, .int (m : Int)] ∧ LRw H x rs ∧ LRw H y qs ∧ rs.Nodup ∧ rs.length ≤ 4 ∧ m ≤ 3 ∧ ¬ Rch rs m qs ∧ RetV (.bl false) H Q
theorem ok__law_within (T : All K mg a d tk) : FnOk P w K mg base CX0 2 (a 32) (d 32) ["first", "second", "many"] sp__law_within := by
  refine T.F__law_within.fn.ok sc__law_within (fun vs H Q E h => ?_) (fun cdv A outer s H vs Q E hr h => ?_)
  · obtain ⟨x, y, rs, qs, m, rfl, _⟩ := h
    rfl
  · obtain ⟨x, y, rs, qs, m, rfl, hx, hy, nR, h4, h3, hno, k⟩ := h
    have nd := sc__law_within.nd
    have hu64 := hr.units
    have hu65 := hu65_of hr
    refine ⟨_, (pss_cons (ps_set (i := 3) nd rfl (Or.inl rfl) (pe_lst (pa_cons (pe_callTy call_list_of rfl T.n_list PyProof.Rows.boot_list (pa_cons (pv 0) pa_nil)) pa_nil)))
 (pss_cons (ps_for PassesOwn.never rfl (pi_range1 rfl T.n_range (pa_cons (pv 2) pa_nil)) (pg_name (i := 4) nd rfl (Or.inl rfl))
 (pss_cons (ps_set (i := 5) nd rfl (Or.inl rfl) (pe_lst pa_nil))
 (pss_cons (ps_for PassesOwn.never rfl (pi_list (pv 3)) (pg_name (i := 6) nd rfl (Or.inl rfl))
 (pss_one (ps_for PassesOwn.never rfl (pi_list (pv 6)) (pg_name (i := 7) nd rfl (Or.inl rfl))
 (pss_one (ps_for PassesOwn.never rfl (pi_list (pe_op op_cat (pe_lst (pa_cons pe_non pa_nil)) (pv 6))) (pg_name (i := 8) nd rfl (Or.inl rfl))
 (pss_cons (ps_set (i := 9) nd rfl (Or.inl rfl) (pe_ifExp (pt_cmpR (op_neD hu64) (pv 7) (pv 8) (nomark _)) (pe_call (ok__law_done T) (hr.mono (by decide)) rfl T.F__law_done.m T.F__law_done.kp T.F__law_done.b .nil pass0 (pa_cons (pv 6) (pa_cons (pe_tup (pa_cons (pv 7) (pa_cons (pv 8) pa_nil))) pa_nil))) pe_non))
 (pss_one (ps_if (PW.pt (pw_and (pt_cmp (pc_notN (pv 9))) (pw_and1 (pt_cmpR (op_notInD hu65) (pv 9) (pv 5) rfl))))
 (pss_one (ps_expr (pe_bm PySem.F.plainAttrs_list PySem.F.slot_list_append PySem.F.type_list_append mt_append (pv 5) (pa_cons (pv 9) pa_nil))))
 pss_nil))))))))
 (pss_one (ps_set (i := 3) nd rfl (Or.inl rfl) (pv 5))))))
 (pss_one (ps_ret (pe_cmpR (op_inD hu65) (pe_callTy call_list_of rfl T.n_list PyProof.Rows.boot_list (pa_cons (pv 1) pa_nil)) (pv 3) rfl))))), ?_⟩
    obtain ⟨xb, xs, rfl, hxb, hxp⟩ := id hx
    obtain ⟨yb, ys, rfl, hyb, hyp⟩ := id hy
    refine ⟨_, rfl, xb, xs, rfl, .inl (sq_of hxb), fun l0 nl0 => ⟨sz_of (show 1 ≤ 100000 by decide), fun kb nkb => ?_⟩⟩
    have e0 : Ex H (upd H l0 (.lst xs)) := Ex.new nl0
    have e1 : Ex H (upd (upd H l0 (.lst xs)) kb (.lst [.ref l0])) := e0.trans (Ex.new nkb)
    generalize hH1 : upd (upd H l0 (.lst xs)) kb (.lst [.ref l0]) = H1 at *
    have hkb1 : H1 kb = some (.lst [.ref l0]) := by rw [← hH1]; exact upd_same
    have hl1 : H1 l0 = some (.lst xs) := by
      rw [← hH1, upd_ne (fun z => by rw [← z, upd_same] at nkb; cases nkb), upd_same]
    let Ov : Nat → L2.St → Hp → Prop := fun j σ' H' => Ex H H' ∧ ∃ (kb : Addr) (ks : List V) (Ls : List (List Row)) (w4 w5 w6 w7 w8 w9 : Option V), σ' = [some (.ref xb), some (.ref yb), some (.int (m : Int)), some (.ref kb), w4, w5, w6, w7, w8, w9] ∧ H' kb = some (.lst ks) ∧ Paired (LRw H') ks Ls ∧ (∀ l ∈ Ls, Rch rs j l) ∧ ks.length ≤ 20 ^ j
    refine q_forR1 (n := (m : Int)) (ea_cons (ev_var rfl) ea_nil) ⟨by omega, by omega⟩ Ov (fun H2 e2 => ⟨e1.trans e2, kb, [.ref l0], [rs], none, none, none, none, none, none, rfl, e2 _ _ hkb1, .cons ⟨l0, xs, rfl, e2 _ _ hl1, Paired.imp (fun _ _ h => h.ex (e1.trans e2)) hxp⟩ .nil, fun l hl => by rw [List.mem_singleton.mp hl]; exact ⟨[], rfl, rfl⟩, Nat.le_refl _⟩) ?_ ?_
    · rintro j σ' H' hj ⟨e', kb, ks, Ls, w4, w5, w6, w7, w8, w9, rfl, hkb, hks, hre, hlen⟩
      have hj3 : j < 3 := by omega
      have h400 : ks.length ≤ 400 := by
        have : j = 0 ∨ j = 1 ∨ j = 2 := by omega
        rcases this with z | z | z <;> · subst z; omega
      have hp20 : 20 ^ (j + 1) = 20 ^ j * 20 := Nat.pow_succ ..
      refine q_asgL (el_lst ea_nil (Nat.zero_le _)) fun mb H2 nmb e2 hmb => ?_
      have e02 := e'.trans e2
      let In : Nat → L2.St → Hp → Prop := fun c σ'' H'' => Ex H' H'' ∧ ∃ (zs : List V) (Ms : List (List Row)) (w6 w7 w8 w9 : Option V), σ'' = [some (.ref xb), some (.ref yb), some (.int (m : Int)), some (.ref kb), some (.int (j : Nat)), some (.ref mb), w6, w7, w8, w9] ∧ H'' mb = some (.lst zs) ∧ Paired (LRw H'') zs Ms ∧ (∀ l ∈ Ms, Rch rs (j + 1) l) ∧ (∀ v ∈ zs, v ≠ .ref mb) ∧ zs.length ≤ c
      have nmbH : ∀ {b : Addr} {o : HO}, H' b = some o → b ≠ mb := fun h z => by rw [z, nmb] at h; cases h
      refine q_forLn (K := K) (a := kb) (xs := ks) (ev_var rfl) (sq_of (e2 _ _ hkb)) (fun i1 σ'' H'' => In (i1 * 20) σ'' H'') (fun H3 e3 => ⟨e2.trans e3, [], [], _, _, _, _, rfl, e3 _ _ hmb, .nil, fun l h => absurd h (by simp), fun v h => absurd h (by simp), Nat.zero_le _⟩) (fun i σ'' H'' _ h => sq_of (h.1 _ _ hkb)) ?_ ?_
      · rintro i1 v σ'' H3 hi1 ⟨e3, zs, Ms, w6, w7, w8, w9, rfl, hmb3, hzs, hMs, hne, hzl⟩
        obtain ⟨l, hl, hv⟩ := Paired.at_l hks i1 v hi1
        have hrl := hre l (List.mem_of_getElem? hl)
        obtain ⟨ms0, _, hled⟩ := id hrl
        have pl := led_perm nR ms0 l hled
        have nl : l.Nodup := pl.nodup_iff.mpr nR
        have ll : l.length ≤ 4 := by rw [pl.length_eq]; exact h4
        obtain ⟨vb, vs1, rfl, hvb, hvp⟩ := id hv
        have lvs : vs1.length = l.length := Paired.length hvp
        have hi1l : i1 < ks.length := (List.getElem?_eq_some_iff.mp hi1).1
        refine s_forLn (K := K) (a := vb) (xs := vs1) (ev_var rfl) (sq_of (e3 _ _ hvb)) (fun i2 σ4 H4 => In (i1 * 20 + i2 * 5) σ4 H4 ∧ σ4[6]? = some (some (.ref vb))) (fun H4 e4 => ⟨⟨e3.trans e4, zs, Ms, _, _, _, _, rfl, e4 _ _ hmb3, Paired.imp (fun _ _ h => LRw.ex h e4) hzs, hMs, hne, by omega⟩, rfl⟩) (fun i σ4 H4 _ h => sq_of (h.1.1 _ _ hvb)) ?_ ?_
        · rintro i2 rv σ4 H4 hi2 ⟨⟨e4, zs, Ms, w6, w7, w8, w9, rfl, hmb4, hzs, hMs, hne, hzl⟩, h6⟩
          have h6 : w6 = some (.ref vb) := Option.some.inj h6
          subst h6
          obtain ⟨r, hr, hrow⟩ := Paired.at_l hvp i2 rv hi2
          have hi2l : i2 < vs1.length := (List.getElem?_eq_some_iff.mp hi2).1
          have cat := el_catLE (ta := tLst (tCons (tC .non) tNil)) (tb := tVar 6) (σ := [some (.ref xb), some (.ref yb), some (.int (m : Int)), some (.ref kb), some (.int (j : Nat)), some (.ref mb), some (.ref vb), some rv, w8, w9]) (H := H4) (el_lst (ea_cons ev_c ea_nil) (show 1 ≤ 100000 by decide)) (ev_var rfl) (e4 _ _ hvb) (by show 1 + vs1.length ≤ 100000; omega)
          refine s_forNL (K := K) cat (fun pc i3 σ5 H5 => In (i1 * 20 + i2 * 5 + i3) σ5 H5 ∧ σ5[6]? = some (some (.ref vb)) ∧ σ5[7]? = some (some rv) ∧ pc ≠ mb ∧ H5 pc = some (.lst ([V.non] ++ vs1))) (fun pc H5 npc e5 hpc => ⟨⟨e4.trans e5, zs, Ms, _, _, _, _, rfl, e5 _ _ hmb4, Paired.imp (fun _ _ h => LRw.ex h e5) hzs, hMs, hne, by omega⟩, rfl, rfl, (fun z => by rw [z, hmb4] at npc; cases npc), hpc⟩) (fun pc i σ5 H5 _ h => sq_of h.2.2.2.2) ?_ ?_
          · rintro pc i3 bv σ5 H5 hi3 ⟨⟨e5, zs, Ms, w6, w7, w8, w9, rfl, hmb5, hzs, hMs, hne, hzl⟩, h6, h7, npc, hpc⟩
            have h6' : w6 = some (.ref vb) := Option.some.inj h6
            have h7' : w7 = some rv := Option.some.inj h7
            subst h6'
            subst h7'
            have hi3l : i3 < ([V.non] ++ vs1).length := (List.getElem?_eq_some_iff.mp hi3).1
            have hi35 : i3 < 5 := by rw [List.length_append] at hi3l; have : [V.non].length = 1 := rfl; omega
            have hz1000 : zs.length ≤ 9000 := by omega
            obtain ⟨o, ho⟩ : ∃ o, AhV H' bv o := by
              cases i3 with
              | zero => cases hi3; exact ⟨none, rfl⟩
              | succ i =>
                have hi3 : vs1[i]? = some bv := hi3
                obtain ⟨q, _, hq⟩ := Paired.at_l hvp i bv hi3
                exact ⟨some q, hq⟩
            have hrow5 := hrow.ex e5
            have ho5 := ho.ex e5
            have mono : ∀ {H6 : Hp} {c : Nat}, Ex H5 H6 → Paired (LRw H6) zs Ms := fun e6 => Paired.imp (fun _ _ h => LRw.ex h e6) hzs
            have fin : ∀ (v9 : V) (H6 : Hp), Ex H5 H6 → (v9 = .non ∨ ∃ q l', v9 = .ref q ∧ H5 q = none ∧ LRw H6 (.ref q) l' ∧ Rch rs (j + 1) l') →
                tIfS (tAnd (tB (tNotN (tVar 9))) (tTest (tOp (rNotInD K) (tVar 9) (tVar 5)))) (tDrop (tBM K "list" rAppend (tVar 5) (tCons (tVar 9) tNil))) tNext
                  { nx := fun σ5 H5 => In (i1 * 20 + i2 * 5 + (i3 + 1)) σ5 H5 ∧ σ5[6]? = some (some (.ref vb)) ∧ σ5[7]? = some (some rv) ∧ pc ≠ mb ∧ H5 pc = some (.lst ([V.non] ++ vs1)), rt := Q, ct := fun _ _ => False, bk := fun _ _ => False }
                  [some (.ref xb), some (.ref yb), some (.int (m : Int)), some (.ref kb), some (.int (j : Nat)), some (.ref mb), some (.ref vb), some rv, some bv, some v9] H6 := fun v9 H6 e6 hv9 => by
              have hmb6 := e6 _ _ hmb5
              rcases hv9 with z | ⟨q, l', z, nq, hl', hre'⟩
              · subst z
                refine s_when (b := false) (et_and (b := true) (a := false) (et_is (et_B (ev_notN (x := .non) (ev_var rfl))) rfl) fun h => nomatch h) (fun h => nomatch h) fun _ H7 e7 => ?_
                exact ⟨⟨e5.trans (e6.trans e7), zs, Ms, _, _, _, _, rfl, e7 _ _ hmb6, Paired.imp (fun _ _ h => LRw.ex h (e6.trans e7)) hzs, hMs, hne, by omega⟩, rfl, rfl, npc, (e6.trans e7) _ _ hpc⟩
              · subst z
                have nqm : q ≠ mb := fun z => by rw [z, hmb5] at nq; cases nq
                refine s_when (et_and (a := true) (et_is (et_B (ev_notN (x := .ref q) (ev_var rfl))) rfl) fun _ => et_test (ev_op (ev_var rfl) (ev_var rfl) (rv_ninLists hmb6 (Paired.imp (fun _ _ h => LRw.ex h e6) hzs) hl'))) (fun _ H7 e7 => ?_) fun _ H7 e7 => ?_
                · refine s_app (K := K) (e7 _ _ hmb6) (ev_var rfl) (ev_var rfl) (by omega) fun H8 e8 => ?_
                  have hmb8 := e8 _ _ (e7 _ _ hmb6)
                  have e58 := e6.trans (e7.trans e8)
                  have up : ∀ {v : V} {c : List Row}, v ≠ .ref mb → LRw H8 v c → LRw (upd H8 mb (.lst (zs ++ [.ref q]))) v c := fun n h => LRw.upd h hmb8 (fun _ z => by cases z) n
                  refine ⟨⟨Ex.mut (e5.trans e58) nmb, zs ++ [.ref q], Ms ++ [l'], _, _, _, _, rfl, upd_same, ?_, fun l hl => ?_, fun v hv => ?_, by rw [List.length_append, List.length_singleton]; omega⟩, rfl, rfl, npc, by rw [upd_ne npc]; exact e58 _ _ hpc⟩
                  · refine Paired.append (paired_of (Paired.length hzs) fun i v l hv hl => ?_) (.cons (up (fun z => nqm (V.ref.inj z)) (LRw.ex hl' (e7.trans e8))) .nil)
                    obtain ⟨l2, hl2, h2⟩ := Paired.at_l hzs i v hv
                    rw [hl] at hl2
                    cases hl2
                    exact up (hne v (List.mem_of_getElem? hv)) (LRw.ex h2 e58)
                  · rcases List.mem_append.mp hl with hl | hl
                    · exact hMs l hl
                    · rw [List.mem_singleton.mp hl]; exact hre'
                  · rcases List.mem_append.mp hv with hv | hv
                    · exact hne v hv
                    · rw [List.mem_singleton.mp hv]; exact fun z => nqm (V.ref.inj z)
                · exact ⟨⟨e5.trans (e6.trans e7), zs, Ms, _, _, _, _, rfl, e7 _ _ hmb6, Paired.imp (fun _ _ h => LRw.ex h (e6.trans e7)) hzs, hMs, hne, by omega⟩, rfl, rfl, npc, (e6.trans e7) _ _ hpc⟩
            refine q_asgIf (et_test (ev_op (ev_var rfl) (ev_var rfl) (rv_neOpt (K := K) hrow5 ho5))) (fun _ H6 e6 => ?_) fun _ H6 e6 => ?_
            · refine ⟨_, rfl, _, rfl, _, rfl, sz_of (show 2 ≤ 100000 by decide), fun tp ntp => ?_⟩
              have eT : Ex H6 (upd H6 tp (.tup [rv, bv])) := Ex.new ntp
              have e56 := e6.trans eT
              refine ⟨.ref vb, .ref tp, l, r, o, rfl, (hv.ex e5).ex e56, ⟨tp, rv, bv, rfl, upd_same, hrow5.ex e56, ho5.ex e56⟩, by omega, nl, ?_⟩
              cases hd : done l r o with
              | none => exact fun H7 e7 => fin .non H7 (e56.trans e7) (.inl rfl)
              | some l' => exact fun q H7 nq e7 hq => fin (.ref q) H7 (e56.trans e7) (.inr ⟨q, l', rfl, fresh_back e56 nq, hq, hrl.next hd⟩)
            · exact fin .non H6 e6 (.inl rfl)
          · rintro pc σ5 H5 ⟨⟨e5, zs, Ms, w6, w7, w8, w9, rfl, hmb5, hzs, hMs, hne, hzl⟩, h6, h7, npc, hpc⟩
            have hlp : ([V.non] ++ vs1).length = 1 + vs1.length := by rw [List.length_append] <;> rfl
            exact ⟨⟨e5, zs, Ms, _, _, _, _, rfl, hmb5, hzs, hMs, hne, by omega⟩, h6⟩
        · rintro σ4 H4 ⟨⟨e4, zs, Ms, w6, w7, w8, w9, rfl, hmb4, hzs, hMs, hne, hzl⟩, h6⟩
          exact ⟨e4, zs, Ms, _, _, _, _, rfl, hmb4, hzs, hMs, hne, by omega⟩
      · rintro σ'' H3 ⟨e3, zs, Ms, w6, w7, w8, w9, rfl, hmb3, hzs, hMs, hne, hzl⟩
        refine s_asg (ev_var rfl) fun H4 e4 => ⟨e'.trans (e3.trans e4), mb, zs, Ms, _, _, _, _, _, _, rfl, e4 _ _ hmb3, Paired.imp (fun _ _ h => LRw.ex h e4) hzs, hMs, ?_⟩
        rw [hp20]
        exact Nat.le_trans hzl (Nat.mul_le_mul_right 20 hlen)
    · rintro σ' H' ⟨e', kb, ks, Ls, w4, w5, w6, w7, w8, w9, rfl, hkb, hks, hre, hlen⟩
      refine ⟨_, rfl, yb, ys, rfl, .inl (sq_of (e' _ _ hyb)), fun l2 nl2 => ?_⟩
      have e2 : Ex H' (upd H' l2 (.lst ys)) := Ex.new nl2
      refine ⟨_, rfl, ?_⟩
      refine rv_inLists (K := K) (e2 _ _ hkb) (Paired.imp (fun _ _ h => LRw.ex h e2) hks) ⟨l2, ys, rfl, upd_same, Paired.imp (fun _ _ h => h.ex (e'.trans e2)) hyp⟩ _ (Ex.refl _) _ fun H4 e4 => ?_
      have : qs ∉ Ls := fun z => hno (by
        have := hre qs z
        rwa [Int.toNat_natCast] at this)
      rw [decide_eq_false this]
      exact k H4 (e'.trans (e2.trans e4))
end
end Mv
/-! _law_tuples_right. -/
namespace Mv
open PySem PySem.Spec PyProof.Rows L2 Evl
def SpP (sp : Sp) (vs : List V) (H : Hp) (P : V → Hp → Prop) : Prop := ∀ H1, Ex H H1 → ∀ Q : VK, (∀ v H2, Ex H1 H2 → P v H2 → Q v H2) → ∀ E : XK, sp vs H1 Q E
section
variable {K : PySem.W.Frag} {σ : L2.St} {H : Hp} {ta tb te te1 te2 : TE} {tk : TA} {x y z : V} {r : R2} {D : Ends} {tz : TS} {P R : V → Hp → Prop}
theorem ep_call {sp : Sp} {dvs vs : List V} {E : XK} {t : TA} (h : EvA t σ H vs) (hs : SpP sp (vs ++ dvs) H P) : EvP (tCall sp dvs E t) σ H P := fun H1 e Q q =>
  h H1 e _ fun H2 e2 => hs H2 (e.trans e2) Q (fun v H3 e3 hp => q v H3 (e2.trans e3) hp) E
theorem ep_callN {sp : Sp} {zs : List V} {E : XK} {m : Nat} {gV : List V → List V → List V} (h : EvA tk σ H zs) (hs : SpP sp (gV [] zs) H P) (hm : zs.length = m) : EvP (tCallN 0 m sp gV E tNil tk) σ H P := fun H1 e Q q =>
  h H1 e _ fun H2 e2 => ⟨rfl, hm, hs H2 (e.trans e2) Q (fun v H3 e3 hp => q v H3 (e2.trans e3) hp) E⟩
theorem ev_callN {sp : Sp} {zs : List V} {E : XK} {m : Nat} {gV : List V → List V → List V} (h : EvA tk σ H zs) (hs : SpV sp (gV [] zs) H z) (hm : zs.length = m) : Ev (tCallN 0 m sp gV E tNil tk) σ H z := fun H1 e Q q =>
  h H1 e _ fun H2 e2 => ⟨rfl, hm, hs H2 (e.trans e2) Q (fun H3 e3 => q H3 (e2.trans e3)) E⟩
theorem EvP.imp (h : EvP te σ H P) (f : ∀ v H2, P v H2 → R v H2) : EvP te σ H R := fun H1 e Q q => h H1 e Q fun v H2 e2 hp => q v H2 e2 (f v H2 hp)
theorem q_asgP {i : Nat} (h : EvP te σ H P) (k : ∀ v H1, Ex H H1 → P v H1 → tz D (σ.set i (some v)) H1) : tSeq (tAsg te (gName i)) tz D σ H := h H (Ex.refl H) _ k
theorem ev_opP (ha : EvP ta σ H P) (sP : ∀ {v H1 H2}, P v H1 → Ex H1 H2 → P v H2) (hb : EvP tb σ H R) (hr : ∀ x y H2, Ex H H2 → P x H2 → R y H2 → RV r x y H2 z) : Ev (tOp r ta tb) σ H z := fun H1 e Q q =>
  ha H1 e _ fun x H2 e2 hx => hb H2 (e.trans e2) _ fun y H3 e3 hy => hr x y H3 ((e.trans e2).trans e3) (sP hx e3) hy H3 (Ex.refl _) Q fun H4 e4 => q H4 ((e2.trans e3).trans e4)
theorem ev_lenP {n : Int} (ha : EvP ta σ H fun v H2 => ∃ p xs, v = .ref p ∧ Seq H2 p xs ∧ (xs.length : Int) = n) : Ev (tCB (rLenS K) (tCons ta tNil)) σ H (.int n) := fun H1 e Q q =>
  ha H1 e _ fun v H2 e2 ⟨p, xs, ev, h, hn⟩ => ⟨p, xs, by rw [ev] <;> rfl, h.sq, by rw [hn]; exact q H2 e2⟩
theorem eu_tupOf {a : Addr} {xs : List V} (ha : Ev ta σ H (.ref a)) (h : H a = some (.lst xs)) : EvU (tCB (rTupOf K) (tCons ta tNil)) σ H xs := fun H1 e Q q =>
  ha H1 e _ fun H2 e2 => ⟨a, xs, rfl, .inl ⟨sq_of ((e.trans e2) _ _ h), fun l hl => q l _ (fresh_back e2 hl) (e2.trans (Ex.new hl)) upd_same⟩⟩
theorem q_lst2U {i : Nat} {xs ys : List V} (h1 : EvU te1 σ H xs) (h2 : EvU te2 σ H ys) (k : ∀ p q l H1, Ex H H1 → H1 p = some (.tup xs) → H1 q = some (.tup ys) → H l = none → H1 l = some (.lst [.ref p, .ref q]) → tz D (σ.set i (some (.ref l))) H1) :
    tSeq (tAsg (tLst (tCons te1 (tCons te2 tNil))) (gName i)) tz D σ H :=
  h1 H (Ex.refl _) _ fun p H1 np e1 hp => h2 H1 e1 _ fun q H2 nq e2 hq => ⟨sz_of (show 2 ≤ 100000 by decide), fun l hl => by
    have eN : Ex H2 (upd H2 l (.lst [.ref p, .ref q])) := Ex.new hl
    exact k p q l _ ((e1.trans e2).trans eN) ((e2.trans eN) _ _ hp) (eN _ _ hq) (fresh_back (e1.trans e2) hl) upd_same⟩
theorem rv_neRl {l q : List Row} (hx : LRw H x l) (hy : LRw H y q) : RV (rNeD K) x y H (.bl (!decide (l = q))) := fun H1 e Q k => by
  refine ⟨rl l, rl q, (LRw.ex hx e).dp, (LRw.ex hy e).dp, shaped_rows l, shaped_rows q, ?_⟩
  rw [eqv_rl]
  exact k H1 (Ex.refl H1)
theorem rv_eqRl {l q : List Row} (hx : LRw H x l) (hy : LRw H y q) : RV (rEqD K) x y H (.bl (decide (l = q))) := fun H1 e Q k => by
  refine ⟨rl l, rl q, (LRw.ex hx e).dp, (LRw.ex hy e).dp, shaped_rows l, shaped_rows q, ?_⟩
  rw [eqv_rl]
  exact k H1 (Ex.refl H1)
theorem shaped_ints (r : List Int) : SeqAt.shaped (.list (r.map PyData.int)) = true := by
  have := deep_ints r
  unfold SeqAt.shaped
  have e : (PyData.list (r.map PyData.int)).canLay0 = true := by rw [PyData.canLay0, lay_ints]
  have e2 : (PyData.list (r.map PyData.int)).depth ≤ 64 := by
    simp only [PyData.depth]
    omega
  rw [e, decide_eq_true e2] <;> rfl
theorem ev_neInts {p : Addr} {ns : List Int} (ha : Ev ta σ H (.ref p)) (hp : H p = some (.lst (ns.map V.int))) (hb : EvL tb σ H (ns.map V.int)) : Ev (tOp (rNeD K) ta tb) σ H (.bl false) := fun H1 e Q q =>
  ha H1 e _ fun H2 e2 => hb H2 (e.trans e2) _ fun p2 H3 np2 e3 h3 => by
    refine ⟨.list (ns.map .int), .list (ns.map .int), .lst (sq_of (((e.trans e2).trans e3) _ _ hp)) (dp_ints ns), .lst (sq_of h3) (dp_ints ns), shaped_ints ns, shaped_ints ns, ?_⟩
    rw [PyData.eqv, eqv_ints, decide_eq_true rfl]
    exact q H3 (e2.trans e3)
theorem rv_isnot {a b : Bool} : RV (fun x y H Q => ∃ a b, x = V.bl a ∧ y = .bl b ∧ Q (.bl (!decide (a = b))) H) (.bl a) (.bl b) H (.bl (!decide (a = b))) := fun H1 _ Q q => ⟨a, b, rfl, rfl, q H1 (Ex.refl _)⟩
end
/-- so many moves, as few as possible -/
def Most (rs qs : List Row) (most : Nat) : Prop := ∀ lev ahd M, LevOn [rs, qs] rs lev ahd → IsCount rs lev M → most + M = rs.length
def PlanV (n : Nat) (rs qs : List Row) (most : Nat) (v : V) (H2 : Hp) : Prop := ∃ p ys ms, v = .ref p ∧ H2 p = some (.lst ys) ∧ MvAll H2 ys ms ∧ (∀ m ∈ ms, OkMv n m) ∧ led rs ms = some qs ∧ ms.length = most ∧ (ms.map (·.1)).Nodup
theorem PlanV.ex {n most : Nat} {rs qs : List Row} {v : V} {H H' : Hp} (h : PlanV n rs qs most v H) (e : Ex H H') : PlanV n rs qs most v H' := let ⟨p, ys, ms, h1, h2, h3, h4⟩ := h; ⟨p, ys, ms, h1, e _ _ h2, h3.ex e, h4⟩
theorem PlanRes.v {n most : Nat} {rs qs : List Row} {p : Addr} {H : Hp} (h : PlanRes n rs qs p H) (hm : Most rs qs most) : PlanV n rs qs most (.ref p) H := by
  obtain ⟨ys, ms, lev, ahd, M, h1, h2, h3, h4, h5, h6, h7, h8⟩ := h
  have := hm lev ahd M h5 h6
  exact ⟨p, ys, ms, rfl, h1, h2, h3, h4, by omega, h8⟩
theorem PlanRes.nz {n : Nat} {rs qs : List Row} {p : Addr} {H : Hp} (h : PlanRes n rs qs p H) : ∃ o, H p = some o := let ⟨ys, _, _, _, _, h1, _⟩ := h; ⟨_, h1⟩
theorem spp_plan {x y : V} {rs qs : List Row} {n most : Nat} {H : Hp} (hx : Rws H x rs) (hy : Rws H y qs) (ho : OkRows n rs) (pm : qs.Perm rs) (hm : Most rs qs most) : SpP sp_plan_moves [x, y] H (PlanV n rs qs most) := fun H1 e Q q _ =>
  ⟨x, y, rs, qs, n, rfl, hx.ex e, hy.ex e, ho, pm, fun p H2 _ e2 h => q _ H2 e2 (h.v hm)⟩
/-- a new object -/
def NewAt (H : Hp) (v : V) : Prop := ∃ p, v = .ref p ∧ H p = none
theorem spp_planN {x y : V} {rs qs : List Row} {n most : Nat} {H : Hp} (hx : Rws H x rs) (hy : Rws H y qs) (ho : OkRows n rs) (pm : qs.Perm rs) (hm : Most rs qs most) : SpP sp_plan_moves [x, y] H (fun v H2 => PlanV n rs qs most v H2 ∧ NewAt H v) := fun H1 e Q q _ =>
  ⟨x, y, rs, qs, n, rfl, hx.ex e, hy.ex e, ho, pm, fun p H2 np e2 h => q _ H2 e2 ⟨h.v hm, p, rfl, fresh_back e np⟩⟩
theorem spv_fewest {x y : V} {rs qs : List Row} {n most : Nat} {H : Hp} (hx : Rws H x rs) (hy : Rws H y qs) (ho : OkRows n rs) (pm : qs.Perm rs) (hm : Most rs qs most) : SpV sp_fewest_moves [x, y] H (.int (most : Nat)) := fun H1 e Q q _ =>
  ⟨x, y, rs, qs, n, rfl, hx.ex e, hy.ex e, ho, pm, fun lev ahd M H2 h1 h2 e2 => by
    have := hm lev ahd M h1 h2
    have z : ((rs.length : Int) - (M : Int)) = (most : Nat) := by omega
    rw [z]
    exact q H2 e2⟩
theorem Most.len {rs qs : List Row} {most : Nat} (h : Most rs qs most) {ms : List Move} (hl : ms.length = most) : ∀ lev ahd M, LevOn [rs, qs] rs lev ahd → IsCount rs lev M → (ms.length : Int) = (rs.length : Int) - (M : Int) := fun lev ahd M h1 h2 => by
  have := h lev ahd M h1 h2
  omega
section
variable {K : PySem.W.Frag} {σ : L2.St} {H : Hp} {ta tb tc te : TE} {x y z : V}
theorem ep_led {rs : List Row} {p : Addr} {zs : List V} {ms : List Move} {E : XK} (h0 : Ev ta σ H x) (hx : LRw H x rs) (h1 : Ev tb σ H (.ref p)) (hp : H p = some (.lst zs)) (hm : MvAll H zs ms) (nR : rs.Nodup) (hl : rs.length ≤ 60) :
    EvP (tCall sp__law_led [] E (tCons (tCB (rListS K) (tCons ta tNil)) (tCons tb tNil))) σ H (fun v H2 => LedAt H2 v (led rs ms)) := fun H1 e Q q => by
  obtain ⟨xb, xs, rfl, hxb, hxp⟩ := id hx
  refine h0 H1 e _ fun H2 e2 => ⟨xb, xs, rfl, .inl (sq_of ((e.trans e2) _ _ hxb)), fun l nl => ?_⟩
  have eN : Ex H2 (upd H2 l (.lst xs)) := Ex.new nl
  have eA := (e.trans e2).trans eN
  refine h1 _ eA _ fun H3 e3 => ?_
  have eB := eA.trans e3
  exact ⟨.ref l, .ref p, rs, p, zs, ms, rfl, ⟨l, xs, rfl, e3 _ _ upd_same, Paired.imp (fun _ _ h => h.ex eB) hxp⟩, nR, hl, rfl, eB _ _ hp, hm.ex eB, fun v H4 e4 h4 => q v H4 ((e2.trans eN).trans (e3.trans e4)) h4⟩
/-- check_moves(moves=tuple(steps), other=.., one=..) -/
theorem ev_check3N {rs qs : List Row} {zs : List V} {ms : List Move} {n : Nat} {E : XK} (hu : EvU tc σ H zs) (hb : Ev tb σ H y) (ha : Ev ta σ H x) (hx : Rws H x rs) (hy : Rws H y qs) (ho : OkRows n rs) (pm : qs.Perm rs) (hm : MvAll H zs ms) (om : ∀ m ∈ ms, OkMv n m) (l300 : ms.length ≤ 300)
    (hM : ∀ lev ahd M, LevOn [rs, qs] rs lev ahd → IsCount rs lev M → (ms.length : Int) = (rs.length : Int) - (M : Int)) (hL : led rs ms = some qs) :
    Ev (tCallN 0 3 sp_check_moves (fun _ zs => zs.reverse) E tNil (tCons tc (tCons tb (tCons ta tNil)))) σ H (.bl true) := fun H1 e Q q =>
  hu H1 e _ fun p H2 np e2 hp => hb H2 (e.trans e2) _ fun H3 e3 => ha H3 ((e.trans e2).trans e3) _ fun H4 e4 => by
    have eA := ((e.trans e2).trans e3).trans e4
    exact ⟨rfl, rfl, x, y, .ref p, rs, qs, ms, n, rfl, hx.ex eA, hy.ex eA, ho, pm, ⟨p, zs, rfl, .inr ((e3.trans e4) _ _ hp), hm.ex eA⟩, om, l300, hM, hL, fun H5 e5 => q H5 ((e2.trans (e3.trans e4)).trans e5)⟩
theorem ep_applyU {rs l : List Row} {zs : List V} {ms : List Move} {n : Nat} {E : XK} (ha : Ev ta σ H x) (hu : EvU tc σ H zs) (hx : Rws H x rs) (ho : OkRows n rs) (hm : MvAll H zs ms) (om : ∀ m ∈ ms, OkMv n m) (l300 : ms.length ≤ 300) (hL : led rs ms = some l) :
    EvP (tCall sp_apply_moves [] E (tCons ta (tCons tc tNil))) σ H (fun v H2 => LRw H2 v l) := fun H1 e Q q =>
  ha H1 e _ fun H2 e2 => hu H2 (e.trans e2) _ fun p H3 np e3 hp => by
    have eA := (e.trans e2).trans e3
    exact ⟨x, .ref p, rs, l, ms, n, rfl, hx.ex eA, ho, ⟨p, zs, rfl, .inr hp, hm.ex eA⟩, om, l300, hL, fun v H4 e4 h4 => q v H4 ((e2.trans e3).trans e4) h4⟩
theorem spp_apply {rs l : List Row} {ms : List Move} {n : Nat} (hx : Rws H x rs) (ho : OkRows n rs) (hm : MvS H y ms) (om : ∀ m ∈ ms, OkMv n m) (l300 : ms.length ≤ 300) (hL : led rs ms = some l) : SpP sp_apply_moves [x, y] H (fun v H2 => LRw H2 v l) := fun H1 e Q q _ =>
  ⟨x, y, rs, l, ms, n, rfl, hx.ex e, ho, hm.ex e, om, l300, hL, q⟩
end
section
variable {P : Program} {w : World} {K : PySem.W.Frag} {mg : Str → Option Value} {base : Heap} {a : Nat → Addr} {d : Nat → FuncData} {tk : Nat → Tok}
def sp__law_tuples_right : Sp := fun vs H Q _ => ∃ (x y : V) (rs qs : List Row) (n most : Nat), vs = [x, y, .int (most : Nat)] ∧ LRw H x rs ∧ LRw H y qs ∧ OkRows n rs ∧ qs.Perm rs ∧ Most rs qs most ∧ most ≤ 60 ∧ RetV (.bl true) H Q
theorem ok__law_tuples_right (T : All K mg a d tk) : FnOk P w K mg base CX0 12 (a 35) (d 35) ["first", "second", "most"] sp__law_tuples_right := by
  refine T.F__law_tuples_right.fn.ok sc__law_tuples_right (fun vs H Q E h => ?_) (fun cdv A outer s H vs Q E hr h => ?_)
  · obtain ⟨x, y, rs, qs, n, most, rfl, _⟩ := h
    rfl
  · obtain ⟨x, y, rs, qs, n, most, rfl, hx, hy, ho, pm, hM, h60, k⟩ := h
    have nd := sc__law_tuples_right.nd
    have hu64 := hr.units
    refine ⟨_, (pss_cons (ps_set (i := 3) nd rfl (Or.inl rfl) (pe_lst (pa_cons (pe_callTy call_tuple_of rfl T.n_tuple PyProof.Rows.boot_tuple (pa_cons (pv 0) pa_nil)) (pa_cons (pe_callTy call_tuple_of rfl T.n_tuple PyProof.Rows.boot_tuple (pa_cons (pv 1) pa_nil)) pa_nil))))
 (pss_cons (ps_set (i := 4) nd rfl (Or.inl rfl) (pe_call (ok_plan_moves T) (hr.mono (by decide)) rfl T.F_plan_moves.m T.F_plan_moves.kp T.F_plan_moves.b .nil pass0 (pa_cons (pe_ix ix_list (pv 3) pe_int (fun _ _ => rfl)) (pa_cons (pe_ix ix_list (pv 3) pe_int (fun _ _ => rfl)) pa_nil))))
 (pss_cons (ps_if (PW.pt (pw_or (pt_not (pt_val (pe_callB call_isi (by rfl) T.n_isinstance PyProof.Rows.boot_isinstance (pa_cons (pv 4) (pa_cons (pe_bltn (v := .ty "list") rfl T.n_list PyProof.Rows.boot_list rfl) pa_nil))))) (pw_or (pt_cmpR op_ne (pe_callB call_len_seq (by rfl) T.n_len PySem.boot_len (pa_cons (pv 4) pa_nil)) (pv 2) (nomark _)) (pw_or1 (pt_cmpR (op_neD hu64) (pe_call (ok__law_led T) (hr.mono (by decide)) rfl T.F__law_led.m T.F__law_led.kp T.F__law_led.b .nil pass0 (pa_cons (pe_callTy call_list_of rfl T.n_list PyProof.Rows.boot_list (pa_cons (pv 0) pa_nil)) (pa_cons (pv 4) pa_nil))) (pv 1) (nomark _))))))
 (pss_one (ps_ret pe_bl))
 pss_nil)
 (pss_cons (ps_set (i := 5) nd rfl (Or.inl rfl) (pe_lst (pa_cons (pe_call (ok_fewest_moves T) (hr.mono (by decide)) rfl T.F_fewest_moves.m T.F_fewest_moves.kp T.F_fewest_moves.b .nil pass0 (pa_cons (pe_ix ix_list (pv 3) pe_int (fun _ _ => rfl)) (pa_cons (pe_ix ix_list (pv 3) pe_int (fun _ _ => rfl)) pa_nil))) (pa_cons (pe_callB call_len_seq (by rfl) T.n_len PySem.boot_len (pa_cons (pe_callK0 (ok_plan_moves T) (hr.mono (by decide)) rfl T.F_plan_moves.m T.F_plan_moves.kp T.K_plan_moves pass0 (pk_cons (pe_ix ix_list (pv 3) pe_int (fun _ _ => rfl)) (pk_cons (pv 0) pk_nil))) pa_nil)) pa_nil))))
 (pss_cons (ps_if (PW.pt (pw_or (pt_cmpR (op_neD hu64) (pv 5) (pe_lst (pa_cons (pv 2) (pa_cons (pv 2) pa_nil))) (nomark _)) (pw_or1 (pt_cmpR op_isnot_bl (pe_callK0 (ok_check_moves T) (hr.mono (by decide)) rfl T.F_check_moves.m T.F_check_moves.kp T.K_check_moves pass0 (pk_cons (pe_callTy call_tuple_of rfl T.n_tuple PyProof.Rows.boot_tuple (pa_cons (pv 4) pa_nil)) (pk_cons (pe_ix ix_list (pv 3) pe_int (fun _ _ => rfl)) (pk_cons (pe_ix ix_list (pv 3) pe_int (fun _ _ => rfl)) pk_nil)))) pe_bl (nomark _)))))
 (pss_one (ps_ret pe_bl))
 pss_nil)
 (pss_cons (ps_set (i := 6) nd rfl (Or.inl rfl) (pe_call (ok_apply_moves T) (hr.mono (by decide)) rfl T.F_apply_moves.m T.F_apply_moves.kp T.F_apply_moves.b .nil pass0 (pa_cons (pe_ix ix_list (pv 3) pe_int (fun _ _ => rfl)) (pa_cons (pe_callTy call_tuple_of rfl T.n_tuple PyProof.Rows.boot_tuple (pa_cons (pv 4) pa_nil)) pa_nil))))
 (pss_one (ps_ret (pe_and (pe_callB call_isi (by rfl) T.n_isinstance PyProof.Rows.boot_isinstance (pa_cons (pv 6) (pa_cons (pe_bltn (v := .ty "list") rfl T.n_list PyProof.Rows.boot_list rfl) pa_nil))) (pe_one (pe_cmpR (op_eqD hu64) (pv 6) (pv 1) (nomark _)))))))))))), ?_⟩
    obtain ⟨xb, xs, rfl, hxb, hxp⟩ := id hx
    obtain ⟨yb, ys, rfl, hyb, hyp⟩ := id hy
    refine q_lst2U (xs := xs) (ys := ys) (eu_tupOf (K := K) (ev_var rfl) hxb) (eu_tupOf (K := K) (ev_var rfl) hyb) fun p q l H1 e1 hp hq nl hl => ?_
    have hx1 : Rws H1 (.ref p) rs := ⟨p, xs, rfl, .inr hp, Paired.imp (fun _ _ h => h.ex e1) hxp⟩
    have hy1 : Rws H1 (.ref q) qs := ⟨q, ys, rfl, .inr hq, Paired.imp (fun _ _ h => h.ex e1) hyp⟩
    have c0 : ∀ {H' : Hp} {w4 w5 w6 : Option V}, Ex H1 H' → Ev (tOp (rIxL K) (tVar 3) (tC (.int 0))) [some (.ref xb), some (.ref yb), some (.int (most : Nat)), some (.ref l), w4, w5, w6] H' (.ref p) := fun e => ev_ixL (i := 0) (ev_var rfl) ev_c (sq_of (e _ _ hl)) rfl
    have c1 : ∀ {H' : Hp} {w4 w5 w6 : Option V}, Ex H1 H' → Ev (tOp (rIxL K) (tVar 3) (tC (.int 1))) [some (.ref xb), some (.ref yb), some (.int (most : Nat)), some (.ref l), w4, w5, w6] H' (.ref q) := fun e => ev_ixL (i := 1) (ev_var rfl) ev_c (sq_of (e _ _ hl)) rfl
    refine q_asgP (ep_call (ea_cons (c0 (Ex.refl _)) (ea_cons (c1 (Ex.refl _)) ea_nil)) (spp_plan hx1 hy1 ho pm hM)) fun v H2 e2 ⟨pp, zs, ms, ev, h2, hm2, om, hL, lm, _⟩ => ?_
    subst ev
    have e02 := e1.trans e2
    have lz : zs.length = ms.length := Paired.length hm2
    have t3 : EvT (tTest (tOp (rNeD K) (tCall sp__law_led [] E0 (tCons (tCB (rListS K) (tCons (tVar 0) tNil)) (tCons (tVar 4) tNil))) (tVar 1))) [some (.ref xb), some (.ref yb), some (.int (most : Nat)), some (.ref l), some (.ref pp), none, none] H2 false := by
      refine et_test (ev_opP (P := fun v H2 => LRw H2 v qs) (R := fun v _ => v = .ref yb) ((ep_led (K := K) (ev_var rfl) (LRw.ex hx e02) (ev_var rfl) h2 hm2 ho.nd ho.few).imp fun v H3 h => by rw [hL] at h; exact h) (fun h e => LRw.ex h e) (Ev.p (ev_var rfl)) fun x' y' H3 e3 h1 h2 => ?_)
      subst h2
      have z := rv_neRl (K := K) h1 (LRw.ex hy (e02.trans e3))
      rwa [decide_eq_true rfl] at z
    refine q_when (b := false) (et_is (et_or (et_not (et_B (ev_isi (ev_var rfl) (ty_lst h2) (kT (b := true) (by decide +kernel))))) fun _ => et_or (et_test (ev_op (ev_lenS (ev_var rfl) (.inl h2)) (ev_var rfl) (rv_ne rfl))) fun _ => t3) ?_) (fun h => nomatch h) fun _ H3 e3 => ?_
    · rw [lz, lm, decide_eq_true rfl] <;> rfl
    have e13 := e2.trans e3
    have e03 := e1.trans e13
    have oq := ho.perm pm
    refine q_asgL (xs := [.int (most : Nat), .int (most : Nat)]) (el_lst (ea_cons (ev_call (ea_cons (c0 e13) (ea_cons (c1 e13) ea_nil)) (spv_fewest (hx1.ex e13) (hy1.ex e13) ho pm hM)) (ea_cons (ev_lenP ((ep_callN (ea_cons (c1 e13) (ea_cons (ev_var rfl) ea_nil)) (spp_plan (LRw.rws (LRw.ex hx e03)) (hy1.ex e13) ho pm hM) rfl).imp fun v H4 ⟨p4, zs4, ms4, ev, h4, hm4, _, _, lm4, _⟩ => ⟨p4, zs4, ev, .inl h4, by rw [Paired.length hm4, lm4]⟩)) ea_nil)) (show 2 ≤ 100000 by decide)) fun fb H4 nfb e4 hfb => ?_
    have e14 := e13.trans e4
    have e04 := e03.trans e4
    have hm4 := hm2.ex (e3.trans e4)
    have tu : EvU (tCB (rTupOf K) (tCons (tVar 4) tNil)) [some (.ref xb), some (.ref yb), some (.int (most : Nat)), some (.ref l), some (.ref pp), some (.ref fb), none] H4 zs := eu_tupOf (ev_var rfl) ((e3.trans e4) _ _ h2)
    have ne2 := ev_neInts (K := K) (ns := [(most : Int), (most : Int)]) (ta := tVar 5) (tb := tLst (tCons (tVar 2) (tCons (tVar 2) tNil))) (σ := [some (.ref xb), some (.ref yb), some (.int (most : Nat)), some (.ref l), some (.ref pp), some (.ref fb), none]) (ev_var rfl) hfb (el_lst (ea_cons (ev_var rfl) (ea_cons (ev_var rfl) ea_nil)) (show 2 ≤ 100000 by decide))
    refine q_when (b := false) (et_is (et_or (et_test ne2) fun _ => et_test (ev_op (ev_check3N tu (c1 e14) (c0 e14) (hx1.ex e14) (hy1.ex e14) ho pm hm4 om (by omega) (hM.len lm) hL) ev_c rv_isnot)) rfl) (fun h => nomatch h) fun _ H5 e5 => ?_
    refine q_asgP (ep_applyU (c0 (e14.trans e5)) (eu_tupOf (ev_var rfl) ((e3.trans (e4.trans e5)) _ _ h2)) (hx1.ex (e14.trans e5)) ho (hm4.ex e5) om (by omega) hL) fun v H6 e6 hv => ?_
    obtain ⟨vb, vs1, rfl, hvb, hvp⟩ := id hv
    have e06 := (e04.trans e5).trans e6
    refine s_ret (ev_is (ev_andV (ev_isi (ev_var rfl) (ty_lst hvb) (kT (b := true) (by decide +kernel))) fun _ => ev_op (ev_var rfl) (ev_var rfl) (rv_eqRl hv (LRw.ex hy e06))) ?_) fun H7 e7 => k H7 (e06.trans e7)
    rw [decide_eq_true rfl] <;> rfl
end
end Mv
/-! _law_right. -/
namespace Mv
open PySem PySem.Spec PyProof.Rows L2 Evl
theorem Most.of {rs qs : List Row} {most M : Nat} {lev : Row → Nat} {ahd : Row → Option Row} (L : LevOn [rs, qs] rs lev ahd) (hM : IsCount rs lev M) (h : most + M = rs.length) : Most rs qs most := fun lev' ahd' M' L' hM' => by
  have : M = M' := count_unique L L' List.mem_cons_self hM hM'
  omega
theorem Most.symm {rs qs : List Row} {most M : Nat} {lev : Row → Nat} {ahd : Row → Option Row} (L : LevOn [rs, qs] rs lev ahd) (hM : IsCount rs lev M) (h : most + M = rs.length) (pm : qs.Perm rs) : Most qs rs most := fun lev' ahd' M' L' hM' => by
  obtain ⟨c, c1, c2, c3, c4⟩ := chain_most L hM
  obtain ⟨d, d1, d2, d3, d4⟩ := chain_most L' hM'
  have a := chain_len L' hM' c2 c1 fun r hr => pm.mem_iff.mpr (c3 r hr)
  have b := chain_len L hM d2 d1 fun r hr => pm.mem_iff.mp (d3 r hr)
  have := pm.length_eq
  omega
section
variable {K : PySem.W.Frag} {σ : L2.St} {H : Hp} {ta tb tc te : TE} {x y z v : V} {P : Program} {w : World} {R : V → Hp → Prop}
theorem ev_lenSetP {rs : List Row} (ha : EvP ta σ H (fun x H2 => Rws H2 x rs)) (nd : rs.Nodup) (h60 : rs.length ≤ 60) : Ev (tCB (rLenSetT P w) (tCons (tCB (rSetS K P w) (tCons ta tNil)) tNil)) σ H (.int (rs.length : Int)) := fun H1 e Q q =>
  ha H1 e _ fun v H2 e2 hv => (ev_lenSet (K := K) (P := P) (w := w) (σ := σ) (ta := tC v) ev_c hv nd h60) H2 (Ex.refl _) Q fun H3 e3 => q H3 (e2.trans e3)
theorem ev_reprI {i : Int} (ha : Ev ta σ H (.int i)) (hi : i.natAbs.log2 < 1920) : Ev (tCB (fun xs H Q => ∃ i, xs = [V.int i] ∧ i.natAbs.log2 < 1920 ∧ Q (.str (toString i)) H) (tCons ta tNil)) σ H (.str (toString i)) := fun H1 e Q q => ha H1 e _ fun H2 e2 => ⟨i, rfl, hi, q H2 e2⟩
theorem log2_small {n : Nat} (h : n ≤ 100000) : ((n : Nat) : Int).natAbs.log2 < 1920 := by
  rw [Int.natAbs_natCast]
  rcases Nat.eq_zero_or_pos n with z | z
  · subst z; decide
  · refine Nat.lt_of_lt_of_le ((Nat.log2_lt (by omega)).mpr (show n < 2 ^ 20 by omega)) (by decide)
theorem sps_check {xs ys zs : V} {rs qs : List Row} {ms : List Move} {n : Nat} (hx : Rws H xs rs) (hy : Rws H ys qs) (ho : OkRows n rs) (pm : qs.Perm rs) (hz : MvS H zs ms) (om : ∀ m ∈ ms, OkMv n m) (l300 : ms.length ≤ 300)
    (hM : ∀ lev ahd M, LevOn [rs, qs] rs lev ahd → IsCount rs lev M → (ms.length : Int) = (rs.length : Int) - (M : Int)) (hL : led rs ms = some qs) {Q : VK} {E : XK} (k : RetV (.bl true) H Q) : sp_check_moves [xs, ys, zs] H Q E := ⟨xs, ys, zs, rs, qs, ms, n, rfl, hx, hy, ho, pm, hz, om, l300, hM, hL, k⟩
theorem mv_rows : ∀ {zs : List V} {ms : List Move}, MvAll H zs ms → ∃ outs : List V, Paired (IsRow H) outs (ms.map (·.1)) ∧ ∀ (i : Nat) (z v : V), zs[i]? = some z → outs[i]? = some v → ∃ a vo, z = .ref a ∧ H a = some (.tup [v, vo])
  | _, _, .nil => ⟨[], .nil, fun i z v h => by simp at h⟩
  | _, _, .cons ⟨a, vr, vo, e, h, hr, _⟩ t => by
    obtain ⟨outs, h1, h2⟩ := mv_rows t
    refine ⟨vr :: outs, .cons hr h1, fun i z v hz hv => ?_⟩
    cases i with
    | zero => cases hz; cases hv; exact ⟨a, vo, e, h⟩
    | succ i => exact h2 i z v hz hv
/-- [move[0] for move in steps] -/
theorem ep_moved {p : Addr} {zs : List V} {ms : List Move} {j : Nat} {vs : List Nat} (h : Ev ta σ H (.ref p)) (hp : H p = some (.lst zs)) (hm : MvAll H zs ms) (hl : ms.length ≤ 300) (hw : ∀ x, wipe ((wipe σ vs).set j (some x)) vs = wipe σ vs) (hj : ∀ x, ((wipe σ vs).set j (some x))[j]? = some (some x)) :
    EvP (tLc (iList K ta) (gName j) tYes (tOp (rIx K) (tVar j) (tC (.int 0))) vs) σ H (fun x H2 => Rws H2 x (ms.map (·.1))) := fun H0 e Q k => by
  obtain ⟨outs, h1, h2⟩ := mv_rows hm
  have lz : zs.length = ms.length := Paired.length hm
  have lo : outs.length = ms.length := by rw [Paired.length h1, List.length_map]
  exact el_lcR (K := K) (out := outs) h (sq_of hp) (by omega) (by omega) hw (fun i x y H1 e1 hx hy => by
    obtain ⟨a, vo, ex, ha⟩ := h2 i x y hx hy
    subst ex
    exact ev_ixS (i := 0) (ev_var (hj _)) ev_c (.inr (e1 _ _ ha)) rfl) H0 e Q fun p H2 np e2 hp2 => k _ H2 e2 ⟨p, outs, rfl, .inl hp2, Paired.imp (fun _ _ h => h.ex (e.trans e2)) h1⟩
/-- check_moves(first, second, tuple(steps)) -/
theorem ev_check3U {rs qs : List Row} {zs : List V} {ms : List Move} {n : Nat} {E : XK} (ha : Ev ta σ H x) (hb : Ev tb σ H y) (hu : EvU tc σ H zs) (hx : Rws H x rs) (hy : Rws H y qs) (ho : OkRows n rs) (pm : qs.Perm rs) (hm : MvAll H zs ms) (om : ∀ m ∈ ms, OkMv n m) (l300 : ms.length ≤ 300)
    (hM : ∀ lev ahd M, LevOn [rs, qs] rs lev ahd → IsCount rs lev M → (ms.length : Int) = (rs.length : Int) - (M : Int)) (hL : led rs ms = some qs) :
    Ev (tCall sp_check_moves [] E (tCons ta (tCons tb (tCons tc tNil)))) σ H (.bl true) := fun H1 e Q q =>
  ha H1 e _ fun H2 e2 => hb H2 (e.trans e2) _ fun H3 e3 => hu H3 ((e.trans e2).trans e3) _ fun p H4 np e4 hp => by
    have eA := ((e.trans e2).trans e3).trans e4
    exact ⟨x, y, .ref p, rs, qs, ms, n, rfl, hx.ex eA, hy.ex eA, ho, pm, ⟨p, zs, rfl, .inr hp, hm.ex eA⟩, om, l300, hM, hL, fun H5 e5 => q H5 ((e2.trans (e3.trans e4)).trans e5)⟩
end
section
variable {P : Program} {w : World} {K : PySem.W.Frag} {mg : Str → Option Value} {base : Heap} {a : Nat → Addr} {d : Nat → FuncData} {tk : Nat → Tok}
def sp_right46 : Sp := fun vs H Q _ => ∃ (p : Addr) (x y : V) (rs qs : List Row) (n m : Nat), vs = [.ref p, x, y] ∧ LRw H x rs ∧ LRw H y qs ∧ OkRows n rs ∧ qs.Perm rs ∧ BoxAt H p m ∧ m ≤ 80000 ∧ ∀ H2, ExB p H H2 → BoxAt H2 p (m + 100) → Q (.bl true) H2
theorem ok__law_right (T : All K mg a d tk) : FnOk P w K mg base CX0 13 (a 36) (d 36) ["box", "first", "second"] sp_right46 := by
  refine T.F__law_right.fn.ok sc__law_right (fun vs H Q E h => ?_) (fun cdv A outer s H vs Q E hr h => ?_)
  · obtain ⟨p, x, y, rs, qs, n, m, rfl, _⟩ := h
    rfl
  · obtain ⟨p, x, y, rs, qs, n, bn, rfl, hx, hy, ho, pm, hB, hbn, k⟩ := h
    have nd := sc__law_right.nd
    have hu64 := hr.units
    have h60 := ho.few
    refine ⟨_, (pss_cons (ps_set (i := 3) nd rfl (Or.inl rfl) (pe_op op_sub (pe_callB call_len_seq (by rfl) T.n_len PySem.boot_len (pa_cons (pv 1) pa_nil)) (pe_call (ok__law_longest T) (hr.mono (by decide)) rfl T.F__law_longest.m T.F__law_longest.kp T.F__law_longest.b .nil pass0 (pa_cons (pv 1) (pa_cons (pv 2) pa_nil)))))
 (pss_cons (ps_if (pt_not (pt_val (pe_call (ok__law_tuples_right T) (hr.mono (by decide)) rfl T.F__law_tuples_right.m T.F__law_tuples_right.kp T.F__law_tuples_right.b .nil pass0 (pa_cons (pv 1) (pa_cons (pv 2) (pa_cons (pv 3) pa_nil))))))
 (pss_one (ps_ret pe_bl))
 pss_nil)
 (pss_cons (ps_if (pt_cmpR op_isnot_bl (pe_call (ok_check_moves T) (hr.mono (by decide)) rfl T.F_check_moves.m T.F_check_moves.kp T.F_check_moves.b .nil pass0 (pa_cons (pv 1) (pa_cons (pv 2) (pa_cons (pe_call (ok__law_own_moves T) (hr.mono (by decide)) rfl T.F__law_own_moves.m T.F__law_own_moves.kp T.F__law_own_moves.b .nil pass0 (pa_cons (pv 0) (pa_cons (pv 1) (pa_cons (pv 2) pa_nil)))) pa_nil)))) pe_bl (nomark _))
 (pss_one (ps_ret pe_bl))
 pss_nil)
 (pss_cons (ps_for PassesOwn.never rfl (pi_range1 rfl T.n_range (pa_cons pe_int pa_nil)) (pg_name (i := 4) nd rfl (Or.inl rfl))
 (pss_cons (ps_set (i := 5) nd rfl (Or.inl rfl) (pe_call (ok_plan_moves T) (hr.mono (by decide)) rfl T.F_plan_moves.m T.F_plan_moves.kp T.F_plan_moves.b .nil pass0 (pa_cons (pv 1) (pa_cons (pv 2) pa_nil))))
 (pss_cons (ps_if (PW.pt (pw_or (pt_not (pt_val (pe_callB call_isi (by rfl) T.n_isinstance PyProof.Rows.boot_isinstance (pa_cons (pv 5) (pa_cons (pe_bltn (v := .ty "list") rfl T.n_list PyProof.Rows.boot_list rfl) pa_nil))))) (pw_or (pt_cmpR op_ne (pe_callB call_len_seq (by rfl) T.n_len PySem.boot_len (pa_cons (pv 5) pa_nil)) (pv 3) (nomark _)) (pw_or1 (pt_cmpR op_ne (pe_callB call_lenSetT (by rfl) T.n_len PySem.boot_len (pa_cons (pe_callTy (cr_setS rfl hu64) rfl T.n_set PyProof.Rows.boot_set (pa_cons (pe_lc (own := [("move", 6)]) (g := (gName 6)) rfl nd (pi_list (pv 5)) (blkOk_by (N := N__law_right) (sc := defScope s__law_right) (by decide +kernel)) (fun _ _ _ _ _ => (pg_name (i := 6) nd rfl (Or.inl rfl))) (fun _ _ _ _ _ => pts_nil) (fun _ _ _ _ _ => (pe_ix (show IxR _ (rIx K) from ix_seq) (pv 6) pe_int (fun _ _ => rfl)))) pa_nil)) pa_nil)) (pv 3) (nomark _))))))
 (pss_one (ps_ret pe_bl))
 pss_nil)
 (pss_cons (ps_if (PW.pt (pw_or (pt_cmpR (op_neD hu64) (pe_call (ok__law_led T) (hr.mono (by decide)) rfl T.F__law_led.m T.F__law_led.kp T.F__law_led.b .nil pass0 (pa_cons (pe_callTy call_list_of rfl T.n_list PyProof.Rows.boot_list (pa_cons (pv 1) pa_nil)) (pa_cons (pv 5) pa_nil))) (pv 2) (nomark _)) (pw_or1 (pt_cmpR (op_neD hu64) (pe_call (ok_apply_moves T) (hr.mono (by decide)) rfl T.F_apply_moves.m T.F_apply_moves.kp T.F_apply_moves.b .nil pass0 (pa_cons (pv 1) (pa_cons (pv 5) pa_nil))) (pv 2) (nomark _)))))
 (pss_one (ps_ret pe_bl))
 pss_nil)
 (pss_cons (ps_if (PW.pt (pw_or (pt_cmpR op_isnot_bl (pe_call (ok_check_moves T) (hr.mono (by decide)) rfl T.F_check_moves.m T.F_check_moves.kp T.F_check_moves.b .nil pass0 (pa_cons (pv 1) (pa_cons (pv 2) (pa_cons (pv 5) pa_nil)))) pe_bl (nomark _)) (pw_or1 (pt_cmpR op_isnot_bl (pe_call (ok_check_moves T) (hr.mono (by decide)) rfl T.F_check_moves.m T.F_check_moves.kp T.F_check_moves.b .nil pass0 (pa_cons (pv 1) (pa_cons (pv 2) (pa_cons (pe_callTy call_tuple_of rfl T.n_tuple PyProof.Rows.boot_tuple (pa_cons (pv 5) pa_nil)) pa_nil)))) pe_bl (nomark _)))))
 (pss_one (ps_ret pe_bl))
 pss_nil)
 (pss_one (ps_expr (pe_bm PySem.F.plainAttrs_list PySem.F.slot_list_append PySem.F.type_list_append mt_append (pv 5) (pa_cons pe_str pa_nil)))))))))
 (pss_cons (ps_if (pt_cmpR op_ne (pe_callB SkE.call_repr_int (by rfl) T.n_repr PyProof.Rows.boot_repr (pa_cons (pe_callK0 (ok_fewest_moves T) (hr.mono (by decide)) rfl T.F_fewest_moves.m T.F_fewest_moves.kp T.K_fewest_moves pass0 (pk_cons (pv 1) (pk_cons (pv 2) pk_nil))) pa_nil)) (pe_callB SkE.call_repr_int (by rfl) T.n_repr PyProof.Rows.boot_repr (pa_cons (pv 3) pa_nil)) (nomark _))
 (pss_one (ps_ret pe_bl))
 pss_nil)
 (pss_one (ps_ret (pe_or (pe_cmpR op_gt (pe_callB call_len_seq (by rfl) T.n_len PySem.boot_len (pa_cons (pv 1) pa_nil)) pe_int (nomark _)) (pe_or (pe_cmpR op_eq (pv 3) pe_int (nomark _)) (pe_one (pe_not (pe_call (ok__law_within T) (hr.mono (by decide)) rfl T.F__law_within.m T.F__law_within.kp T.F__law_within.b .nil pass0 (pa_cons (pv 1) (pa_cons (pv 2) (pa_cons (pe_op op_sub (pv 3) pe_int) pa_nil))))))))))))))), ?_⟩
    obtain ⟨xb, xs, rfl, hxb, hxp⟩ := id hx
    obtain ⟨yb, ys, rfl, hyb, hyp⟩ := id hy
    have lenx : xs.length = rs.length := Paired.length hxp
    have c1 : Ev (tCB (rLenS K) (tCons (tVar 1) tNil)) [some (.ref p), some (.ref xb), some (.ref yb), none, none, none, none] H (.int (xs.length : Int)) := ev_lenS (ev_var rfl) (.inl hxb)
    have c2 : EvP (tCall sp__law_longest [] E0 (tCons (tVar 1) (tCons (tVar 2) tNil))) [some (.ref p), some (.ref xb), some (.ref yb), none, none, none, none] H (fun v _ => ∃ j : Int, v = .int j ∧ ∃ lev ahd M, j = (M : Nat) ∧ LevOn [rs, qs] rs lev ahd ∧ IsCount rs lev M) :=
      ep_call (ea_cons (ev_var rfl) (ea_cons (ev_var rfl) ea_nil)) fun H1 e Q q _ => ⟨_, _, rs, qs, n, rfl, LRw.ex hx e, LRw.ex hy e, ho, pm, fun lev ahd M H2 h1 h2 e2 => q _ H2 e2 ⟨_, rfl, lev, ahd, M, rfl, h1, h2⟩⟩
    refine q_asgP (ep_I0 (f := fun i j => .int (i - j)) c1 c2) fun v H1 e1 ⟨j, ev, lev, ahd, M, ej, L, hM⟩ => ?_
    subst ev
    subst ej
    have cf := count_few L List.mem_cons_self hM
    obtain ⟨most, hmost⟩ : ∃ most, most + M = rs.length := ⟨rs.length - M, by omega⟩
    have eI : ((xs.length : Int) - (M : Nat)) = (most : Nat) := by omega
    rw [eI]
    have hMst : Most rs qs most := .of L hM hmost
    have hMs2 : Most qs rs most := .symm L hM hmost pm
    refine q_when (b := false) (et_is (et_not (et_B (ev_call (ea_cons (ev_var rfl) (ea_cons (ev_var rfl) (ea_cons (ev_var rfl) ea_nil))) (z := .bl true) fun H2 e2 Q q _ => ⟨_, _, rs, qs, n, most, rfl, LRw.ex hx (e1.trans e2), LRw.ex hy (e1.trans e2), ho, pm, hMst, by omega, q⟩))) rfl) (fun h => nomatch h) fun _ H2 e2 => ?_
    have e02 := e1.trans e2
    refine ⟨_, rfl, _, rfl, _, rfl, _, rfl, _, rfl, p, _, _, rs, qs, n, bn, rfl, LRw.ex hx e02, LRw.ex hy e02, ho, pm, hB.ex e02, hbn, fun v3 H3 eB3 hB3 ⟨zb, zs, ms, ev, hz, hzm, om, hL, lm, hlm⟩ => ?_⟩
    subst ev
    have eBA : ExB p H H3 := (Ex.b e02).trans eB3
    have hx3 : LRw H3 (.ref xb) rs := LRw.exB hx hB eBA
    have hy3 : LRw H3 (.ref yb) qs := LRw.exB hy hB eBA
    refine sps_check (E := E0) hx3.rws hy3.rws ho pm ⟨zb, zs, rfl, .inl hz, hzm⟩ om (by omega) (fun lev ahd M L hM => by have := hlm lev ahd M L hM; omega) hL fun H4 e4 => ⟨true, true, rfl, rfl, _, rfl, iteF ?_⟩
    have e34 := e4
    have hx4 := LRw.ex hx3 e4
    have hy4 := LRw.ex hy3 e4
    have oq := ho.perm pm
    let Ov : Nat → L2.St → Hp → Prop := fun _ σ' H' => Ex H4 H' ∧ ∃ (w4 w5 w6 : Option V), σ' = [some (.ref p), some (.ref xb), some (.ref yb), some (.int (most : Nat)), w4, w5, w6]
    refine q_forR1 (n := 2) (σ := [some (.ref p), some (.ref xb), some (.ref yb), some (.int (most : Nat)), none, none, none]) (ea_cons ev_c ea_nil) ⟨by decide, by decide⟩ Ov (fun H5 e5 => ⟨e5, none, none, none, rfl⟩) ?_ ?_
    · rintro i σ' H' hi ⟨e', w4, w5, w6, rfl⟩
      have hx' := LRw.ex hx4 e'
      have hy' := LRw.ex hy4 e'
      refine q_asgP (ep_call (ea_cons (ev_var rfl) (ea_cons (ev_var rfl) ea_nil)) (spp_planN hx'.rws hy'.rws ho pm hMst)) fun v H5 e5 ⟨⟨pp, zs5, ms5, ev, h5, hm5, om5, hL5, lm5, nd5⟩, pN, eN, npp⟩ => ?_
      subst ev
      cases eN
      have lz5 : zs5.length = ms5.length := Paired.length hm5
      have t3 := ev_lenSetP (K := K) (P := P) (w := w) (ep_moved (K := K) (ta := tVar 5) (σ := [some (.ref p), some (.ref xb), some (.ref yb), some (.int (most : Nat)), some (.int (i : Nat)), some (.ref pp), w6]) (H := H5) (j := 6) (vs := [6]) (ev_var rfl) h5 hm5 (by omega) (fun _ => rfl) (fun _ => rfl)) nd5 (by rw [List.length_map]; omega)
      refine q_when (b := false) (et_is (et_or (et_not (et_B (ev_isi (ev_var rfl) (ty_lst h5) (kT (b := true) (by decide +kernel))))) fun _ => et_or (et_test (ev_op (ev_lenS (ev_var rfl) (.inl h5)) (ev_var rfl) (rv_ne rfl))) fun _ => et_test (ev_op t3 (ev_var rfl) (rv_ne rfl))) ?_) (fun h => nomatch h) fun _ H6 e6 => ?_
      · rw [lz5, List.length_map, lm5, decide_eq_true rfl] <;> rfl
      have e56 := e5.trans e6
      have hx6 := LRw.ex hx' e56
      have hy6 := LRw.ex hy' e56
      have h6 := e6 _ _ h5
      have hm6 := hm5.ex e6
      have t1 : EvT (tTest (tOp (rNeD K) (tCall sp__law_led [] E0 (tCons (tCB (rListS K) (tCons (tVar 1) tNil)) (tCons (tVar 5) tNil))) (tVar 2))) [some (.ref p), some (.ref xb), some (.ref yb), some (.int (most : Nat)), some (.int (i : Nat)), some (.ref pp), w6] H6 false := by
        refine et_test (ev_opP (P := fun v H2 => LRw H2 v qs) (R := fun v _ => v = .ref yb) ((ep_led (K := K) (ev_var rfl) hx6 (ev_var rfl) h6 hm6 ho.nd ho.few).imp fun v H3 h => by rw [hL5] at h; exact h) (fun h e => LRw.ex h e) (Ev.p (ev_var rfl)) fun x' y' H3 e3 h1 h2 => ?_)
        subst h2
        have z := rv_neRl (K := K) h1 (LRw.ex hy6 e3)
        rwa [decide_eq_true rfl] at z
      have t2 : EvT (tTest (tOp (rNeD K) (tCall sp_apply_moves [] E0 (tCons (tVar 1) (tCons (tVar 5) tNil))) (tVar 2))) [some (.ref p), some (.ref xb), some (.ref yb), some (.int (most : Nat)), some (.int (i : Nat)), some (.ref pp), w6] H6 false := by
        refine et_test (ev_opP (P := fun v H2 => LRw H2 v qs) (R := fun v _ => v = .ref yb) (ep_call (ea_cons (ev_var rfl) (ea_cons (ev_var rfl) ea_nil)) (spp_apply hx6.rws ho ⟨pp, zs5, rfl, .inl h6, hm6⟩ om5 (by omega) hL5)) (fun h e => LRw.ex h e) (Ev.p (ev_var rfl)) fun x' y' H3 e3 h1 h2 => ?_)
        subst h2
        have z := rv_neRl (K := K) h1 (LRw.ex hy6 e3)
        rwa [decide_eq_true rfl] at z
      refine q_when (b := false) (et_is (et_or t1 fun _ => t2) rfl) (fun h => nomatch h) fun _ H7 e7 => ?_
      have e57 := e56.trans e7
      have hx7 := LRw.ex hx' e57
      have hy7 := LRw.ex hy' e57
      have h7 := e7 _ _ h6
      have hm7 := hm6.ex e7
      have hl7 := hMst.len lm5
      refine q_when (b := false) (et_is (et_or (et_test (ev_op (ev_call (ea_cons (ev_var rfl) (ea_cons (ev_var rfl) (ea_cons (ev_var rfl) ea_nil))) (sp3_check hx7.rws hy7.rws ho pm ⟨pp, zs5, rfl, .inl h7, hm7⟩ om5 (by omega) hl7 hL5)) ev_c rv_isnot)) fun _ => et_test (ev_op (ev_check3U (ev_var rfl) (ev_var rfl) (eu_tupOf (ev_var rfl) h7) hx7.rws hy7.rws ho pm hm7 om5 (by omega) hl7 hL5) ev_c rv_isnot)) rfl) (fun h => nomatch h) fun _ H8 e8 => ?_
      refine s_app (K := K) (e8 _ _ h7) (ev_var rfl) ev_c (by omega) fun H9 e9 => ?_
      exact ⟨e'.trans (Ex.mut ((e57.trans e8).trans e9) npp), _, _, _, rfl⟩
    · rintro σ' H' ⟨e', w4, w5, w6, rfl⟩
      have hx' := LRw.ex hx4 e'
      have hy' := LRw.ex hy4 e'
      have lg : ((most : Nat) : Int).natAbs.log2 < 1920 := log2_small (by omega)
      refine q_when (b := false) (et_is (et_test (ev_op (ev_reprI (ev_callN (ea_cons (ev_var rfl) (ea_cons (ev_var rfl) ea_nil)) (spv_fewest hy'.rws hx'.rws oq pm.symm hMs2) rfl) lg) (ev_reprI (ev_var rfl) lg) (rv_ne rfl))) ?_) (fun h => nomatch h) fun _ H6 e6 => ?_
      · rw [decide_eq_true rfl] <;> rfl
      have e46 := e'.trans e6
      have fin : ∀ {H7 : Hp}, Ex H6 H7 → Q (.bl true) H7 := fun {H7} e7 => k H7 (eBA.trans (Ex.b (e34.trans (e46.trans e7)))) (hB3.ex (e34.trans (e46.trans e7)))
      have l1 : Ev (tCB (rLenS K) (tCons (tVar 1) tNil)) [some (.ref p), some (.ref xb), some (.ref yb), some (.int (most : Nat)), w4, w5, w6] H6 (.int (rs.length : Nat)) := by
        rw [← lenx]
        obtain ⟨b1, ys1, eb, hb1, hp1⟩ := LRw.ex hx4 e46
        cases eb
        have : ys1.length = xs.length := by rw [Paired.length hp1, lenx]
        rw [← this]
        exact ev_lenS (ev_var rfl) (.inl hb1)
      by_cases h4 : 4 < rs.length
      · refine s_ret (ev_is (ev_orV (ev_I0 (g := fun i j => .bl (decide (j < i))) l1 ev_c) (b := true) fun h => ?_) ?_) fun H7 e7 => fin e7
        · rw [decide_eq_true (by omega)] at h; cases h
        · rw [decide_eq_true (by omega)] <;> rfl
      · by_cases h0 : most = 0
        · subst h0
          refine s_ret (ev_is (ev_orV (ev_I0 (g := fun i j => .bl (decide (j < i))) l1 ev_c) (b := true) fun _ => ev_is (ev_orV (b := true) (ev_op (ev_var rfl) ev_c (rv_eq rfl)) fun h => ?_) ?_) ?_) fun H7 e7 => fin e7
          · rw [show decide (V.int ((0 : Nat) : Int) = V.int 0) = true from rfl] at h; cases h
          · rw [Bool.or_true]
          · rw [Bool.or_true]
        · have hno : ¬ Rch rs (most - 1) qs := fun ⟨ms', l', hl'⟩ => by
            have := led_least ho.nd pm L hM hl'
            omega
          have eM : (.int ((most : Nat) : Int) : V) = .int (most : Nat) := rfl
          have hw : Ev (tCall sp__law_within [] E0 (tCons (tVar 1) (tCons (tVar 2) (tCons (tOp (rI0 fun i j => .int (i - j)) (tVar 3) (tC (.int 1))) tNil)))) [some (.ref p), some (.ref xb), some (.ref yb), some (.int (most : Nat)), w4, w5, w6] H6 (.bl false) :=
            ev_call (ea_cons (ev_var rfl) (ea_cons (ev_var rfl) (ea_cons (ev_I0 (ev_var rfl) ev_c) ea_nil))) fun H7 e7 Q q _ => ⟨_, _, rs, qs, most - 1, by
              have : ((most : Int) - 1) = ((most - 1 : Nat) : Int) := by omega
              rw [this] <;> rfl, LRw.ex hx4 (e46.trans e7), LRw.ex hy4 (e46.trans e7), ho.nd, by omega, by omega, hno, q⟩
          refine s_ret (ev_is (ev_orV (ev_I0 (g := fun i j => .bl (decide (j < i))) l1 ev_c) (b := true) fun _ => ev_is (ev_orV (b := true) (ev_op (ev_var rfl) ev_c (rv_eq rfl)) fun h => ev_notV (a := false) hw) ?_) ?_) fun H7 e7 => fin e7
          · rw [Bool.or_true]
          · rw [Bool.or_true]
end
end Mv
/-! _law_first. -/
namespace Mv
open PySem PySem.Spec PyProof.Rows L2 Evl
theorem ev_min2 {σ : L2.St} {H : Hp} {ta tb : TE} {i j : Int} (ha : Ev ta σ H (.int i)) (hb : Ev tb σ H (.int j)) : Ev (tCB (fun xs H Q => ∃ i j, xs = [V.int i, .int j] ∧ Q (.int (if j < i then j else i)) H) (tCons ta (tCons tb tNil))) σ H (.int (if j < i then j else i)) := fun H1 e Q q =>
  ha H1 e _ fun H2 e2 => hb H2 (e.trans e2) _ fun H3 e3 => ⟨i, j, rfl, q H3 (e2.trans e3)⟩
theorem ex_ofB {p : Addr} {H H' : Hp} (e : ExB p H H') (n : H p = none) : Ex H H' := fun b o h => e b o (fun z => by rw [z, n] at h; cases h) h
section
variable {P : Program} {w : World} {K : PySem.W.Frag} {mg : Str → Option Value} {base : Heap} {a : Nat → Addr} {d : Nat → FuncData} {tk : Nat → Tok}
def sp__law_first (K : PySem.W.Frag) : Sp := fun vs H Q _ => ∃ (p : Addr) (ns : List Int), vs = [.ref p] ∧ SqL K H p (ns.map V.int) ∧ ns.length ≤ 63 ∧ RetV (.bl true) H Q
theorem ok__law_first (T : All K mg a d tk) : FnOk P w K mg base CX0 14 (a 37) (d 37) ["script"] (sp__law_first K) := by
  refine T.F__law_first.fn.ok sc__law_first (fun vs H Q E h => ?_) (fun cdv A outer s H vs Q E hr h => ?_)
  · obtain ⟨p, ns, rfl, _⟩ := h
    rfl
  · obtain ⟨sc, ns, rfl, hs, h63, k⟩ := h
    have nd := sc__law_first.nd
    refine ⟨_, (pss_cons (ps_for PassesOwn.never rfl (pi_range1 rfl T.n_range (pa_cons (pe_callB (call_max2 rfl) (by rfl) T.n_max PyProof.Rows.boot_max (pa_cons pe_int (pa_cons (pe_callB (call_min2 rfl) (by rfl) T.n_min PyProof.Rows.boot_min (pa_cons pe_int (pa_cons (pe_callB call_len_seq (by rfl) T.n_len PySem.boot_len (pa_cons (pv 0) pa_nil)) pa_nil))) pa_nil))) pa_nil)) (pg_name (i := 1) nd rfl (Or.inl rfl))
 (pss_cons (ps_set (i := 2) nd rfl (Or.inl rfl) (pe_call (ok__law_box T) (hr.mono (by decide)) rfl T.F__law_box.m T.F__law_box.kp T.F__law_box.b .nil pass0 (pa_cons (pe_call (ok__law_cell T) (hr.mono (by decide)) rfl T.F__law_cell.m T.F__law_cell.kp T.F__law_cell.b .nil pass0 (pa_cons (pv 0) (pa_cons (pv 1) pa_nil))) pa_nil)))
 (pss_cons (ps_set (i := 3) nd rfl (Or.inl rfl) (pe_call (ok__law_rows T) (hr.mono (by decide)) rfl T.F__law_rows.m T.F__law_rows.kp T.F__law_rows.b .nil pass0 (pa_cons (pv 2) (pa_cons (pe_call (ok__law_take T) (hr.mono (by decide)) rfl T.F__law_take.m T.F__law_take.kp T.F__law_take.b .nil pass0 (pa_cons (pv 2) (pa_cons (pe_ix ix_list (pe_lst (pa_cons pe_int (pa_cons pe_int (pa_cons pe_int (pa_cons pe_int pa_nil))))) (pe_call (ok__law_take T) (hr.mono (by decide)) rfl T.F__law_take.m T.F__law_take.kp T.F__law_take.b .nil pass0 (pa_cons (pv 2) (pa_cons pe_int pa_nil))) (fun _ _ => rfl)) pa_nil))) pa_nil))))
 (pss_one (ps_for PassesOwn.never rfl (pi_range1 rfl T.n_range (pa_cons pe_int pa_nil)) (pg_name (i := 4) nd rfl (Or.inl rfl))
 (pss_cons (ps_set (i := 5) nd rfl (Or.inl rfl) (pe_call (ok__law_other T) (hr.mono (by decide)) rfl T.F__law_other.m T.F__law_other.kp T.F__law_other.b .nil pass0 (pa_cons (pv 2) (pa_cons (pv 3) pa_nil))))
 (pss_one (ps_if (PW.pt (pw_or (pt_not (pt_val (pe_call (ok__law_right T) (hr.mono (by decide)) rfl T.F__law_right.m T.F__law_right.kp T.F__law_right.b .nil pass0 (pa_cons (pv 2) (pa_cons (pv 3) (pa_cons (pv 5) pa_nil)))))) (pw_or1 (pt_not (pt_val (pe_call (ok__law_right T) (hr.mono (by decide)) rfl T.F__law_right.m T.F__law_right.kp T.F__law_right.b .nil pass0 (pa_cons (pv 2) (pa_cons (pv 5) (pa_cons (pv 3) pa_nil)))))))))
 (pss_one (ps_ret pe_bl))
 pss_nil))))))))
 (pss_one (ps_ret pe_bl))), ?_⟩
    let Ov : Nat → L2.St → Hp → Prop := fun _ σ' H' => Ex H H' ∧ ∃ v1 v2 v3 v4 v5, σ' = [some (.ref sc), v1, v2, v3, v4, v5]
    have nn : ∀ l : Nat, 0 ≤ (if (if (l : Int) < 5 then (l : Int) else 5) > 2 then (if (l : Int) < 5 then (l : Int) else 5) else (2 : Int)) ∧ (if (if (l : Int) < 5 then (l : Int) else 5) > 2 then (if (l : Int) < 5 then (l : Int) else 5) else (2 : Int)) ≤ 5 := fun l => by
      split <;> split <;> omega
    have n1 := nn (ns.map V.int).length
    refine q_forR1 (ea_cons (ev_max2 ev_c (ev_min2 ev_c (ev_len (ev_var rfl) hs))) ea_nil) ⟨n1.1, by omega⟩ Ov (fun H1 e1 => ⟨e1, _, _, _, _, _, rfl⟩) ?_ fun σ' H' ⟨e', v1, v2, v3, v4, v5, hσ⟩ => ?_
    · rintro i σ' H1 hi ⟨e1, v1, v2, v3, v4, v5, rfl⟩
      have hi5 : i ≤ 100 := by omega
      refine ⟨_, rfl, _, rfl, sc, ns, i, rfl, ex_l e1 hs, hi5, fun c H2 e2 => ⟨c, rfl, fun p H3 np e3 hB => ?_⟩⟩
      have np1 : H1 p = none := fresh_back e2 np
      have e13 := e2.trans e3
      refine ⟨_, rfl, _, rfl, sz_of (show 4 ≤ 100000 by decide), fun tl htl => ?_⟩
      have btl : p ≠ tl := hB.ne htl
      refine ⟨_, rfl, p, 4, 0, rfl, by decide, by decide, hB.upd btl, by decide, fun i0 H4 i0a i0b e4 hB4 => ?_⟩
      have htl4 : H4 tl = some (.lst [V.int 5, .int 13, .int 13, .int 61]) := e4 _ _ (Ne.symm btl) upd_same
      obtain ⟨top, htop, t1, t2⟩ : ∃ top : Int, atI [V.int 5, .int 13, .int 13, .int 61] i0 = some (.int top) ∧ 1 ≤ top ∧ top ≤ 61 := by
        have : i0 = 0 ∨ i0 = 1 ∨ i0 = 2 ∨ i0 = 3 := by omega
        rcases this with z | z | z | z
        · subst z; exact ⟨5, rfl, by decide, by decide⟩
        · subst z; exact ⟨13, rfl, by decide, by decide⟩
        · subst z; exact ⟨13, rfl, by decide, by decide⟩
        · subst z; exact ⟨61, rfl, by decide, by decide⟩
      refine ⟨tl, _, i0, _, rfl, rfl, sq_of htl4, htop, ?_⟩
      refine ⟨p, top, 1, rfl, t1, by omega, hB4, by decide, fun i1 H5 i1a i1b e5 hB5 => ?_⟩
      have eB5 : ExB p H1 H5 := ((Ex.b e13).trans (Ex.b (Ex.new htl))).trans (e4.trans e5)
      obtain ⟨m, rfl, hm60⟩ : ∃ m : Nat, i1 = (m : Int) ∧ m ≤ 60 := ⟨i1.toNat, by omega, by omega⟩
      refine ⟨p, m, 2, rfl, hm60, hB5, by decide, fun vr rs wd H6 hrs hok e6 hB6 => ?_⟩
      have eB6 : ExB p H1 H6 := eB5.trans e6
      let Lv : Nat → L2.St → Hp → Prop := fun j σ' H' => ExB p H1 H' ∧ BoxAt H' p (2000 + 1000 * j) ∧ LRw H' vr rs ∧ ∃ (v4 v5 : Option V), σ' = [some (.ref sc), some (.int (i : Int)), some (.ref p), some vr, v4, v5]
      refine s_forR1 (n := 2) (σ := [some (.ref sc), some (.int (i : Int)), some (.ref p), some vr, v4, v5]) (ea_cons ev_c ea_nil) ⟨by decide, by decide⟩ Lv (fun H7 e7 => ⟨eB6.trans (Ex.b e7), (hB6.ex e7).mono (by omega), LRw.ex hrs e7, _, _, rfl⟩) ?_ ?_
      · rintro j σ' H9 hj ⟨e9, hB9, hr9, w4, w5, rfl⟩
        have hj2 : j < 2 := by have : (2 : Int).toNat = 2 := rfl; omega
        refine ⟨_, rfl, _, rfl, p, vr, rs, _, rfl, hr9, hok.few, hB9, by omega, fun v5 qs H10 hv5 pm e10 hB10 => ?_⟩
        have hr10 := LRw.exB hr9 hB9 e10
        refine ⟨_, rfl, _, rfl, _, rfl, p, _, _, rs, qs, wd, _, rfl, hr10, hv5, hok, pm, hB10, by omega, fun H11 e11 hB11 => ⟨true, rfl, iteF ?_⟩⟩
        have hr11 := LRw.exB hr10 hB10 e11
        have hv11 := LRw.exB hv5 hB10 e11
        refine ⟨_, rfl, _, rfl, _, rfl, p, _, _, qs, rs, wd, _, rfl, hv11, hr11, hok.perm pm, pm.symm, hB11, by omega, fun H12 e12 hB12 => ⟨true, rfl, iteF ?_⟩⟩
        exact ⟨e9.trans (e10.trans (e11.trans e12)), hB12.mono (by omega), LRw.exB hr11 hB11 e12, _, _, rfl⟩
      · rintro σ' H9 ⟨e9, hB9, hr9, w4, w5, rfl⟩
        exact ⟨e1.trans (ex_ofB e9 np1), _, _, _, _, _, rfl⟩
    · subst hσ
      exact s_ret ev_c fun H2 e2 => k H2 (e'.trans e2)
end
end Mv
/-! _law_same_order, _law_is_papers. -/
namespace Mv
open PySem PySem.Spec PyProof.Rows L2 Evl
theorem sorted_id {ns ms : List Int} (hs : ns.Pairwise (· < ·)) (pm : ms.Perm ns) (hr : ms.Pairwise (· ≤ ·)) : ms = ns :=
  List.Perm.eq_of_pairwise (le := fun a b : Int => a ≤ b) (fun a b _ _ h1 h2 => Int.le_antisymm h1 h2) hr (hs.imp fun h => Int.le_of_lt h) pm
section
variable {K : PySem.W.Frag} {σ : L2.St} {H : Hp} {ta tb te : TE} {x y : V}
theorem ev_call2L {sp : Sp} {E : XK} {te1 te2 : TE} {xs : List V} {z : V} (h1 : EvL te1 σ H xs) (h2 : Ev te2 σ H y) (hs : ∀ p H1, Ex H H1 → H1 p = some (.lst xs) → SpV sp [.ref p, y] H1 z) : Ev (tCall sp [] E (tCons te1 (tCons te2 tNil))) σ H z := fun H1 e Q q =>
  h1 H1 e _ fun p H2 np e2 hp => h2 H2 (e.trans e2) _ fun H3 e3 => hs p H3 ((e.trans e2).trans e3) (e3 _ _ hp) H3 (Ex.refl _) Q (fun H4 e4 => q H4 ((e2.trans e3).trans e4)) E
theorem lists_ks {H : Hp} : ∀ {ys : List V} {Ls : List (List Row)}, Paired (LRw H) ys Ls → ∃ ls : List (Addr × List V), ys = ls.map (fun p => V.ref p.1) ∧ (∀ p ∈ ls, H p.1 = some (.lst p.2)) ∧ Paired (IsRow H) (ls.map (·.2)).flatten Ls.flatten
  | _, _, .nil => ⟨[], rfl, fun p h => absurd h (by simp), .nil⟩
  | _, _, .cons ⟨b, zs, e, h, hp⟩ t => by
    obtain ⟨ls, h1, h2, h3⟩ := lists_ks t
    subst e h1
    refine ⟨(b, zs) :: ls, rfl, fun p hp => ?_, by rw [List.map_cons, List.flatten_cons, List.flatten_cons]; exact Paired.append hp h3⟩
    rcases List.mem_cons.mp hp with e | hp
    · rw [e]; exact h
    · exact h2 p hp
theorem ep_sumL {l : Addr} {ys : List V} {Ls : List (List Row)} (ha : Ev ta σ H (.ref l)) (hl : H l = some (.lst ys)) (hp : Paired (LRw H) ys Ls) (hz : Ls.flatten.length ≤ 1000) : EvP (tCB rSumL (tCons ta (tCons (tLst tNil) tNil))) σ H (fun v H2 => Rws H2 v Ls.flatten) := fun H1 e Q q =>
  ha H1 e _ fun H2 e2 => ⟨Nat.zero_le _, fun s hs => by
    have e3 : Ex H2 (upd H2 s (.lst [])) := Ex.new hs
    have eA := e.trans (e2.trans e3)
    obtain ⟨ls, g1, g2, g3⟩ := lists_ks (Paired.imp (fun _ _ h => LRw.ex h eA) hp)
    have len := Paired.length g3
    refine ⟨l, s, ls, [], rfl, by rw [eA _ _ hl, g1], g2, upd_same, ?_, fun hn => ?_, fun p hp => ?_⟩
    · rw [List.length_nil, Nat.zero_add, len]
      exact sz_of (by omega)
    · refine q _ _ (e2.trans e3) ⟨s, [], rfl, .inl upd_same, ?_⟩
      rw [hn] at g3
      exact g3
    · have e4 : Ex (upd H2 s (.lst [])) (upd (upd H2 s (.lst [])) p (.lst ([] ++ (ls.map (·.2)).flatten))) := Ex.new hp
      exact q _ _ ((e2.trans e3).trans e4) ⟨p, _, rfl, .inl upd_same, Paired.imp (fun _ _ h => h.ex e4) g3⟩⟩
end
section
variable {P : Program} {w : World} {K : PySem.W.Frag} {mg : Str → Option Value} {base : Heap} {a : Nat → Addr} {d : Nat → FuncData} {tk : Nat → Tok}
def sp__law_same_order : Sp := fun vs H Q _ => ∃ (x y : V) (cs L : List Row), vs = [x, y] ∧ LRw H x cs ∧ LRw H y L ∧ (∀ r ∈ cs, r ∈ L) ∧ cs.length ≤ 100 ∧ Rise L cs ∧ RetV (.bl true) H Q
theorem ok__law_same_order (T : All K mg a d tk) : FnOk P w K mg base CX0 1 (a 43) (d 43) ["rows", "second"] sp__law_same_order := by
  refine T.F__law_same_order.fn.ok sc__law_same_order (fun vs H Q E h => ?_) (fun cdv A outer s H vs Q E hr h => ?_)
  · obtain ⟨x, y, cs, L, rfl, _⟩ := h
    rfl
  · obtain ⟨x, y, cs, L, rfl, hx, hy, hc, hl, hri, k⟩ := h
    have nd := sc__law_same_order.nd
    have hu64 := hr.units
    have hu65 := hu65_of hr
    refine ⟨_, (pss_cons (ps_setLc (i := 2) (own := [("row", 3)]) (g := (gName 3)) rfl nd rfl rfl (sw_true rfl rfl rfl (by decide +kernel)) (pi_list (pv 0)) (blkOk_by (N := N__law_same_order) (sc := defScope s__law_same_order) (by decide +kernel)) (fun _ _ _ _ _ => (pg_name (i := 3) nd rfl (Or.inl rfl))) (fun _ _ _ _ _ => pts_nil) (fun _ _ _ _ _ => (pe_bmK (K := K) rfl PySem.F.plainAttrs_list PySem.F.slot_list_index PySem.F.type_list_index (show MtR _ "list.index" (rIndexD K) from (mt_indexD hu65)) (pv 1) (pa_cons (pv 3) pa_nil))))
 (pss_one (ps_ret (pe_cmpR (op_eqD hu64) (pv 2) (pe_callB cr_sortedI (by rfl) T.n_sorted PyProof.Rows.boot_sorted (pa_cons (pv 2) pa_nil)) (nomark _))))), ?_⟩
    obtain ⟨xb, xs, rfl, hxb, hxp⟩ := id hx
    obtain ⟨yb, ys, rfl, hyb, hyp⟩ := id hy
    have lx : xs.length = cs.length := Paired.length hxp
    refine q_asgL (el_lcR (K := K) (out := (cs.map fun r => (L.idxOf r : Int)).map V.int) (ev_var rfl) (sq_of hxb) (by omega) (by rw [List.length_map, List.length_map, lx]) (fun _ => rfl) fun i z v H1 e1 hi ho => ?_) fun pl H1 npl e1 hpl => ?_
    · obtain ⟨r, hr, hrow⟩ := Paired.at_l hxp i z hi
      rw [List.getElem?_map, List.getElem?_map, hr] at ho
      cases ho
      exact ev_indexR (ev_var rfl) (e1 _ _ hyb) (Paired.imp (fun _ _ h => h.ex e1) hyp) (ev_var rfl) (hrow.ex e1) (hc r (List.mem_of_getElem? hr))
    · refine ⟨_, rfl, _, rfl, ?_⟩
      refine ⟨pl, (cs.map fun r => (L.idxOf r : Int)), rfl, sq_of hpl, fun ms p pmm hrs hp => ?_⟩
      have es : ms = (cs.map fun r => (L.idxOf r : Int)) := sorted_id (by
        rw [List.pairwise_map]
        exact hri.imp fun h => by omega) pmm hrs
      subst es
      have e2 : Ex H1 (upd H1 p (.lst ((cs.map fun r => (L.idxOf r : Int)).map V.int))) := Ex.new hp
      refine ⟨_, _, .lst (sq_of (e2 _ _ hpl)) (dp_ints _), .lst (sq_of upd_same) (dp_ints _), shaped_ints _, shaped_ints _, ?_⟩
      rw [PyData.eqv, eqv_ints, decide_eq_true rfl]
      exact k _ (e1.trans e2)
theorem spv_same {x y : V} {cs L : List Row} {H : Hp} (hx : LRw H x cs) (hy : LRw H y L) (hc : ∀ r ∈ cs, r ∈ L) (hl : cs.length ≤ 100) (hr : Rise L cs) : SpV sp__law_same_order [x, y] H (.bl true) := fun H1 e Q q _ => ⟨x, y, cs, L, rfl, LRw.ex hx e, LRw.ex hy e, hc, hl, hr, q⟩
def sp__law_is_papers : Sp := fun vs H Q _ => ∃ (x y s : V) (lb : Addr) (ls : List V) (rs qs ds : List Row) (Ls : List (List Row)) (n : Nat), vs = [x, y, s, .ref lb] ∧ LRw H x rs ∧ LRw H y qs ∧ OkRows n rs ∧ qs.Perm rs ∧ LRw H s ds ∧ (∀ r ∈ ds, r ∈ rs) ∧ Rise rs ds ∧ Rise qs ds ∧
  H lb = some (.lst ls) ∧ Paired (LRw H) ls Ls ∧ FallsOk rs qs Ls ∧ Ls.length = ds.length ∧ RetV (.bl true) H Q
theorem ok__law_is_papers (T : All K mg a d tk) : FnOk P w K mg base CX0 2 (a 44) (d 44) ["first", "second", "staying", "lists"] sp__law_is_papers := by
  refine T.F__law_is_papers.fn.ok sc__law_is_papers (fun vs H Q E h => ?_) (fun cdv A outer s H vs Q E hr h => ?_)
  · obtain ⟨x, y, s, lb, ls, rs, qs, ds, Ls, n, rfl, _⟩ := h
    rfl
  · obtain ⟨x, y, s, lb, ls, rs, qs, ds, Ls, dd, rfl, hx, hy, ho, pm, hs, hd, r1, r2, hl, hlp, fo, el, k⟩ := h
    have nd := sc__law_is_papers.nd
    have hu0 := hr.units0
    have hu64 := hr.units
    have hdd := ho.w1
    have oq := ho.perm pm
    have h60 := ho.few
    have ld : ds.length ≤ rs.length := sub_len r1.nodup hd
    have hdq : ∀ r ∈ ds, r ∈ qs := fun r hr => pm.mem_iff.mpr (hd r hr)
    refine ⟨_, (pss_cons (ps_if (PW.pt (pw_or (pt_not (pt_val (pe_callB call_isi (by rfl) T.n_isinstance PyProof.Rows.boot_isinstance (pa_cons (pv 2) (pa_cons (pe_bltn (v := .ty "list") rfl T.n_list PyProof.Rows.boot_list rfl) pa_nil))))) (pw_or (pt_not (pt_val (pe_callB call_isi (by rfl) T.n_isinstance PyProof.Rows.boot_isinstance (pa_cons (pv 3) (pa_cons (pe_bltn (v := .ty "list") rfl T.n_list PyProof.Rows.boot_list rfl) pa_nil))))) (pw_or1 (pt_cmpR op_ne (pe_callB call_len_seq (by rfl) T.n_len PySem.boot_len (pa_cons (pv 3) pa_nil)) (pe_callB call_len_seq (by rfl) T.n_len PySem.boot_len (pa_cons (pv 2) pa_nil)) (nomark _))))))
 (pss_one (ps_ret pe_bl))
 pss_nil)
 (pss_cons (ps_if (PW.pt (pw_or (pt_not (pt_val (pe_call (ok__law_same_order T) (hr.mono (by decide)) rfl T.F__law_same_order.m T.F__law_same_order.kp T.F__law_same_order.b .nil pass0 (pa_cons (pv 2) (pa_cons (pv 0) pa_nil))))) (pw_or1 (pt_not (pt_val (pe_call (ok__law_same_order T) (hr.mono (by decide)) rfl T.F__law_same_order.m T.F__law_same_order.kp T.F__law_same_order.b .nil pass0 (pa_cons (pv 2) (pa_cons (pv 1) pa_nil))))))))
 (pss_one (ps_ret pe_bl))
 pss_nil)
 (pss_cons (ps_if (pt_cmpR op_ne (pe_callB call_lenSetT (by rfl) T.n_len PySem.boot_len (pa_cons (pe_callTy (cr_setS rfl hu64) rfl T.n_set PyProof.Rows.boot_set (pa_cons (pv 2) pa_nil)) pa_nil)) (pe_callB call_len_seq (by rfl) T.n_len PySem.boot_len (pa_cons (pv 2) pa_nil)) (nomark _))
 (pss_one (ps_ret pe_bl))
 pss_nil)
 (pss_cons (ps_for PassesOwn.never rfl (pi_list (pv 3)) (pg_name (i := 4) nd rfl (Or.inl rfl))
 (pss_cons (ps_if (PW.pt (pw_or (pt_not (pt_val (pe_callB call_isi (by rfl) T.n_isinstance PyProof.Rows.boot_isinstance (pa_cons (pv 4) (pa_cons (pe_bltn (v := .ty "list") rfl T.n_list PyProof.Rows.boot_list rfl) pa_nil))))) (pw_or (pt_cmpR (op_eqNil hu0) (pv 4) (pe_lst pa_nil) (nomark _)) (pw_or1 (pt_not (pt_val (pe_call (ok__law_same_order T) (hr.mono (by decide)) rfl T.F__law_same_order.m T.F__law_same_order.kp T.F__law_same_order.b .nil pass0 (pa_cons (pv 4) (pa_cons (pv 0) pa_nil)))))))))
 (pss_one (ps_ret pe_bl))
 pss_nil)
 (pss_one (ps_if (pt_not (pt_val (pe_call (ok__law_same_order T) (hr.mono (by decide)) rfl T.F__law_same_order.m T.F__law_same_order.kp T.F__law_same_order.b .nil pass0 (pa_cons (pe_revL (pv 4)) (pa_cons (pv 1) pa_nil)))))
 (pss_one (ps_ret pe_bl))
 pss_nil))))
 (pss_one (ps_ret (pe_cmpR (op_eqD hu64) (pe_callB (cr_sortS (d := dd) (B := 1000) hdd) (by rfl) T.n_sorted PyProof.Rows.boot_sorted (pa_cons (pe_callB (cr_sumL rfl) (by rfl) T.n_sum PyProof.Rows.boot_sum (pa_cons (pv 3) (pa_cons (pe_lst pa_nil) pa_nil))) pa_nil)) (pe_callB (cr_sortS (d := dd) (B := 1000) hdd) (by rfl) T.n_sorted PyProof.Rows.boot_sorted (pa_cons (pv 0) pa_nil)) (nomark _)))))))), ?_⟩
    obtain ⟨sb, ss, rfl, hsb, hsp⟩ := id hs
    have lls : ls.length = Ls.length := Paired.length hlp
    have lss : ss.length = ds.length := Paired.length hsp
    refine q_when (b := false) (et_is (et_or (et_not (et_B (ev_isi (ev_var rfl) (ty_lst hsb) (kT (b := true) (by decide +kernel))))) fun _ => et_or (et_not (et_B (ev_isi (ev_var rfl) (ty_lst hl) (kT (b := true) (by decide +kernel))))) fun _ => et_test (ev_op (ev_lenS (ev_var rfl) (.inl hl)) (ev_lenS (ev_var rfl) (.inl hsb)) (rv_ne rfl))) ?_) (fun h => nomatch h) fun _ H1 e1 => ?_
    · rw [lls, lss, el, decide_eq_true rfl] <;> rfl
    refine q_when (b := false) (et_is (et_or (et_not (et_B (ev_call (ea_cons (ev_var rfl) (ea_cons (ev_var rfl) ea_nil)) (spv_same (LRw.ex hs e1) (LRw.ex hx e1) hd (by omega) r1)))) fun _ => et_not (et_B (ev_call (ea_cons (ev_var rfl) (ea_cons (ev_var rfl) ea_nil)) (spv_same (LRw.ex hs e1) (LRw.ex hy e1) hdq (by omega) r2)))) rfl) (fun h => nomatch h) fun _ H2 e2 => ?_
    have e02 := e1.trans e2
    refine q_when (b := false) (et_is (et_test (ev_op (ev_lenSet (ev_var rfl) (LRw.rws (LRw.ex hs e02)) r1.nodup (by omega)) (ev_lenS (ev_var rfl) (.inl (e02 _ _ hsb))) (rv_ne rfl))) ?_) (fun h => nomatch h) fun _ H3 e3 => ?_
    · rw [lss, decide_eq_true rfl] <;> rfl
    have e03 := e02.trans e3
    let Pv : Nat → L2.St → Hp → Prop := fun i σ' H' => Ex H3 H' ∧ ∃ w4, σ' = [some x, some y, some (.ref sb), some (.ref lb), w4]
    refine q_forLn (K := K) (a := lb) (xs := ls) (ev_var rfl) (sq_of (e03 _ _ hl)) Pv (fun H4 e4 => ⟨e4, _, rfl⟩) (fun i σ' H' _ h => sq_of ((e03.trans h.1) _ _ hl)) ?_ ?_
    · rintro i z σ' H' hi ⟨e', w4, rfl⟩
      obtain ⟨L, hL, hz⟩ := Paired.at_l hlp i z hi
      have mL := List.mem_of_getElem? hL
      have lL := fo.len mL
      have e0' := e03.trans e'
      have hz' := LRw.ex hz e0'
      obtain ⟨zb, zs, rfl, hzb, hzp⟩ := id hz'
      have hne : zs.isEmpty = false := by
        cases zs with
        | nil => exact absurd (List.length_eq_zero_iff.mp (Paired.length hzp).symm) (fo.ne L mL)
        | cons _ _ => rfl
      refine q_when (b := false) (et_is (et_or (et_not (et_B (ev_isi (ev_var rfl) (ty_lst hzb) (kT (b := true) (by decide +kernel))))) fun _ => et_or (et_test (ev_eqNil (ev_var rfl) (sq_of hzb))) fun _ => et_not (et_B (ev_call (ea_cons (ev_var rfl) (ea_cons (ev_var rfl) ea_nil)) (spv_same hz' (LRw.ex hx e0') (fun r hr => fo.mem mL hr) (by omega) (fo.up L mL))))) (by rw [hne] <;> rfl)) (fun h => nomatch h) fun _ H4 e4 => ?_
      have e04 := e0'.trans e4
      have t1 : Ev (tCall sp__law_same_order [] E0 (tCons (tRevL K (tVar 4)) (tCons (tVar 1) tNil))) [some x, some y, some (.ref sb), some (.ref lb), some (.ref zb)] H4 (.bl true) :=
        ev_call2L (el_revE (ev_var rfl) (e4 _ _ hzb)) (ev_var rfl) fun rb H6 e6 hrb => spv_same ⟨rb, _, rfl, hrb, Paired.rev (Paired.imp (fun _ _ h => h.ex (e4.trans e6)) hzp)⟩ (LRw.ex hy (e04.trans e6)) (fun r hr => pm.mem_iff.mpr (fo.mem mL (List.mem_reverse.mp hr))) (by rw [List.length_reverse]; omega) (fo.dn L mL)
      exact s_when (b := false) (et_is (et_not (et_B t1)) rfl) (fun h => nomatch h) fun _ H5 e5 => ⟨e'.trans (e4.trans e5), _, rfl⟩
    · rintro σ' H' ⟨e', w4, rfl⟩
      have e0' := e03.trans e'
      have c2 := ep_sumL (ta := tVar 3) (σ := [some x, some y, some (.ref sb), some (.ref lb), w4]) (H := H') (ev_var rfl) (e0' _ _ hl) (Paired.imp (fun _ _ h => LRw.ex h e0') hlp) (by rw [fo.pm.length_eq]; omega)
      have c3 : EvP (tVar 0) [some x, some y, some (.ref sb), some (.ref lb), w4] H' (fun v H2 => Rws H2 v rs) := fun H7 e7 Q q => ⟨x, rfl, q x H7 (Ex.refl _) (LRw.rws (LRw.ex hx (e0'.trans e7)))⟩
      exact s_ret (ev_sortedEqP c2 c3 (fun r hr => ho.row r (fo.pm.mem_iff.mp hr)) ho.row (by rw [fo.pm.length_eq]; omega) (by omega) fo.pm.symm) fun H9 e9 => k H9 (e0'.trans e9)
end
end Mv
/-! Arguments by what is true of them; falling lists. -/
namespace Mv
open PySem PySem.Spec PyProof.Rows L2 Evl
def EvAP (t : TA) (σ : L2.St) (H : Hp) (P : List V → Hp → Prop) : Prop := ∀ H1, Ex H H1 → ∀ Q : List V → Hp → Prop, (∀ vs H2, Ex H1 H2 → P vs H2 → Q vs H2) → t σ H1 Q
/-- what stays while the heap grows -/
def Sta (P : V → Hp → Prop) : Prop := ∀ v H1 H2, P v H1 → Ex H1 H2 → P v H2
section
variable {K : PySem.W.Frag} {σ : L2.St} {H : Hp} {ta tb te : TE} {t : TA} {x y z : V} {D : Ends} {tz : TS} {P R : V → Hp → Prop} {S : List V → Hp → Prop}
theorem eap_nil : EvAP tNil σ H (fun vs _ => vs = []) := fun H1 _ Q q => q [] H1 (Ex.refl _) rfl
theorem eap_cons (h : EvP te σ H P) (sP : Sta P) (hr : EvAP t σ H S) : EvAP (tCons te t) σ H (fun vs H2 => ∃ v ws, vs = v :: ws ∧ P v H2 ∧ S ws H2) := fun H1 e Q q =>
  h H1 e _ fun v H2 e2 hv => hr H2 (e.trans e2) _ fun ws H3 e3 hw => q _ H3 (e2.trans e3) ⟨v, ws, rfl, sP _ _ _ hv e3, hw⟩
theorem ep_callP {sp : Sp} {dvs : List V} {E : XK} (h : EvAP t σ H S) (hs : ∀ vs H1, Ex H H1 → S vs H1 → SpP sp (vs ++ dvs) H1 R) : EvP (tCall sp dvs E t) σ H R := fun H1 e Q q =>
  h H1 e _ fun vs H2 e2 hv => hs vs H2 (e.trans e2) hv H2 (Ex.refl _) Q (fun v H3 e3 hp => q v H3 (e2.trans e3) hp) E
theorem ev_callP {sp : Sp} {dvs : List V} {E : XK} (h : EvAP t σ H S) (hs : ∀ vs H1, Ex H H1 → S vs H1 → SpV sp (vs ++ dvs) H1 z) : Ev (tCall sp dvs E t) σ H z := fun H1 e Q q =>
  h H1 e _ fun vs H2 e2 hv => hs vs H2 (e.trans e2) hv H2 (Ex.refl _) Q (fun H3 e3 => q H3 (e2.trans e3)) E
theorem ep_callNP {sp : Sp} {E : XK} {m : Nat} {gV : List V → List V → List V} (h : EvAP t σ H S) (hm : ∀ vs H1, S vs H1 → vs.length = m) (hs : ∀ vs H1, Ex H H1 → S vs H1 → SpP sp (gV [] vs) H1 R) : EvP (tCallN 0 m sp gV E tNil t) σ H R := fun H1 e Q q =>
  h H1 e _ fun vs H2 e2 hv => ⟨rfl, hm vs H2 hv, hs vs H2 (e.trans e2) hv H2 (Ex.refl _) Q (fun v H3 e3 hp => q v H3 (e2.trans e3) hp) E⟩
theorem q_parP {i j : Nat} (ha : EvP ta σ H P) (sP : Sta P) (hb : EvP tb σ H R) (k : ∀ v u H1, Ex H H1 → P v H1 → R u H1 → tz D ((σ.set i (some v)).set j (some u)) H1) : tSeq (tPar i j (tCons ta (tCons tb tNil))) tz D σ H :=
  ha H (Ex.refl _) _ fun v H1 e1 hv => hb H1 e1 _ fun u H2 e2 hu => ⟨v, u, rfl, k v u H2 (e1.trans e2) (sP _ _ _ hv e2) hu⟩
theorem ep_of (h : Ev te σ H z) (hP : ∀ H1, Ex H H1 → P z H1) : EvP te σ H P := fun H1 e Q q => h H1 e _ fun H2 e2 => q z H2 e2 (hP H2 (e.trans e2))
theorem sta_rws {rs : List Row} : Sta fun v H2 => Rws H2 v rs := fun _ _ _ h e => h.ex e
theorem sta_lrw {rs : List Row} : Sta fun v H2 => LRw H2 v rs := fun _ _ _ h e => LRw.ex h e
theorem ep_tup {rs : List Row} (h : Ev te σ H x) (hx : LRw H x rs) : EvP (tCB (rTupOf K) (tCons te tNil)) σ H (fun v H2 => Rws H2 v rs) := fun H1 e Q q => by
  obtain ⟨b, ys, rfl, hb, hp⟩ := id hx
  exact eu_tupOf (K := K) h hb H1 e _ fun p H2 np e2 h2 => q _ H2 e2 ⟨p, ys, rfl, .inr h2, Paired.imp (fun _ _ h => h.ex (e.trans e2)) hp⟩
end
/-! falling lists -/
theorem falls_ok {rs qs tops : List Row} {lev : Row → Nat} {ahd : Row → Option Row} (nR : rs.Nodup) (pm : qs.Perm rs) (h : Pls rs qs rs tops lev ahd) : FallsOk rs qs (tops.map fun t => rs.filter fun q => decide (lev q = lev t)) := by
  constructor
  · intro L hL
    obtain ⟨t, ht, rfl⟩ := List.mem_map.mp hL
    obtain ⟨i, hi⟩ := List.mem_iff_getElem?.mp ht
    have mt := (h.mem i t hi).1
    intro z
    have : t ∈ rs.filter fun q => decide (lev q = lev t) := List.mem_filter.mpr ⟨mt, decide_eq_true rfl⟩
    rw [z] at this
    cases this
  · intro L hL
    obtain ⟨t, _, rfl⟩ := List.mem_map.mp hL
    exact (Rise.self nR).sub List.filter_sublist
  · intro L hL
    obtain ⟨t, _, rfl⟩ := List.mem_map.mp hL
    unfold Rise
    rw [List.pairwise_reverse]
    have up : Rise rs (rs.filter fun q => decide (lev q = lev t)) := (Rise.self nR).sub List.filter_sublist
    refine List.Pairwise.imp_of_mem (fun {q r} hq hr hlt => ?_) up
    have hq := List.mem_filter.mp hq
    have hr := List.mem_filter.mp hr
    have e1 := of_decide_eq_true hq.2
    have e2 := of_decide_eq_true hr.2
    refine Nat.lt_of_not_le fun z => ?_
    have ne : qs.idxOf q ≠ qs.idxOf r := fun e => by
      have := idxOf_inj (pm.mem_iff.mpr hq.1) (pm.mem_iff.mpr hr.1) e
      rw [this] at hlt
      exact Nat.lt_irrefl _ hlt
    have := h.L.lt r hr.1 q hq.1 (ah_two.mpr ⟨hlt, by omega⟩)
    omega
  · have e : (tops.map fun t => rs.filter fun q => decide (lev q = lev t)) = (List.range tops.length).map fun i => rs.filter fun q => decide (lev q = i) := by
      refine List.ext_getElem (by rw [List.length_map, List.length_map, List.length_range]) fun i h1 h2 => ?_
      rw [List.getElem_map, List.getElem_map, List.getElem_range]
      rw [List.length_map] at h1
      have := (h.mem i _ (List.getElem?_eq_getElem h1)).2
      rw [this]
    rw [e]
    exact flat_all h.count.lt
/-- what falls hands back: new lists in a new list -/
def FallV (rs qs : List Row) (M : Nat) (B : Hp) (v : V) (H2 : Hp) : Prop := ∃ (p1 : Addr) (bs : List Addr) (Ls : List (List Row)), v = .ref p1 ∧ B p1 = none ∧ H2 p1 = some (.lst (bs.map V.ref)) ∧ (∀ b ∈ bs, B b = none ∧ b ≠ p1) ∧ Paired (LRw H2) (bs.map V.ref) Ls ∧ FallsOk rs qs Ls ∧ Ls.length = M
theorem FallV.ex {rs qs : List Row} {M : Nat} {B H H' : Hp} {v : V} (h : FallV rs qs M B v H) (e : Ex H H') : FallV rs qs M B v H' := let ⟨p1, bs, Ls, h1, h2, h3, h4, h5, h6⟩ := h; ⟨p1, bs, Ls, h1, h2, e _ _ h3, h4, Paired.imp (fun _ _ h => LRw.ex h e) h5, h6⟩
theorem FallV.back {rs qs : List Row} {M : Nat} {B B' H : Hp} {v : V} (h : FallV rs qs M B' v H) (e : Ex B B') : FallV rs qs M B v H := let ⟨p1, bs, Ls, h1, h2, h3, h4, h5⟩ := h; ⟨p1, bs, Ls, h1, fresh_back e h2, h3, fun b hb => ⟨fresh_back e (h4 b hb).1, (h4 b hb).2⟩, h5⟩
/-- so many rows stay -/
def Stays (rs qs : List Row) (M : Nat) : Prop := ∀ lev ahd M', LevOn [rs, qs] rs lev ahd → IsCount rs lev M' → M' = M
theorem FallRes.v {rs qs : List Row} {M : Nat} {B H : Hp} {p1 : Addr} (h : FallRes rs qs B p1 H) (np : B p1 = none) (nR : rs.Nodup) (pm : qs.Perm rs) (hM : Stays rs qs M) : FallV rs qs M B (.ref p1) H := by
  obtain ⟨bs, tops, lev, ahd, h1, h2, h3, h4, h5⟩ := h
  have lb : bs.length = tops.length := Paired.length h2
  refine ⟨p1, bs, _, rfl, np, h1, h3, ?_, falls_ok nR pm h5, by rw [List.length_map]; exact hM lev ahd _ h5.L h5.count⟩
  refine paired_of (by rw [List.length_map, List.length_map, lb]) fun i x L hx hL => ?_
  rw [List.getElem?_map] at hx hL
  obtain ⟨b, hb, rfl⟩ := Option.map_eq_some_iff.mp hx
  obtain ⟨t, ht, rfl⟩ := Option.map_eq_some_iff.mp hL
  obtain ⟨t', ht', zi, zt, g1, g2, g3, g4⟩ := Paired.at_l h2 i b hb
  rw [ht] at ht'
  cases ht'
  exact ⟨b, _, rfl, g1, g4⟩
/-- rows that stay, in a new list -/
def StayV (rs qs : List Row) (M : Nat) (B : Hp) (v : V) (H2 : Hp) : Prop := ∃ (p : Addr) (ds : List Row), v = .ref p ∧ B p = none ∧ LRw H2 v ds ∧ (∀ r ∈ ds, r ∈ rs) ∧ Rise rs ds ∧ Rise qs ds ∧ ds.length = M
theorem StayV.ex {rs qs : List Row} {M : Nat} {B H H' : Hp} {v : V} (h : StayV rs qs M B v H) (e : Ex H H') : StayV rs qs M B v H' := let ⟨p, ds, h1, h2, h3, h4⟩ := h; ⟨p, ds, h1, h2, LRw.ex h3 e, h4⟩
theorem spp_stays {x y : V} {rs qs : List Row} {n M : Nat} {H : Hp} (hx : Rws H x rs) (hy : Rws H y qs) (ho : OkRows n rs) (pm : qs.Perm rs) (hM : Stays rs qs M) : SpP sp_longest_of [x, y] H (StayV rs qs M H) := fun H1 e Q q _ =>
  ⟨x, y, rs, qs, n, rfl, hx.ex e, hy.ex e, ho, pm, fun p H2 np e2 ⟨ys, ds, lev, ahd, M', h1, h2, h3, h4, h5, h6, h7⟩ => q _ H2 e2 ⟨p, ds, rfl, fresh_back e np, ⟨p, ys, rfl, h1, h3⟩, h5, Chn.rise List.mem_cons_self h4, Chn.rise (List.mem_cons_of_mem _ List.mem_cons_self) h4, by
    rw [← Paired.length h3, h2]
    exact hM lev ahd M' h6 h7⟩⟩
theorem spp_falls {x y : V} {rs qs : List Row} {n M : Nat} {H : Hp} (hx : Rws H x rs) (hy : Rws H y qs) (ho : OkRows n rs) (pm : qs.Perm rs) (hM : Stays rs qs M) : SpP sp_falls [x, y] H (FallV rs qs M H) := fun H1 e Q q _ =>
  ⟨x, y, rs, qs, n, rfl, hx.ex e, hy.ex e, ho, pm, fun p H2 np e2 h => q _ H2 e2 ((h.v np ho.nd pm hM).back e)⟩
theorem Stays.of {rs qs : List Row} {M : Nat} {lev : Row → Nat} {ahd : Row → Option Row} (L : LevOn [rs, qs] rs lev ahd) (hM : IsCount rs lev M) : Stays rs qs M := fun lev' ahd' M' L' hM' => (count_unique L L' List.mem_cons_self hM hM').symm
theorem Stays.symm {rs qs : List Row} {M : Nat} {lev : Row → Nat} {ahd : Row → Option Row} (L : LevOn [rs, qs] rs lev ahd) (hM : IsCount rs lev M) (pm : qs.Perm rs) : Stays qs rs M := fun lev' ahd' M' L' hM' => by
  obtain ⟨c, c1, c2, c3, c4⟩ := chain_most L hM
  obtain ⟨d, d1, d2, d3, d4⟩ := chain_most L' hM'
  have a := chain_len L' hM' c2 c1 fun r hr => pm.mem_iff.mpr (c3 r hr)
  have b := chain_len L hM d2 d1 fun r hr => pm.mem_iff.mp (d3 r hr)
  omega
end Mv
/-! _law_right_two. -/
namespace Mv
open PySem PySem.Spec PyProof.Rows L2 Evl
def TupRows (H : Hp) (y : V) (L : List Row) : Prop := ∃ b zs, y = .ref b ∧ H b = some (.tup zs) ∧ Paired (IsRow H) zs L
theorem TupRows.rws {H : Hp} {y : V} {L : List Row} (h : TupRows H y L) : Rws H y L := let ⟨b, zs, h1, h2, h3⟩ := h; ⟨b, zs, h1, .inr h2, h3⟩
theorem TupRows.tk {H H' : Hp} {y : V} {L : List Row} (h : TupRows H y L) (e : TupK H H') : TupRows H' y L := let ⟨b, zs, h1, h2, h3⟩ := h; ⟨b, zs, h1, e _ _ h2, Paired.imp (fun _ _ h => h.tk e) h3⟩
def LtB (H : Hp) (v : V) (Ls : List (List Row)) : Prop := ∃ t ts, v = .ref t ∧ H t = some (.tup ts) ∧ Paired (TupRows H) ts Ls
section
variable {K : PySem.W.Frag} {σ : L2.St} {H : Hp} {ta tb te : TE} {x y : V}
theorem ep_tupN {P : Addr → Hp → Prop} {R : V → Hp → Prop} (h : EvF te σ H P) (hP : ∀ p H1, Ex H H1 → P p H1 → ∃ ys, H1 p = some (.lst ys) ∧ ∀ t H2, Ex H1 H2 → H2 t = some (.tup ys) → R (.ref t) H2) : EvP (tCB (rTupOf K) (tCons te tNil)) σ H R := fun H1 e Q q =>
  h H1 e _ fun p H2 np e2 hp => by
    obtain ⟨ys, h1, h2⟩ := hP p H2 (e.trans e2) hp
    refine ⟨p, ys, rfl, .inl ⟨sq_of h1, fun t nt => ?_⟩⟩
    have eN : Ex H2 (upd H2 t (.tup ys)) := Ex.new nt
    exact q _ _ (e2.trans eN) (h2 t _ eN upd_same)
/-- tuple([tuple(rows) for rows in lists]) -/
theorem ep_rigid {l : Addr} {ls : List V} {Ls : List (List Row)} {j : Nat} {vs : List Nat} (h : Ev ta σ H (.ref l)) (hl : H l = some (.lst ls)) (hp : Paired (LRw H) ls Ls) (hz : Ls.length ≤ 100) (hw : ∀ x, wipe ((wipe σ vs).set j (some x)) vs = wipe σ vs) (hj : ∀ x, ((wipe σ vs).set j (some x))[j]? = some (some x)) :
    EvP (tCB (rTupOf K) (tCons (tLc (iSeq K ta) (gName j) tYes (tCB (rTupOf K) (tCons (tVar j) tNil)) vs) tNil)) σ H (fun v H2 => LtB H2 v Ls) := by
  have ll : ls.length = Ls.length := Paired.length hp
  refine ep_tupN (ef_itemsS (K := K) TupRows (fun _ _ _ _ e h => h.tk e) (fun i => Ls.take i) rfl (a := l) (xs := ls) (j := j) (vs := vs) (tt := tYes) (te := tCB (rTupOf K) (tCons (tVar j) tNil)) (fun i _ => by rw [List.length_take]; omega) h (.inl hl) hw fun i y H2 hi e2 => ?_) fun p H2 e2 ⟨ys, hys, hyp⟩ => ?_
  · obtain ⟨L, hL, hy⟩ := Paired.at_l hp i y hi
    refine ⟨true, et_yes, (fun h => nomatch h), fun _ => ⟨L, take_next hL, fun H3 e3 Q' q' => ?_⟩⟩
    obtain ⟨b, zs, rfl, hb, hbp⟩ := LRw.ex hy (e2.trans e3)
    exact (eu_tupOf (K := K) (ta := tVar j) (ev_var (hj _)) hb) H3 (Ex.refl _) _ fun t H4 nt e4 ht => q' _ H4 e4 ⟨t, zs, rfl, ht, Paired.imp (fun _ _ h => h.ex e4) hbp⟩
  · rw [ll, List.take_length] at hyp
    exact ⟨ys, hys, fun t H3 e3 ht => ⟨t, ys, rfl, ht, Paired.imp (fun _ _ h => h.tk (Ex.tk e3)) hyp⟩⟩
theorem ev_eqLists {ks xs : List V} {kb : Addr} {Ls : List (List Row)} (ha : EvL ta σ H xs) (hp : Paired (LRw H) xs Ls) (hb : Ev tb σ H (.ref kb)) (hk : H kb = some (.lst ks)) (hkp : Paired (LRw H) ks Ls) : Ev (tOp (rEqD K) ta tb) σ H (.bl true) := fun H1 e Q q =>
  ha H1 e _ fun p H2 np e2 h2 => hb H2 (e.trans e2) _ fun H3 e3 => by
    have eA := (e.trans e2).trans e3
    refine ⟨.list (Ls.map rl), .list (Ls.map rl), .lst (sq_of (e3 _ _ h2)) (dp_lists (Paired.imp (fun _ _ h => LRw.ex h eA) hp)), .lst (sq_of (eA _ _ hk)) (dp_lists (Paired.imp (fun _ _ h => LRw.ex h eA) hkp)), shaped_lists _, shaped_lists _, ?_⟩
    rw [SeqAt.eqv_refl _ (SeqAt.canLay_of_shaped (shaped_lists Ls))]
    exact q H3 (e2.trans e3)
theorem LtB.lss {v : V} {Ls : List (List Row)} (h : LtB H v Ls) : Lss H v Ls := let ⟨t, ts, h1, h2, h3⟩ := h; ⟨t, ts, h1, .inr h2, Paired.imp (fun _ _ h => h.rws) h3⟩
theorem LtB.ex {H' : Hp} {v : V} {Ls : List (List Row)} (h : LtB H v Ls) (e : Ex H H') : LtB H' v Ls := let ⟨t, ts, h1, h2, h3⟩ := h; ⟨t, ts, h1, e _ _ h2, Paired.imp (fun _ _ h => h.tk (Ex.tk e)) h3⟩
theorem spv_papers {s l : V} {rs qs ds : List Row} {Ls : List (List Row)} {n : Nat} (hx : Rws H x rs) (hy : Rws H y qs) (ho : OkRows n rs) (pm : qs.Perm rs) (hs : Rws H s ds) (hd : ∀ r ∈ ds, r ∈ rs) (r1 : Rise rs ds) (r2 : Rise qs ds) (hl : Lss H l Ls) (fo : FallsOk rs qs Ls) (el : Ls.length = ds.length) :
    SpV sp_check_papers [x, y, s, l] H (.bl true) := fun H1 e Q q _ => ⟨x, y, s, l, rs, qs, ds, Ls, n, rfl, hx.ex e, hy.ex e, ho, pm, hs.ex e, hd, r1, r2, hl.ex e, fo, el, q⟩
theorem spv_isp {s : V} {lb : Addr} {ls : List V} {rs qs ds : List Row} {Ls : List (List Row)} {n : Nat} (hx : LRw H x rs) (hy : LRw H y qs) (ho : OkRows n rs) (pm : qs.Perm rs) (hs : LRw H s ds) (hd : ∀ r ∈ ds, r ∈ rs) (r1 : Rise rs ds) (r2 : Rise qs ds) (hl : H lb = some (.lst ls)) (hlp : Paired (LRw H) ls Ls) (fo : FallsOk rs qs Ls) (el : Ls.length = ds.length) :
    SpV sp__law_is_papers [x, y, s, .ref lb] H (.bl true) := fun H1 e Q q _ => ⟨x, y, s, lb, ls, rs, qs, ds, Ls, n, rfl, LRw.ex hx e, LRw.ex hy e, ho, pm, LRw.ex hs e, hd, r1, r2, e _ _ hl, Paired.imp (fun _ _ h => LRw.ex h e) hlp, fo, el, q⟩
end
section
variable {P : Program} {w : World} {K : PySem.W.Frag} {mg : Str → Option Value} {base : Heap} {a : Nat → Addr} {d : Nat → FuncData} {tk : Nat → Tok}
def sp_right_two : Sp := fun vs H Q _ => ∃ (x y : V) (rs qs : List Row) (n : Nat), vs = [x, y] ∧ LRw H x rs ∧ LRw H y qs ∧ OkRows n rs ∧ qs.Perm rs ∧ RetV (.bl true) H Q
theorem ok__law_right_two (T : All K mg a d tk) : FnOk P w K mg base CX0 8 (a 45) (d 45) ["first", "second"] sp_right_two := by
  refine T.F__law_right_two.fn.ok sc__law_right_two (fun vs H Q E h => ?_) (fun cdv A outer s H vs Q E hr h => ?_)
  · obtain ⟨x, y, rs, qs, n, rfl, _⟩ := h
    rfl
  · obtain ⟨x, y, rs, qs, n, rfl, hx, hy, ho, pm, k⟩ := h
    have nd := sc__law_right_two.nd
    have hu64 := hr.units
    have h60 := ho.few
    have oq := ho.perm pm
    refine ⟨_, (pss_cons (ps_par (i := 2) (j := 3) rfl nd rfl rfl (by decide) rfl rfl (pa_cons (pe_call (ok__law_longest T) (hr.mono (by decide)) rfl T.F__law_longest.m T.F__law_longest.kp T.F__law_longest.b .nil pass0 (pa_cons (pv 0) (pa_cons (pv 1) pa_nil))) (pa_cons (pe_lst (pa_cons (pe_callTy call_list_of rfl T.n_list PyProof.Rows.boot_list (pa_cons (pv 0) pa_nil)) (pa_cons (pe_callTy call_list_of rfl T.n_list PyProof.Rows.boot_list (pa_cons (pv 1) pa_nil)) pa_nil))) pa_nil)) (by rfl))
 (pss_cons (ps_for PassesOwn.never rfl (pi_range1 rfl T.n_range (pa_cons pe_int pa_nil)) (pg_name (i := 4) nd rfl (Or.inl rfl))
 (pss_cons (ps_par (i := 5) (j := 6) rfl nd rfl rfl (by decide) rfl rfl (pa_cons (pe_call (ok_stays T) (hr.mono (by decide)) rfl T.F_stays.m T.F_stays.kp T.F_stays.b .nil pass0 (pa_cons (pv 0) (pa_cons (pv 1) pa_nil))) (pa_cons (pe_call (ok_falls T) (hr.mono (by decide)) rfl T.F_falls.m T.F_falls.kp T.F_falls.b .nil pass0 (pa_cons (pv 0) (pa_cons (pv 1) pa_nil))) pa_nil)) (by rfl))
 (pss_cons (ps_if (PW.pt (pw_or (pt_cmpR op_ne (pe_callB call_len_seq (by rfl) T.n_len PySem.boot_len (pa_cons (pv 5) pa_nil)) (pv 2) (nomark _)) (pw_or1 (pt_not (pt_val (pe_call (ok__law_is_papers T) (hr.mono (by decide)) rfl T.F__law_is_papers.m T.F__law_is_papers.kp T.F__law_is_papers.b .nil pass0 (pa_cons (pv 0) (pa_cons (pv 1) (pa_cons (pv 5) (pa_cons (pv 6) pa_nil))))))))))
 (pss_one (ps_ret pe_bl))
 pss_nil)
 (pss_cons (ps_if (pt_cmpR op_isnot_bl (pe_call (ok_check_papers T) (hr.mono (by decide)) rfl T.F_check_papers.m T.F_check_papers.kp T.F_check_papers.b .nil pass0 (pa_cons (pv 0) (pa_cons (pv 1) (pa_cons (pv 5) (pa_cons (pv 6) pa_nil))))) pe_bl (nomark _))
 (pss_one (ps_ret pe_bl))
 pss_nil)
 (pss_cons (ps_if (pt_cmpR op_ne (pe_call (ok_fewest_moves T) (hr.mono (by decide)) rfl T.F_fewest_moves.m T.F_fewest_moves.kp T.F_fewest_moves.b .nil pass0 (pa_cons (pv 0) (pa_cons (pv 1) pa_nil))) (pe_op op_sub (pe_callB call_len_seq (by rfl) T.n_len PySem.boot_len (pa_cons (pv 0) pa_nil)) (pv 2)) (nomark _))
 (pss_one (ps_ret pe_bl))
 pss_nil)
 (pss_cons (ps_set (i := 7) nd rfl (Or.inl rfl) (pe_callTy call_tuple_of rfl T.n_tuple PyProof.Rows.boot_tuple (pa_cons (pe_lc (own := [("rows", 8)]) (g := (gName 8)) rfl nd (pi_seq (pv 6)) (blkOk_by (N := N__law_right_two) (sc := defScope s__law_right_two) (by decide +kernel)) (fun _ _ _ _ _ => (pg_name (i := 8) nd rfl (Or.inl rfl))) (fun _ _ _ _ _ => pts_nil) (fun _ _ _ _ _ => (pe_callTy (show CallR _ (.type "tuple") (rTupOf K) from call_tuple_of) rfl T.n_tuple PyProof.Rows.boot_tuple (pa_cons (pv 8) pa_nil)))) pa_nil)))
 (pss_cons (ps_if (pt_cmpR op_isnot_bl (pe_call (ok_check_papers T) (hr.mono (by decide)) rfl T.F_check_papers.m T.F_check_papers.kp T.F_check_papers.b .nil pass0 (pa_cons (pe_callTy call_tuple_of rfl T.n_tuple PyProof.Rows.boot_tuple (pa_cons (pv 0) pa_nil)) (pa_cons (pe_callTy call_tuple_of rfl T.n_tuple PyProof.Rows.boot_tuple (pa_cons (pv 1) pa_nil)) (pa_cons (pe_callTy call_tuple_of rfl T.n_tuple PyProof.Rows.boot_tuple (pa_cons (pv 5) pa_nil)) (pa_cons (pv 7) pa_nil))))) pe_bl (nomark _))
 (pss_one (ps_ret pe_bl))
 pss_nil)
 (pss_cons (ps_for PassesOwn.never rfl (pi_seq (pv 6)) (pg_name (i := 8) nd rfl (Or.inl rfl))
 (pss_one (ps_expr (pe_bm PySem.F.plainAttrs_list PySem.F.slot_list_append PySem.F.type_list_append mt_append (pv 8) (pa_cons pe_str pa_nil)))))
 (pss_cons (ps_expr (pe_bm PySem.F.plainAttrs_list PySem.F.slot_list_append PySem.F.type_list_append mt_append (pv 6) (pa_cons pe_str pa_nil)))
 (pss_one (ps_expr (pe_bm PySem.F.plainAttrs_list PySem.F.slot_list_append PySem.F.type_list_append mt_append (pv 5) (pa_cons pe_str pa_nil)))))))))))))
 (pss_cons (ps_if (PW.pt (pw_or (pt_cmpR op_ne (pe_callB call_len_seq (by rfl) T.n_len PySem.boot_len (pa_cons (pe_callK0 (ok_stays T) (hr.mono (by decide)) rfl T.F_stays.m T.F_stays.kp T.K_stays pass0 (pk_cons (pe_callTy call_tuple_of rfl T.n_tuple PyProof.Rows.boot_tuple (pa_cons (pv 0) pa_nil)) (pk_cons (pe_callTy call_tuple_of rfl T.n_tuple PyProof.Rows.boot_tuple (pa_cons (pv 1) pa_nil)) pk_nil))) pa_nil)) (pv 2) (nomark _)) (pw_or1 (pt_cmpR op_ne (pe_callB call_len_seq (by rfl) T.n_len PySem.boot_len (pa_cons (pe_callK0 (ok_falls T) (hr.mono (by decide)) rfl T.F_falls.m T.F_falls.kp T.K_falls pass0 (pk_cons (pv 0) (pk_cons (pv 1) pk_nil))) pa_nil)) (pv 2) (nomark _)))))
 (pss_one (ps_ret pe_bl))
 pss_nil)
 (pss_cons (ps_set (i := 6) nd rfl (Or.inl rfl) (pe_call (ok_falls T) (hr.mono (by decide)) rfl T.F_falls.m T.F_falls.kp T.F_falls.b .nil pass0 (pa_cons (pe_callTy call_tuple_of rfl T.n_tuple PyProof.Rows.boot_tuple (pa_cons (pv 0) pa_nil)) (pa_cons (pe_callTy call_tuple_of rfl T.n_tuple PyProof.Rows.boot_tuple (pa_cons (pv 1) pa_nil)) pa_nil))))
 (pss_cons (ps_if (pt_not (pt_val (pe_call (ok__law_is_papers T) (hr.mono (by decide)) rfl T.F__law_is_papers.m T.F__law_is_papers.kp T.F__law_is_papers.b .nil pass0 (pa_cons (pv 0) (pa_cons (pv 1) (pa_cons (pe_call (ok_stays T) (hr.mono (by decide)) rfl T.F_stays.m T.F_stays.kp T.F_stays.b .nil pass0 (pa_cons (pe_callTy call_tuple_of rfl T.n_tuple PyProof.Rows.boot_tuple (pa_cons (pv 0) pa_nil)) (pa_cons (pv 1) pa_nil))) (pa_cons (pv 6) pa_nil)))))))
 (pss_one (ps_ret pe_bl))
 pss_nil)
 (pss_one (ps_ret (pe_cmpR (op_eqD hu64) (pe_lst (pa_cons (pv 0) (pa_cons (pv 1) pa_nil))) (pv 3) (nomark _))))))))), ?_⟩
    obtain ⟨xb, xs, rfl, hxb, hxp⟩ := id hx
    obtain ⟨yb, ys, rfl, hyb, hyp⟩ := id hy
    have lenx : xs.length = rs.length := Paired.length hxp
    have c2 : EvP (tCall sp__law_longest [] E0 (tCons (tVar 0) (tCons (tVar 1) tNil))) [some (.ref xb), some (.ref yb), none, none, none, none, none, none, none] H (fun v _ => ∃ lev ahd M, v = .int (M : Nat) ∧ LevOn [rs, qs] rs lev ahd ∧ IsCount rs lev M) :=
      ep_call (ea_cons (ev_var rfl) (ea_cons (ev_var rfl) ea_nil)) fun H1 e Q q _ => ⟨_, _, rs, qs, n, rfl, LRw.ex hx e, LRw.ex hy e, ho, pm, fun lev ahd M H2 h1 h2 e2 => q _ H2 e2 ⟨lev, ahd, M, rfl, h1, h2⟩⟩
    have c3 : EvP (tLst (tCons (tCB (rListS K) (tCons (tVar 0) tNil)) (tCons (tCB (rListS K) (tCons (tVar 1) tNil)) tNil))) [some (.ref xb), some (.ref yb), none, none, none, none, none, none, none] H (fun v H2 => ∃ kb ks, v = .ref kb ∧ H2 kb = some (.lst ks) ∧ Paired (LRw H2) ks [rs, qs]) := fun H1 e Q q =>
      (el_listS (K := K) (ta := tVar 0) (ev_var rfl) (.inl hxb)) H1 e _ fun p1 H2 np1 e2 h1 => (el_listS (K := K) (ta := tVar 1) (ev_var rfl) (.inl hyb)) H2 (e.trans e2) _ fun p2 H3 np2 e3 h2 => ⟨sz_of (show 2 ≤ 100000 by decide), fun p3 np3 => by
        have eN : Ex H3 (upd H3 p3 (.lst [.ref p1, .ref p2])) := Ex.new np3
        have eA := (e.trans (e2.trans e3)).trans eN
        exact q _ _ ((e2.trans e3).trans eN) ⟨p3, _, rfl, upd_same, .cons ⟨p1, xs, rfl, (e3.trans eN) _ _ h1, Paired.imp (fun _ _ h => h.ex eA) hxp⟩ (.cons ⟨p2, ys, rfl, eN _ _ h2, Paired.imp (fun _ _ h => h.ex eA) hyp⟩ .nil)⟩⟩
    refine q_parP c2 (fun _ _ _ h _ => h) c3 fun v u H1 e1 ⟨lev, ahd, M, ev, L, hM⟩ ⟨kb, ks, eu, hkb, hkp⟩ => ?_
    subst ev
    subst eu
    have cf := count_few L List.mem_cons_self hM
    have hS : Stays rs qs M := .of L hM
    have hS2 : Stays qs rs M := .symm L hM pm
    have hMst : Most rs qs (rs.length - M) := .of L hM (by omega)
    let Ov : Nat → L2.St → Hp → Prop := fun _ σ' H' => Ex H1 H' ∧ ∃ (w4 w5 w6 w7 w8 : Option V), σ' = [some (.ref xb), some (.ref yb), some (.int (M : Nat)), some (.ref kb), w4, w5, w6, w7, w8]
    refine q_forR1 (n := 2) (ea_cons ev_c ea_nil) ⟨by decide, by decide⟩ Ov (fun H2 e2 => ⟨e2, none, none, none, none, none, rfl⟩) ?_ ?_
    · rintro i σ' H' hi ⟨e', w4, w5, w6, w7, w8, rfl⟩
      have e0' := e1.trans e'
      have hx' := LRw.ex hx e0'
      have hy' := LRw.ex hy e0'
      refine q_parP (P := StayV rs qs M H') (R := FallV rs qs M H') (ep_call (ea_cons (ev_var rfl) (ea_cons (ev_var rfl) ea_nil)) (spp_stays hx'.rws hy'.rws ho pm hS)) (fun _ _ _ h e => h.ex e) (ep_call (ea_cons (ev_var rfl) (ea_cons (ev_var rfl) ea_nil)) (spp_falls hx'.rws hy'.rws ho pm hS)) fun v u H2 e2 ⟨sp, ds, ev, nsp, hds, hd, r1, r2, ld⟩ ⟨lp, bs, Ls, eu, nlp, hlp, hbs, hLs, fo, lL⟩ => ?_
      subst ev
      subst eu
      have e02 := e0'.trans e2
      obtain ⟨sp', ss, ee, hss, hssp⟩ := id hds
      cases ee
      have lss : ss.length = ds.length := Paired.length hssp
      have hx2 := LRw.ex hx e02
      have hy2 := LRw.ex hy e02
      have el : Ls.length = ds.length := by omega
      refine q_when (b := false) (et_is (et_or (et_test (ev_op (ev_lenS (ev_var rfl) (.inl hss)) (ev_var rfl) (rv_ne rfl))) fun _ => et_not (et_B (ev_call (ea_cons (ev_var rfl) (ea_cons (ev_var rfl) (ea_cons (ev_var rfl) (ea_cons (ev_var rfl) ea_nil)))) (spv_isp hx2 hy2 ho pm hds hd r1 r2 hlp hLs fo el)))) ?_) (fun h => nomatch h) fun _ H3 e3 => ?_
      · rw [lss, ld, decide_eq_true rfl] <;> rfl
      have hx3 := LRw.ex hx2 e3
      have hy3 := LRw.ex hy2 e3
      have hds3 := LRw.ex hds e3
      have hLs3 : Paired (LRw H3) (bs.map V.ref) Ls := Paired.imp (fun _ _ h => LRw.ex h e3) hLs
      refine q_when (b := false) (et_is (et_test (ev_op (ev_call (ea_cons (ev_var rfl) (ea_cons (ev_var rfl) (ea_cons (ev_var rfl) (ea_cons (ev_var rfl) ea_nil)))) (spv_papers hx3.rws hy3.rws ho pm hds3.rws hd r1 r2 ⟨lp, _, rfl, .inl (e3 _ _ hlp), Paired.imp (fun _ _ h => LRw.rws h) hLs3⟩ fo el)) ev_c rv_isnot)) rfl) (fun h => nomatch h) fun _ H4 e4 => ?_
      have e24 := e3.trans e4
      have hx4 := LRw.ex hx2 e24
      have hy4 := LRw.ex hy2 e24
      have l4 : Ev (tCB (rLenS K) (tCons (tVar 0) tNil)) [some (.ref xb), some (.ref yb), some (.int (M : Nat)), some (.ref kb), some (.int (i : Nat)), some (.ref sp), some (.ref lp), w7, w8] H4 (.int (xs.length : Int)) := ev_lenS (ev_var rfl) (.inl ((e02.trans e24) _ _ hxb))
      refine q_when (b := false) (et_is (et_test (ev_op (ev_call (ea_cons (ev_var rfl) (ea_cons (ev_var rfl) ea_nil)) (spv_fewest hx4.rws hy4.rws ho pm hMst)) (ev_I0 (g := fun i j => .int (i - j)) l4 (ev_var rfl)) (rv_ne rfl))) ?_) (fun h => nomatch h) fun _ H5 e5 => ?_
      · have z : ((rs.length - M : Nat) : Int) = (xs.length : Int) - (M : Nat) := by omega
        rw [z, decide_eq_true rfl] <;> rfl
      have e25 := e24.trans e5
      have hLs5 : Paired (LRw H5) (bs.map V.ref) Ls := Paired.imp (fun _ _ h => LRw.ex h e25) hLs
      have lr := sub_len r1.nodup hd
      refine q_asgP (ep_rigid (K := K) (ta := tVar 6) (j := 8) (vs := [8]) (ev_var rfl) (e25 _ _ hlp) hLs5 (by omega) (fun _ => rfl) (fun _ => rfl)) fun v7 H6 e6 hrg => ?_
      have e26 := e25.trans e6
      have hx6 := LRw.ex hx2 e26
      have hy6 := LRw.ex hy2 e26
      have hds6 := LRw.ex hds e26
      have t4 : Ev (tCall sp_check_papers [] E0 (tCons (tCB (rTupOf K) (tCons (tVar 0) tNil)) (tCons (tCB (rTupOf K) (tCons (tVar 1) tNil)) (tCons (tCB (rTupOf K) (tCons (tVar 5) tNil)) (tCons (tVar 7) tNil))))) [some (.ref xb), some (.ref yb), some (.int (M : Nat)), some (.ref kb), some (.int (i : Nat)), some (.ref sp), some (.ref lp), some v7, w8] H6 (.bl true) :=
        ev_callP (eap_cons (ep_tup (K := K) (ev_var rfl) hx6) sta_rws (eap_cons (ep_tup (K := K) (ev_var rfl) hy6) sta_rws (eap_cons (ep_tup (K := K) (ev_var rfl) hds6) sta_rws (eap_cons (P := fun v H2 => LtB H2 v Ls) (ep_of (ev_var rfl) fun H7 e7 => hrg.ex e7) (fun _ _ _ h e => h.ex e) eap_nil))))
          fun vs H7 e7 ⟨v1, ws1, ea, g1, v2, ws2, eb, g2, v3, ws3, ec, g3, v4, ws4, ed, g4, ee⟩ => by
            subst ee ed ec eb ea
            exact spv_papers g1 g2 ho pm g3 hd r1 r2 g4.lss fo el
      refine q_when (b := false) (et_is (et_test (ev_op t4 ev_c rv_isnot)) rfl) (fun h => nomatch h) fun _ H7 e7 => ?_
      have e27 := e26.trans e7
      have nlp1 : H1 lp = none := fresh_back e' nlp
      have nsp1 : H1 sp = none := fresh_back e' nsp
      have nbs1 : ∀ b ∈ bs, H1 b = none := fun b hb => fresh_back e' (hbs b hb).1
      let Mv : Nat → L2.St → Hp → Prop := fun j σ'' H'' => Ex H1 H'' ∧ H'' lp = some (.lst (bs.map V.ref)) ∧ (∃ ss', H'' sp = some (.lst ss') ∧ ss'.length ≤ 100 + j) ∧ (∀ b ∈ bs, ∃ l, H'' b = some (.lst l) ∧ l.length ≤ 100 + j) ∧ ∃ w8, σ'' = [some (.ref xb), some (.ref yb), some (.int (M : Nat)), some (.ref kb), some (.int (i : Nat)), some (.ref sp), some (.ref lp), some v7, w8]
      refine q_forS (a := lp) (xs := bs.map V.ref) (ev_var rfl) (.inl (e27 _ _ hlp)) Mv (fun H8 e8 => ⟨(e'.trans e2).trans (e27.trans e8), (e27.trans e8) _ _ hlp, ⟨ss, (e27.trans e8) _ _ hss, by omega⟩, fun b hb => ?_, _, rfl⟩) (fun j σ'' H'' _ h => h.2.1.trans (e27 _ _ hlp).symm) ?_ ?_
      · obtain ⟨L', hL', c, ys', ec, hc', hcp⟩ := Paired.mem_l hLs (V.ref b) (List.mem_map_of_mem hb)
        cases ec
        exact ⟨ys', (e27.trans e8) _ _ hc', by rw [Paired.length hcp]; have := fo.len hL'; omega⟩
      · rintro j z σ'' H'' hj ⟨e'', hlp'', ⟨ss', hss', lss'⟩, hb'', w8, rfl⟩
        rw [List.getElem?_map] at hj
        obtain ⟨b, hb, rfl⟩ := Option.map_eq_some_iff.mp hj
        have mb := List.mem_of_getElem? hb
        have lj : j < bs.length := (List.getElem?_eq_some_iff.mp hb).1
        have lbs : bs.length = Ls.length := by have := Paired.length hLs; rwa [List.length_map] at this
        obtain ⟨l, hl, ll⟩ := hb'' b mb
        refine s_app (K := K) hl (ev_var rfl) ev_c (by omega) fun H9 e9 => ?_
        have nbl := (hbs b mb).2
        refine ⟨Ex.mut (e''.trans e9) (nbs1 b mb), by rw [upd_ne (Ne.symm nbl)]; exact e9 _ _ hlp'', ?_, fun c hc => ?_, _, rfl⟩
        · by_cases z : sp = b
          · rw [z]
            exact ⟨_, upd_same, by rw [List.length_append, List.length_singleton]; omega⟩
          · exact ⟨ss', by rw [upd_ne z]; exact e9 _ _ hss', by omega⟩
        · by_cases z : c = b
          · rw [z]
            exact ⟨_, upd_same, by rw [List.length_append, List.length_singleton]; omega⟩
          · obtain ⟨l', hl', ll'⟩ := hb'' c hc
            exact ⟨l', by rw [upd_ne z]; exact e9 _ _ hl', by omega⟩
      · rintro σ'' H'' ⟨e'', hlp'', ⟨ss', hss', lss'⟩, hb'', w8, rfl⟩
        have lbs : bs.length = Ls.length := by have := Paired.length hLs; rwa [List.length_map] at this
        rw [List.length_map] at lss'
        refine q_app (K := K) hlp'' (ev_var rfl) ev_c (by rw [List.length_map]; omega) fun H8 e8 => ?_
        obtain ⟨ss2, hss2, lss2⟩ : ∃ ss2, (upd H8 lp (.lst (bs.map V.ref ++ [V.str "late"]))) sp = some (.lst ss2) ∧ ss2.length < 100000 := by
          by_cases z : sp = lp
          · rw [z]
            exact ⟨_, upd_same, by rw [List.length_append, List.length_map, List.length_singleton]; omega⟩
          · exact ⟨ss', by rw [upd_ne z]; exact e8 _ _ hss', by omega⟩
        refine s_app (K := K) hss2 (ev_var rfl) ev_c lss2 fun H9 e9 => ?_
        exact ⟨Ex.mut (((e''.trans e8).mut nlp1).trans e9) nsp1, _, _, _, _, _, rfl⟩
    · rintro σ' H' ⟨e', w4, w5, w6, w7, w8, rfl⟩
      have e0' := e1.trans e'
      have hx' := LRw.ex hx e0'
      have hy' := LRw.ex hy e0'
      have s1 : EvP (tCallN 0 2 sp_longest_of (fun _ zs => zs.reverse) E0 tNil (tCons (tCB (rTupOf K) (tCons (tVar 0) tNil)) (tCons (tCB (rTupOf K) (tCons (tVar 1) tNil)) tNil))) [some (.ref xb), some (.ref yb), some (.int (M : Nat)), some (.ref kb), w4, w5, w6, w7, w8] H' (fun v H2 => ∃ B, StayV qs rs M B v H2) :=
        ep_callNP (eap_cons (ep_tup (K := K) (ev_var rfl) hx') sta_rws (eap_cons (ep_tup (K := K) (ev_var rfl) hy') sta_rws eap_nil)) (fun vs _ ⟨v1, ws1, ea, _, v2, ws2, eb, _, ec⟩ => by subst ec eb ea; rfl)
          fun vs H7 e7 ⟨v1, ws1, ea, g1, v2, ws2, eb, g2, ec⟩ => by
            subst ec eb ea
            exact fun H1 e Q q E => spp_stays g2 g1 oq pm.symm hS2 H1 e Q (fun v H2 e2 h => q v H2 e2 ⟨_, h⟩) E
      have s2 : EvP (tCallN 0 2 sp_falls (fun _ zs => zs.reverse) E0 tNil (tCons (tVar 0) (tCons (tVar 1) tNil))) [some (.ref xb), some (.ref yb), some (.int (M : Nat)), some (.ref kb), w4, w5, w6, w7, w8] H' (FallV qs rs M H') :=
        ep_callN (ea_cons (ev_var rfl) (ea_cons (ev_var rfl) ea_nil)) (spp_falls hy'.rws hx'.rws oq pm.symm hS2) rfl
      refine q_when (b := false) (et_is (et_or (et_test (ev_op (ev_lenP (K := K) (n := (M : Nat)) (s1.imp fun v H2 ⟨B, p, ds, ev, _, ⟨b, ys', e2, hb, hbp⟩, _, _, _, ld⟩ => ⟨b, ys', e2, .inl hb, by rw [Paired.length hbp, ld]⟩)) (ev_var rfl) (rv_ne rfl))) fun _ => et_test (ev_op (ev_lenP (K := K) (n := (M : Nat)) (s2.imp fun v H2 ⟨p, bs, Ls, ev, _, hp, _, hLs, _, lL⟩ => ⟨p, _, ev, .inl hp, by rw [Paired.length hLs, lL]⟩)) (ev_var rfl) (rv_ne rfl))) ?_) (fun h => nomatch h) fun _ H2 e2 => ?_
      · rw [decide_eq_true rfl] <;> rfl
      have hx2 := LRw.ex hx' e2
      have hy2 := LRw.ex hy' e2
      refine q_asgP (P := fun v H3 => ∃ B, FallV rs qs M B v H3) (ep_callP (eap_cons (ep_tup (K := K) (ev_var rfl) hx2) sta_rws (eap_cons (ep_tup (K := K) (ev_var rfl) hy2) sta_rws eap_nil)) fun vs H7 e7 ⟨v1, ws1, ea, g1, v2, ws2, eb, g2, ec⟩ => by
            subst ec eb ea
            exact fun H1 e Q q E => spp_falls g1 g2 ho pm hS H1 e Q (fun v H2 e2 h => q v H2 e2 ⟨_, h⟩) E) fun v H3 e3 ⟨B, lp, bs, Ls, ev, _, hlp, _, hLs, fo, lL⟩ => ?_
      subst ev
      have hx3 := LRw.ex hx2 e3
      have hy3 := LRw.ex hy2 e3
      have s3 : EvP (tCall sp_longest_of [] E0 (tCons (tCB (rTupOf K) (tCons (tVar 0) tNil)) (tCons (tVar 1) tNil))) [some (.ref xb), some (.ref yb), some (.int (M : Nat)), some (.ref kb), w4, w5, some (.ref lp), w7, w8] H3 (fun v H2 => ∃ B, StayV rs qs M B v H2) :=
        ep_callP (eap_cons (ep_tup (K := K) (ev_var rfl) hx3) sta_rws (eap_cons (P := fun v H2 => Rws H2 v qs) (ep_of (ev_var rfl) fun H7 e7 => LRw.rws (LRw.ex hy3 e7)) sta_rws eap_nil)) fun vs H7 e7 ⟨v1, ws1, ea, g1, v2, ws2, eb, g2, ec⟩ => by
            subst ec eb ea
            exact fun H1 e Q q E => spp_stays g1 g2 ho pm hS H1 e Q (fun v H2 e2 h => q v H2 e2 ⟨_, h⟩) E
      have s4 : Ev (tCall sp__law_is_papers [] E0 (tCons (tVar 0) (tCons (tVar 1) (tCons (tCall sp_longest_of [] E0 (tCons (tCB (rTupOf K) (tCons (tVar 0) tNil)) (tCons (tVar 1) tNil))) (tCons (tVar 6) tNil))))) [some (.ref xb), some (.ref yb), some (.int (M : Nat)), some (.ref kb), w4, w5, some (.ref lp), w7, w8] H3 (.bl true) :=
        ev_callP (eap_cons (P := fun v H2 => LRw H2 v rs) (ep_of (ev_var rfl) fun H7 e7 => LRw.ex hx3 e7) sta_lrw (eap_cons (P := fun v H2 => LRw H2 v qs) (ep_of (ev_var rfl) fun H7 e7 => LRw.ex hy3 e7) sta_lrw (eap_cons s3 (fun _ _ _ ⟨B, h⟩ e => ⟨B, h.ex e⟩) (eap_cons (P := fun v _ => v = .ref lp) (Ev.p (ev_var rfl)) (fun _ _ _ h _ => h) eap_nil))))
          fun vs H7 e7 ⟨v1, ws1, ea, g1, v2, ws2, eb, g2, v3, ws3, ec, ⟨B', p3, ds, _, _, g3, hd, r1, r2, ld⟩, v4, ws4, ed, g4, ee⟩ => by
            subst ee ed ec eb ea g4
            exact spv_isp g1 g2 ho pm g3 hd r1 r2 (e7 _ _ hlp) (Paired.imp (fun _ _ h => LRw.ex h e7) hLs) fo (by omega)
      refine q_when (b := false) (et_is (et_not (et_B s4)) rfl) (fun h => nomatch h) fun _ H4 e4 => ?_
      have e04 := e0'.trans (e2.trans (e3.trans e4))
      have e14 := e'.trans (e2.trans (e3.trans e4))
      exact s_ret (ev_eqLists (K := K) (Ls := [rs, qs]) (el_lst (ea_cons (ev_var rfl) (ea_cons (ev_var rfl) ea_nil)) (show 2 ≤ 100000 by decide)) (.cons (LRw.ex hx e04) (.cons (LRw.ex hy e04) .nil)) (ev_var rfl) (e14 _ _ hkb) (Paired.imp (fun _ _ h => LRw.ex h e14) hkp)) fun H5 e5 => k H5 (e04.trans e5)
end
end Mv
/-! _law_second, law. -/
namespace Mv
open PySem PySem.Spec PyProof.Rows L2 Evl
section
variable {P : Program} {w : World} {K : PySem.W.Frag} {mg : Str → Option Value} {base : Heap} {a : Nat → Addr} {d : Nat → FuncData} {tk : Nat → Tok}
def sp__law_second (K : PySem.W.Frag) : Sp := fun vs H Q _ => ∃ (p : Addr) (ns : List Int), vs = [.ref p] ∧ SqL K H p (ns.map V.int) ∧ ns.length ≤ 63 ∧ RetV (.bl true) H Q
theorem ok__law_second (T : All K mg a d tk) : FnOk P w K mg base CX0 9 (a 46) (d 46) ["script"] (sp__law_second K) := by
  refine T.F__law_second.fn.ok sc__law_second (fun vs H Q E h => ?_) (fun cdv A outer s H vs Q E hr h => ?_)
  · obtain ⟨p, ns, rfl, _⟩ := h
    rfl
  · obtain ⟨sc, ns, rfl, hs, h63, k⟩ := h
    have nd := sc__law_second.nd
    refine ⟨_, (pss_cons (ps_for PassesOwn.never rfl (pi_range1 rfl T.n_range (pa_cons (pe_callB (call_max2 rfl) (by rfl) T.n_max PyProof.Rows.boot_max (pa_cons pe_int (pa_cons (pe_callB (call_min2 rfl) (by rfl) T.n_min PyProof.Rows.boot_min (pa_cons pe_int (pa_cons (pe_callB call_len_seq (by rfl) T.n_len PySem.boot_len (pa_cons (pv 0) pa_nil)) pa_nil))) pa_nil))) pa_nil)) (pg_name (i := 1) nd rfl (Or.inl rfl))
 (pss_cons (ps_set (i := 2) nd rfl (Or.inl rfl) (pe_call (ok__law_box T) (hr.mono (by decide)) rfl T.F__law_box.m T.F__law_box.kp T.F__law_box.b .nil pass0 (pa_cons (pe_call (ok__law_cell_two T) (hr.mono (by decide)) rfl T.F__law_cell_two.m T.F__law_cell_two.kp T.F__law_cell_two.b .nil pass0 (pa_cons (pv 0) (pa_cons (pv 1) pa_nil))) pa_nil)))
 (pss_cons (ps_set (i := 3) nd rfl (Or.inl rfl) (pe_call (ok__law_rows_two T) (hr.mono (by decide)) rfl T.F__law_rows_two.m T.F__law_rows_two.kp T.F__law_rows_two.b .nil pass0 (pa_cons (pv 2) (pa_cons (pe_call (ok__law_take_two T) (hr.mono (by decide)) rfl T.F__law_take_two.m T.F__law_take_two.kp T.F__law_take_two.b .nil pass0 (pa_cons (pv 2) (pa_cons (pe_ix ix_list (pe_lst (pa_cons pe_int (pa_cons pe_int (pa_cons pe_int (pa_cons pe_int pa_nil))))) (pe_call (ok__law_take_two T) (hr.mono (by decide)) rfl T.F__law_take_two.m T.F__law_take_two.kp T.F__law_take_two.b .nil pass0 (pa_cons (pv 2) (pa_cons pe_int pa_nil))) (fun _ _ => rfl)) pa_nil))) pa_nil))))
 (pss_one (ps_for PassesOwn.never rfl (pi_range1 rfl T.n_range (pa_cons pe_int pa_nil)) (pg_name (i := 4) nd rfl (Or.inl rfl))
 (pss_cons (ps_set (i := 5) nd rfl (Or.inl rfl) (pe_call (ok__law_other_two T) (hr.mono (by decide)) rfl T.F__law_other_two.m T.F__law_other_two.kp T.F__law_other_two.b .nil pass0 (pa_cons (pv 2) (pa_cons (pv 3) pa_nil))))
 (pss_one (ps_if (PW.pt (pw_or (pt_not (pt_val (pe_call (ok__law_right_two T) (hr.mono (by decide)) rfl T.F__law_right_two.m T.F__law_right_two.kp T.F__law_right_two.b .nil pass0 (pa_cons (pv 3) (pa_cons (pv 5) pa_nil))))) (pw_or1 (pt_not (pt_val (pe_call (ok__law_right_two T) (hr.mono (by decide)) rfl T.F__law_right_two.m T.F__law_right_two.kp T.F__law_right_two.b .nil pass0 (pa_cons (pv 5) (pa_cons (pv 3) pa_nil))))))))
 (pss_one (ps_ret pe_bl))
 pss_nil))))))))
 (pss_one (ps_ret pe_bl))), ?_⟩
    let Ov : Nat → L2.St → Hp → Prop := fun _ σ' H' => Ex H H' ∧ ∃ v1 v2 v3 v4 v5, σ' = [some (.ref sc), v1, v2, v3, v4, v5]
    have nn : ∀ l : Nat, 0 ≤ (if (if (l : Int) < 5 then (l : Int) else 5) > 2 then (if (l : Int) < 5 then (l : Int) else 5) else (2 : Int)) ∧ (if (if (l : Int) < 5 then (l : Int) else 5) > 2 then (if (l : Int) < 5 then (l : Int) else 5) else (2 : Int)) ≤ 5 := fun l => by
      split <;> split <;> omega
    have n1 := nn (ns.map V.int).length
    refine q_forR1 (ea_cons (ev_max2 ev_c (ev_min2 ev_c (ev_len (ev_var rfl) hs))) ea_nil) ⟨n1.1, by omega⟩ Ov (fun H1 e1 => ⟨e1, _, _, _, _, _, rfl⟩) ?_ fun σ' H' ⟨e', v1, v2, v3, v4, v5, hσ⟩ => ?_
    · rintro i σ' H1 hi ⟨e1, v1, v2, v3, v4, v5, rfl⟩
      have hi5 : i ≤ 100 := by omega
      refine ⟨_, rfl, _, rfl, sc, ns, i, rfl, ex_l e1 hs, hi5, fun c H2 e2 => ⟨c, rfl, fun p H3 np e3 hB => ?_⟩⟩
      have np1 : H1 p = none := fresh_back e2 np
      have e13 := e2.trans e3
      refine ⟨_, rfl, _, rfl, sz_of (show 4 ≤ 100000 by decide), fun tl htl => ?_⟩
      have btl : p ≠ tl := hB.ne htl
      refine ⟨_, rfl, p, 4, 0, rfl, by decide, by decide, hB.upd btl, by decide, fun i0 H4 i0a i0b e4 hB4 => ?_⟩
      have htl4 : H4 tl = some (.lst [V.int 15, .int 15, .int 15, .int 61]) := e4 _ _ (Ne.symm btl) upd_same
      obtain ⟨top, htop, t1, t2⟩ : ∃ top : Int, atI [V.int 15, .int 15, .int 15, .int 61] i0 = some (.int top) ∧ 1 ≤ top ∧ top ≤ 61 := by
        have : i0 = 0 ∨ i0 = 1 ∨ i0 = 2 ∨ i0 = 3 := by omega
        rcases this with z | z | z | z
        · subst z; exact ⟨15, rfl, by decide, by decide⟩
        · subst z; exact ⟨15, rfl, by decide, by decide⟩
        · subst z; exact ⟨15, rfl, by decide, by decide⟩
        · subst z; exact ⟨61, rfl, by decide, by decide⟩
      refine ⟨tl, _, i0, _, rfl, rfl, sq_of htl4, htop, ?_⟩
      refine ⟨p, top, 1, rfl, t1, by omega, hB4, by decide, fun i1 H5 i1a i1b e5 hB5 => ?_⟩
      have eB5 : ExB p H1 H5 := ((Ex.b e13).trans (Ex.b (Ex.new htl))).trans (e4.trans e5)
      obtain ⟨m, rfl, hm60⟩ : ∃ m : Nat, i1 = (m : Int) ∧ m ≤ 60 := ⟨i1.toNat, by omega, by omega⟩
      refine ⟨p, m, 2, rfl, hm60, hB5, by decide, fun vr rs wd H6 hrs hok e6 hB6 => ?_⟩
      have eB6 : ExB p H1 H6 := eB5.trans e6
      let Lv : Nat → L2.St → Hp → Prop := fun j σ' H' => ExB p H1 H' ∧ BoxAt H' p (2000 + 1000 * j) ∧ LRw H' vr rs ∧ ∃ (v4 v5 : Option V), σ' = [some (.ref sc), some (.int (i : Int)), some (.ref p), some vr, v4, v5]
      refine s_forR1 (n := 2) (σ := [some (.ref sc), some (.int (i : Int)), some (.ref p), some vr, v4, v5]) (ea_cons ev_c ea_nil) ⟨by decide, by decide⟩ Lv (fun H7 e7 => ⟨eB6.trans (Ex.b e7), (hB6.ex e7).mono (by omega), LRw.ex hrs e7, _, _, rfl⟩) ?_ ?_
      · rintro j σ' H9 hj ⟨e9, hB9, hr9, w4, w5, rfl⟩
        have hj2 : j < 2 := by have : (2 : Int).toNat = 2 := rfl; omega
        refine ⟨_, rfl, _, rfl, p, vr, rs, _, rfl, hr9, hok.few, hB9, by omega, fun v5 qs H10 hv5 pm e10 hB10 => ?_⟩
        have hr10 := LRw.exB hr9 hB9 e10
        refine ⟨_, rfl, _, rfl, _, _, rs, qs, wd, rfl, hr10, hv5, hok, pm, fun H11 e11 => ⟨true, rfl, iteF ?_⟩⟩
        refine ⟨_, rfl, _, rfl, _, _, qs, rs, wd, rfl, LRw.ex hv5 e11, LRw.ex hr10 e11, hok.perm pm, pm.symm, fun H12 e12 => ⟨true, rfl, iteF ?_⟩⟩
        have e13 := e11.trans e12
        exact ⟨e9.trans (e10.trans (Ex.b e13)), (hB10.ex e13).mono (by omega), LRw.ex hr10 e13, _, _, rfl⟩
      · rintro σ' H9 ⟨e9, hB9, hr9, w4, w5, rfl⟩
        exact ⟨e1.trans (ex_ofB e9 np1), _, _, _, _, _, rfl⟩
    · subst hσ
      exact s_ret ev_c fun H2 e2 => k H2 (e'.trans e2)
def sp_law (K : PySem.W.Frag) : Sp := fun vs H Q _ => ∃ (p : Addr) (ns : List Int), vs = [.ref p] ∧ SqL K H p (ns.map V.int) ∧ ns.length ≤ 63 ∧ RetV (.bl true) H Q
theorem ok_law (T : All K mg a d tk) : FnOk P w K mg base CX0 15 (a 47) (d 47) ["script"] (sp_law K) := by
  refine T.F_law.fn.ok sc_law (fun vs H Q E h => ?_) (fun cdv A outer s H vs Q E hr h => ?_)
  · obtain ⟨p, ns, rfl, _⟩ := h
    rfl
  · obtain ⟨sc, ns, rfl, hs, h63, k⟩ := h
    have nd := sc_law.nd
    refine ⟨_, (pss_one (ps_ret (pe_and (pe_call (ok__law_first T) (hr.mono (by decide)) rfl T.F__law_first.m T.F__law_first.kp T.F__law_first.b .nil pass0 (pa_cons (pv 0) pa_nil)) (pe_one (pe_call (ok__law_second T) (hr.mono (by decide)) rfl T.F__law_second.m T.F__law_second.kp T.F__law_second.b .nil pass0 (pa_cons (pv 0) pa_nil)))))), ?_⟩
    refine s_ret (ev_is (ev_andV (ev_call (ea_cons (ev_var rfl) ea_nil) (z := .bl true) fun H1 e Q q _ => ⟨sc, ns, rfl, ex_l e hs, h63, q⟩) fun _ => ev_call (ea_cons (ev_var rfl) ea_nil) (z := .bl true) fun H1 e Q q _ => ⟨sc, ns, rfl, ex_l e hs, h63, q⟩) rfl) k
end
end Mv
namespace Mv
open PySem PySem.Spec PyProof.Rows L2 Evl
/-! ### what the top has written -/
def FE (K : PySem.W.Frag) (mg : Str → Option Value) (x : Str) (st : Stmt) (ps : List Str) : Prop := ∃ f fd, FD K mg x st f fd ps
theorem fe_mk {K : PySem.W.Frag} {h : Heap} {mg : Str → Option Value} {x : Str} {st : Stmt} {ps : List Str} (X : K.In h) (G : h.Ns mainGlobals mg) {f : Addr} {oc : Value} {od an : Option Addr} {osl : Array (Option Value)} {kV doc pm cdv ct : Value}
    (hn : PySem.W.nsIn K mainGlobals x = some (some (.ref f))) (l : K.lookup f = some ⟨oc, od, .func (PySem.W.fnOf x x (defArgs st) (defBody st) (defScope st) .none kV doc pm an cdv ct), osl⟩) (c : PySem.W.codeIn K cdv x = true) (k : PySem.W.keepIn K (.ref f) = true)
    (b : ∀ (kV doc pm : Value) (an : Option Addr) (cdv ct : Value) (us : List Value), us.length = ps.length → bindArgs (PySem.W.fnOf x x (defArgs st) (defBody st) (defScope st) .none kV doc pm an cdv ct) ⟨us, []⟩ = pure (ps.zip us)) : FE K mg x st ps :=
  ⟨f, _, fun_mk (st := st) l c k, PySem.W.mg_of X G hn, k, (fun_mk (st := st) l c k).binds b⟩
theorem all_mk {K : PySem.W.Frag} {h : Heap} {mg : Str → Option Value} (X : K.In h) (G : h.Ns mainGlobals mg) (h0 : FE K mg "is_integer" s_is_integer ["value", "low", "high"]) (h1 : FE K mg "is_list" s_is_list ["value"]) (h2 : FE K mg "is_row" s_is_row ["value", "width"]) (h3 : FE K mg "is_any_row" s_is_any_row ["value"]) (h4 : FE K mg "are_rows" s_are_rows ["value"]) (h5 : FE K mg "need_rows" s_need_rows ["value"]) (h6 : FE K mg "need_pair" s_need_pair ["one", "other"]) (h7 : FE K mg "places_of" s_places_of ["rows"]) (h8 : FE K mg "piles_of" s_piles_of ["one", "other"]) (h9 : FE K mg "longest_of" s_longest_of ["one", "other"]) (h10 : FE K mg "stays" s_stays ["one", "other"]) (h11 : FE K mg "falls" s_falls ["one", "other"]) (h12 : FE K mg "rises_in" s_rises_in ["rows", "place_of"]) (h13 : FE K mg "check_papers" s_check_papers ["one", "other", "staying", "lists"]) (h14 : FE K mg "plan_moves" s_plan_moves ["one", "other"]) (h15 : FE K mg "fewest_moves" s_fewest_moves ["one", "other"]) (h16 : FE K mg "is_move" s_is_move ["value"]) (h17 : FE K mg "are_moves" s_are_moves ["value"]) (h18 : FE K mg "moved" s_moved ["rows", "move"]) (h19 : FE K mg "need_moves" s_need_moves ["rows", "moves"]) (h20 : FE K mg "walk_moves" s_walk_moves ["rows", "moves"]) (h21 : FE K mg "apply_moves" s_apply_moves ["rows", "moves"]) (h22 : FE K mg "check_moves" s_check_moves ["one", "other", "moves"]) (h23 : FE K mg "_law_cell" s__law_cell ["script", "k"]) (h24 : FE K mg "_law_box" s__law_box ["cell"]) (h25 : FE K mg "_law_take" s__law_take ["box", "many"]) (h26 : FE K mg "_law_mixed" s__law_mixed ["box", "things"]) (h27 : FE K mg "_law_rows" s__law_rows ["box", "many"]) (h28 : FE K mg "_law_other" s__law_other ["box", "rows"]) (h29 : FE K mg "_law_longest" s__law_longest ["first", "second"]) (h30 : FE K mg "_law_done" s__law_done ["rows", "move"]) (h31 : FE K mg "_law_led" s__law_led ["rows", "steps"]) (h32 : FE K mg "_law_within" s__law_within ["first", "second", "many"]) (h33 : FE K mg "_law_stay" s__law_stay ["first", "second"]) (h34 : FE K mg "_law_own_moves" s__law_own_moves ["box", "first", "second"]) (h35 : FE K mg "_law_tuples_right" s__law_tuples_right ["first", "second", "most"]) (h36 : FE K mg "_law_right" s__law_right ["box", "first", "second"]) (h37 : FE K mg "_law_first" s__law_first ["script"]) (h38 : FE K mg "_law_cell_two" s__law_cell_two ["script", "k"]) (h39 : FE K mg "_law_take_two" s__law_take_two ["box", "many"]) (h40 : FE K mg "_law_mixed_two" s__law_mixed_two ["box", "things"]) (h41 : FE K mg "_law_rows_two" s__law_rows_two ["box", "many"]) (h42 : FE K mg "_law_other_two" s__law_other_two ["box", "rows"]) (h43 : FE K mg "_law_same_order" s__law_same_order ["rows", "second"]) (h44 : FE K mg "_law_is_papers" s__law_is_papers ["first", "second", "staying", "lists"]) (h45 : FE K mg "_law_right_two" s__law_right_two ["first", "second"]) (h46 : FE K mg "_law_second" s__law_second ["script"]) (h47 : FE K mg "law" s_law ["script"]) (z_bool : PySem.W.nsIn K mainGlobals "bool" = some none) (z_int : PySem.W.nsIn K mainGlobals "int" = some none) (z_list : PySem.W.nsIn K mainGlobals "list" = some none) (z_tuple : PySem.W.nsIn K mainGlobals "tuple" = some none) (z_dict : PySem.W.nsIn K mainGlobals "dict" = some none) (z_set : PySem.W.nsIn K mainGlobals "set" = some none) (z_len : PySem.W.nsIn K mainGlobals "len" = some none) (z_isinstance : PySem.W.nsIn K mainGlobals "isinstance" = some none) (z_all : PySem.W.nsIn K mainGlobals "all" = some none) (z_sorted : PySem.W.nsIn K mainGlobals "sorted" = some none) (z_enumerate : PySem.W.nsIn K mainGlobals "enumerate" = some none) (z_zip : PySem.W.nsIn K mainGlobals "zip" = some none) (z_max : PySem.W.nsIn K mainGlobals "max" = some none) (z_min : PySem.W.nsIn K mainGlobals "min" = some none) (z_range : PySem.W.nsIn K mainGlobals "range" = some none) (z_sum : PySem.W.nsIn K mainGlobals "sum" = some none) (z_repr : PySem.W.nsIn K mainGlobals "repr" = some none) {t0 : Tok} (c_MOST_VALUE : PySem.W.nsIn K mainGlobals "MOST_VALUE" = some (some (.int 999 t0))) {t1 : Tok} (c_MOST_ROWS : PySem.W.nsIn K mainGlobals "MOST_ROWS" = some (some (.int 60 t1))) {t2 : Tok} (c_MOST_MOVES : PySem.W.nsIn K mainGlobals "MOST_MOVES" = some (some (.int 300 t2))) {t3 : Tok} (c_WIDEST : PySem.W.nsIn K mainGlobals "WIDEST" = some (some (.int 5 t3))) : ∃ (a : Nat → Addr) (d : Nat → FuncData) (tk : Nat → Tok), All K mg a d tk := by
  obtain ⟨f0, d0, g0⟩ := h0
  obtain ⟨f1, d1, g1⟩ := h1
  obtain ⟨f2, d2, g2⟩ := h2
  obtain ⟨f3, d3, g3⟩ := h3
  obtain ⟨f4, d4, g4⟩ := h4
  obtain ⟨f5, d5, g5⟩ := h5
  obtain ⟨f6, d6, g6⟩ := h6
  obtain ⟨f7, d7, g7⟩ := h7
  obtain ⟨f8, d8, g8⟩ := h8
  obtain ⟨f9, d9, g9⟩ := h9
  obtain ⟨f10, d10, g10⟩ := h10
  obtain ⟨f11, d11, g11⟩ := h11
  obtain ⟨f12, d12, g12⟩ := h12
  obtain ⟨f13, d13, g13⟩ := h13
  obtain ⟨f14, d14, g14⟩ := h14
  obtain ⟨f15, d15, g15⟩ := h15
  obtain ⟨f16, d16, g16⟩ := h16
  obtain ⟨f17, d17, g17⟩ := h17
  obtain ⟨f18, d18, g18⟩ := h18
  obtain ⟨f19, d19, g19⟩ := h19
  obtain ⟨f20, d20, g20⟩ := h20
  obtain ⟨f21, d21, g21⟩ := h21
  obtain ⟨f22, d22, g22⟩ := h22
  obtain ⟨f23, d23, g23⟩ := h23
  obtain ⟨f24, d24, g24⟩ := h24
  obtain ⟨f25, d25, g25⟩ := h25
  obtain ⟨f26, d26, g26⟩ := h26
  obtain ⟨f27, d27, g27⟩ := h27
  obtain ⟨f28, d28, g28⟩ := h28
  obtain ⟨f29, d29, g29⟩ := h29
  obtain ⟨f30, d30, g30⟩ := h30
  obtain ⟨f31, d31, g31⟩ := h31
  obtain ⟨f32, d32, g32⟩ := h32
  obtain ⟨f33, d33, g33⟩ := h33
  obtain ⟨f34, d34, g34⟩ := h34
  obtain ⟨f35, d35, g35⟩ := h35
  obtain ⟨f36, d36, g36⟩ := h36
  obtain ⟨f37, d37, g37⟩ := h37
  obtain ⟨f38, d38, g38⟩ := h38
  obtain ⟨f39, d39, g39⟩ := h39
  obtain ⟨f40, d40, g40⟩ := h40
  obtain ⟨f41, d41, g41⟩ := h41
  obtain ⟨f42, d42, g42⟩ := h42
  obtain ⟨f43, d43, g43⟩ := h43
  obtain ⟨f44, d44, g44⟩ := h44
  obtain ⟨f45, d45, g45⟩ := h45
  obtain ⟨f46, d46, g46⟩ := h46
  obtain ⟨f47, d47, g47⟩ := h47
  refine ⟨fun i => match i with | 0 => f0 | 1 => f1 | 2 => f2 | 3 => f3 | 4 => f4 | 5 => f5 | 6 => f6 | 7 => f7 | 8 => f8 | 9 => f9 | 10 => f10 | 11 => f11 | 12 => f12 | 13 => f13 | 14 => f14 | 15 => f15 | 16 => f16 | 17 => f17 | 18 => f18 | 19 => f19 | 20 => f20 | 21 => f21 | 22 => f22 | 23 => f23 | 24 => f24 | 25 => f25 | 26 => f26 | 27 => f27 | 28 => f28 | 29 => f29 | 30 => f30 | 31 => f31 | 32 => f32 | 33 => f33 | 34 => f34 | 35 => f35 | 36 => f36 | 37 => f37 | 38 => f38 | 39 => f39 | 40 => f40 | 41 => f41 | 42 => f42 | 43 => f43 | 44 => f44 | 45 => f45 | 46 => f46 | 47 => f47 | _ => f0, fun i => match i with | 0 => d0 | 1 => d1 | 2 => d2 | 3 => d3 | 4 => d4 | 5 => d5 | 6 => d6 | 7 => d7 | 8 => d8 | 9 => d9 | 10 => d10 | 11 => d11 | 12 => d12 | 13 => d13 | 14 => d14 | 15 => d15 | 16 => d16 | 17 => d17 | 18 => d18 | 19 => d19 | 20 => d20 | 21 => d21 | 22 => d22 | 23 => d23 | 24 => d24 | 25 => d25 | 26 => d26 | 27 => d27 | 28 => d28 | 29 => d29 | 30 => d30 | 31 => d31 | 32 => d32 | 33 => d33 | 34 => d34 | 35 => d35 | 36 => d36 | 37 => d37 | 38 => d38 | 39 => d39 | 40 => d40 | 41 => d41 | 42 => d42 | 43 => d43 | 44 => d44 | 45 => d45 | 46 => d46 | 47 => d47 | _ => d0, fun i => match i with | 0 => t0 | 1 => t1 | 2 => t2 | 3 => t3 | _ => t0, ?_⟩
  exact {
    n_bool := PySem.W.mg_none_of X G z_bool
    n_int := PySem.W.mg_none_of X G z_int
    n_list := PySem.W.mg_none_of X G z_list
    n_tuple := PySem.W.mg_none_of X G z_tuple
    n_dict := PySem.W.mg_none_of X G z_dict
    n_set := PySem.W.mg_none_of X G z_set
    n_len := PySem.W.mg_none_of X G z_len
    n_isinstance := PySem.W.mg_none_of X G z_isinstance
    n_all := PySem.W.mg_none_of X G z_all
    n_sorted := PySem.W.mg_none_of X G z_sorted
    n_enumerate := PySem.W.mg_none_of X G z_enumerate
    n_zip := PySem.W.mg_none_of X G z_zip
    n_max := PySem.W.mg_none_of X G z_max
    n_min := PySem.W.mg_none_of X G z_min
    n_range := PySem.W.mg_none_of X G z_range
    n_sum := PySem.W.mg_none_of X G z_sum
    n_repr := PySem.W.mg_none_of X G z_repr
    c_MOST_VALUE := PySem.W.mg_of X G c_MOST_VALUE
    c_MOST_ROWS := PySem.W.mg_of X G c_MOST_ROWS
    c_MOST_MOVES := PySem.W.mg_of X G c_MOST_MOVES
    c_WIDEST := PySem.W.mg_of X G c_WIDEST
    K_stays := ⟨fun s us ws X l1 l2 => by
      obtain ⟨oc, od, kV, doc, pm, an, cdv, ct, osl, h1, _, _⟩ := g10.fn.ex
      match us, l1 with
      | [], _ => match ws, l2 with
        | [w0, w1], _ =>
          show BindsTo s d10 _ _
          rw [h1]
          exact .of_eq rfl, fun r1 r2 => vals_rev r2⟩
    K_falls := ⟨fun s us ws X l1 l2 => by
      obtain ⟨oc, od, kV, doc, pm, an, cdv, ct, osl, h1, _, _⟩ := g11.fn.ex
      match us, l1 with
      | [], _ => match ws, l2 with
        | [w0, w1], _ =>
          show BindsTo s d11 _ _
          rw [h1]
          exact .of_eq rfl, fun r1 r2 => vals_rev r2⟩
    K_plan_moves := ⟨fun s us ws X l1 l2 => by
      obtain ⟨oc, od, kV, doc, pm, an, cdv, ct, osl, h1, _, _⟩ := g14.fn.ex
      match us, l1 with
      | [], _ => match ws, l2 with
        | [w0, w1], _ =>
          show BindsTo s d14 _ _
          rw [h1]
          exact .of_eq rfl, fun r1 r2 => vals_rev r2⟩
    K_fewest_moves := ⟨fun s us ws X l1 l2 => by
      obtain ⟨oc, od, kV, doc, pm, an, cdv, ct, osl, h1, _, _⟩ := g15.fn.ex
      match us, l1 with
      | [], _ => match ws, l2 with
        | [w0, w1], _ =>
          show BindsTo s d15 _ _
          rw [h1]
          exact .of_eq rfl, fun r1 r2 => vals_rev r2⟩
    K_check_moves := ⟨fun s us ws X l1 l2 => by
      obtain ⟨oc, od, kV, doc, pm, an, cdv, ct, osl, h1, _, _⟩ := g22.fn.ex
      match us, l1 with
      | [], _ => match ws, l2 with
        | [w0, w1, w2], _ =>
          show BindsTo s d22 _ _
          rw [h1]
          exact .of_eq rfl, fun r1 r2 => vals_rev r2⟩
    F_is_integer := g0
    F_is_list := g1
    F_is_row := g2
    F_is_any_row := g3
    F_are_rows := g4
    F_need_rows := g5
    F_need_pair := g6
    F_places_of := g7
    F_piles_of := g8
    F_longest_of := g9
    F_stays := g10
    F_falls := g11
    F_rises_in := g12
    F_check_papers := g13
    F_plan_moves := g14
    F_fewest_moves := g15
    F_is_move := g16
    F_are_moves := g17
    F_moved := g18
    F_need_moves := g19
    F_walk_moves := g20
    F_apply_moves := g21
    F_check_moves := g22
    F__law_cell := g23
    F__law_box := g24
    F__law_take := g25
    F__law_mixed := g26
    F__law_rows := g27
    F__law_other := g28
    F__law_longest := g29
    F__law_done := g30
    F__law_led := g31
    F__law_within := g32
    F__law_stay := g33
    F__law_own_moves := g34
    F__law_tuples_right := g35
    F__law_right := g36
    F__law_first := g37
    F__law_cell_two := g38
    F__law_take_two := g39
    F__law_mixed_two := g40
    F__law_rows_two := g41
    F__law_other_two := g42
    F__law_same_order := g43
    F__law_is_papers := g44
    F__law_right_two := g45
    F__law_second := g46
    F_law := g47
  }
theorem walk {l : PySem.W.OpenLaw} {q : Program} {loose : List Str} {XP : (Str → Option Value) → Heap → Prop} {YP : World → Heap → Prop} {d : DefRec} {K : Params → PySem.W.Frag} (hn : l.most = some 63) (hdf : d.params.defaults = []) (hd : d.name = "law")
    (hY : ∀ (w : World) (h : Heap), YP w h → (K w.params).In h)
    (F : ∀ (w : World) (mg : Str → Option Value) (h : Heap), (K w.params).In h → h.Ns mainGlobals mg → ∃ (a : Nat → Addr) (d : Nat → FuncData) (tk : Nat → Tok), All (K w.params) mg a d tk) :
    PySem.W.WalkO q loose XP YP l.row.toRowW d [] (fun f vs => PySem.call f vs) := by
  refine walk_of (n := 63) (k := 15) (x := "script") (CX := fun _ => CX0) (sp := fun w => sp_law (K w.params)) hn (by decide) hdf ⟨rfl, by decide, by decide⟩ hY (fun w mg fa h KX G hmg => ?_) (fun _ _ a ns hl _ hS => ⟨a, ns, rfl, hS, hl, fun _ _ => rfl⟩) fun _ _ _ _ _ z => z
  obtain ⟨a, d', tk, T⟩ := F w mg h KX G
  rw [hd] at hmg
  have e := hmg.symm.trans T.F_law.m
  cases e
  refine ⟨d' 47, fun s u => ?_, fun base _ _ => ok_law T⟩
  obtain ⟨oc, od, kV, doc, pm, an, cdv, ct, osl, h1, _, _⟩ := T.F_law.fn.ex
  rw [h1]
  exact .of_eq rfl
end Mv
set_option maxHeartbeats 200000
open PySem PySem.W PyProof.Rows in
set_option maxRecDepth 100000 in
set_option maxHeartbeats 0 in
theorem PySem.Challenge.cw_orderwide_k46_moves_planned_and_rows_tha_holds : PySem.Challenge.rw_orderwide_k46_moves_planned_and_rows_tha.Holds := by
  w_on; o_law; k_head; (case hw => w_witness2)
  k_fill
  refine Mv.walk (l := PySem.Challenge.rw_orderwide_k46_moves_planned_and_rows_tha) rfl rfl rfl (fun w h Y => PySem.W.kIn_of Y) ?F
  case F =>
    intro w mg h KX G
    refine' Mv.all_mk KX G ?h0 ?h1 ?h2 ?h3 ?h4 ?h5 ?h6 ?h7 ?h8 ?h9 ?h10 ?h11 ?h12 ?h13 ?h14 ?h15 ?h16 ?h17 ?h18 ?h19 ?h20 ?h21 ?h22 ?h23 ?h24 ?h25 ?h26 ?h27 ?h28 ?h29 ?h30 ?h31 ?h32 ?h33 ?h34 ?h35 ?h36 ?h37 ?h38 ?h39 ?h40 ?h41 ?h42 ?h43 ?h44 ?h45 ?h46 ?h47 ?z0 ?z1 ?z2 ?z3 ?z4 ?z5 ?z6 ?z7 ?z8 ?z9 ?z10 ?z11 ?z12 ?z13 ?z14 ?z15 ?z16 ?c0 ?c1 ?c2 ?c3
    case h0 =>
      refine' Mv.fe_mk KX G ?a ?l ?c ?k ?b
      (case a => k_is)
      (case l => k_is)
      (case c => k_is)
      (case k => k_is)
      (case b => exact fun _ _ _ _ _ _ us hl => match us, hl with | [_, _, _], _ => rfl)
    case h1 =>
      refine' Mv.fe_mk KX G ?a ?l ?c ?k ?b
      (case a => k_is)
      (case l => k_is)
      (case c => k_is)
      (case k => k_is)
      (case b => exact fun _ _ _ _ _ _ us hl => match us, hl with | [_], _ => rfl)
    case h2 =>
      refine' Mv.fe_mk KX G ?a ?l ?c ?k ?b
      (case a => k_is)
      (case l => k_is)
      (case c => k_is)
      (case k => k_is)
      (case b => exact fun _ _ _ _ _ _ us hl => match us, hl with | [_, _], _ => rfl)
    case h3 =>
      refine' Mv.fe_mk KX G ?a ?l ?c ?k ?b
      (case a => k_is)
      (case l => k_is)
      (case c => k_is)
      (case k => k_is)
      (case b => exact fun _ _ _ _ _ _ us hl => match us, hl with | [_], _ => rfl)
    case h4 =>
      refine' Mv.fe_mk KX G ?a ?l ?c ?k ?b
      (case a => k_is)
      (case l => k_is)
      (case c => k_is)
      (case k => k_is)
      (case b => exact fun _ _ _ _ _ _ us hl => match us, hl with | [_], _ => rfl)
    case h5 =>
      refine' Mv.fe_mk KX G ?a ?l ?c ?k ?b
      (case a => k_is)
      (case l => k_is)
      (case c => k_is)
      (case k => k_is)
      (case b => exact fun _ _ _ _ _ _ us hl => match us, hl with | [_], _ => rfl)
    case h6 =>
      refine' Mv.fe_mk KX G ?a ?l ?c ?k ?b
      (case a => k_is)
      (case l => k_is)
      (case c => k_is)
      (case k => k_is)
      (case b => exact fun _ _ _ _ _ _ us hl => match us, hl with | [_, _], _ => rfl)
    case h7 =>
      refine' Mv.fe_mk KX G ?a ?l ?c ?k ?b
      (case a => k_is)
      (case l => k_is)
      (case c => k_is)
      (case k => k_is)
      (case b => exact fun _ _ _ _ _ _ us hl => match us, hl with | [_], _ => rfl)
    case h8 =>
      refine' Mv.fe_mk KX G ?a ?l ?c ?k ?b
      (case a => k_is)
      (case l => k_is)
      (case c => k_is)
      (case k => k_is)
      (case b => exact fun _ _ _ _ _ _ us hl => match us, hl with | [_, _], _ => rfl)
    case h9 =>
      refine' Mv.fe_mk KX G ?a ?l ?c ?k ?b
      (case a => k_is)
      (case l => k_is)
      (case c => k_is)
      (case k => k_is)
      (case b => exact fun _ _ _ _ _ _ us hl => match us, hl with | [_, _], _ => rfl)
    case h10 =>
      refine' Mv.fe_mk KX G ?a ?l ?c ?k ?b
      (case a => k_is)
      (case l => k_is)
      (case c => k_is)
      (case k => k_is)
      (case b => exact fun _ _ _ _ _ _ us hl => match us, hl with | [_, _], _ => rfl)
    case h11 =>
      refine' Mv.fe_mk KX G ?a ?l ?c ?k ?b
      (case a => k_is)
      (case l => k_is)
      (case c => k_is)
      (case k => k_is)
      (case b => exact fun _ _ _ _ _ _ us hl => match us, hl with | [_, _], _ => rfl)
    case h12 =>
      refine' Mv.fe_mk KX G ?a ?l ?c ?k ?b
      (case a => k_is)
      (case l => k_is)
      (case c => k_is)
      (case k => k_is)
      (case b => exact fun _ _ _ _ _ _ us hl => match us, hl with | [_, _], _ => rfl)
    case h13 =>
      refine' Mv.fe_mk KX G ?a ?l ?c ?k ?b
      (case a => k_is)
      (case l => k_is)
      (case c => k_is)
      (case k => k_is)
      (case b => exact fun _ _ _ _ _ _ us hl => match us, hl with | [_, _, _, _], _ => rfl)
    case h14 =>
      refine' Mv.fe_mk KX G ?a ?l ?c ?k ?b
      (case a => k_is)
      (case l => k_is)
      (case c => k_is)
      (case k => k_is)
      (case b => exact fun _ _ _ _ _ _ us hl => match us, hl with | [_, _], _ => rfl)
    case h15 =>
      refine' Mv.fe_mk KX G ?a ?l ?c ?k ?b
      (case a => k_is)
      (case l => k_is)
      (case c => k_is)
      (case k => k_is)
      (case b => exact fun _ _ _ _ _ _ us hl => match us, hl with | [_, _], _ => rfl)
    case h16 =>
      refine' Mv.fe_mk KX G ?a ?l ?c ?k ?b
      (case a => k_is)
      (case l => k_is)
      (case c => k_is)
      (case k => k_is)
      (case b => exact fun _ _ _ _ _ _ us hl => match us, hl with | [_], _ => rfl)
    case h17 =>
      refine' Mv.fe_mk KX G ?a ?l ?c ?k ?b
      (case a => k_is)
      (case l => k_is)
      (case c => k_is)
      (case k => k_is)
      (case b => exact fun _ _ _ _ _ _ us hl => match us, hl with | [_], _ => rfl)
    case h18 =>
      refine' Mv.fe_mk KX G ?a ?l ?c ?k ?b
      (case a => k_is)
      (case l => k_is)
      (case c => k_is)
      (case k => k_is)
      (case b => exact fun _ _ _ _ _ _ us hl => match us, hl with | [_, _], _ => rfl)
    case h19 =>
      refine' Mv.fe_mk KX G ?a ?l ?c ?k ?b
      (case a => k_is)
      (case l => k_is)
      (case c => k_is)
      (case k => k_is)
      (case b => exact fun _ _ _ _ _ _ us hl => match us, hl with | [_, _], _ => rfl)
    case h20 =>
      refine' Mv.fe_mk KX G ?a ?l ?c ?k ?b
      (case a => k_is)
      (case l => k_is)
      (case c => k_is)
      (case k => k_is)
      (case b => exact fun _ _ _ _ _ _ us hl => match us, hl with | [_, _], _ => rfl)
    case h21 =>
      refine' Mv.fe_mk KX G ?a ?l ?c ?k ?b
      (case a => k_is)
      (case l => k_is)
      (case c => k_is)
      (case k => k_is)
      (case b => exact fun _ _ _ _ _ _ us hl => match us, hl with | [_, _], _ => rfl)
    case h22 =>
      refine' Mv.fe_mk KX G ?a ?l ?c ?k ?b
      (case a => k_is)
      (case l => k_is)
      (case c => k_is)
      (case k => k_is)
      (case b => exact fun _ _ _ _ _ _ us hl => match us, hl with | [_, _, _], _ => rfl)
    case h23 =>
      refine' Mv.fe_mk KX G ?a ?l ?c ?k ?b
      (case a => k_is)
      (case l => k_is)
      (case c => k_is)
      (case k => k_is)
      (case b => exact fun _ _ _ _ _ _ us hl => match us, hl with | [_, _], _ => rfl)
    case h24 =>
      refine' Mv.fe_mk KX G ?a ?l ?c ?k ?b
      (case a => k_is)
      (case l => k_is)
      (case c => k_is)
      (case k => k_is)
      (case b => exact fun _ _ _ _ _ _ us hl => match us, hl with | [_], _ => rfl)
    case h25 =>
      refine' Mv.fe_mk KX G ?a ?l ?c ?k ?b
      (case a => k_is)
      (case l => k_is)
      (case c => k_is)
      (case k => k_is)
      (case b => exact fun _ _ _ _ _ _ us hl => match us, hl with | [_, _], _ => rfl)
    case h26 =>
      refine' Mv.fe_mk KX G ?a ?l ?c ?k ?b
      (case a => k_is)
      (case l => k_is)
      (case c => k_is)
      (case k => k_is)
      (case b => exact fun _ _ _ _ _ _ us hl => match us, hl with | [_, _], _ => rfl)
    case h27 =>
      refine' Mv.fe_mk KX G ?a ?l ?c ?k ?b
      (case a => k_is)
      (case l => k_is)
      (case c => k_is)
      (case k => k_is)
      (case b => exact fun _ _ _ _ _ _ us hl => match us, hl with | [_, _], _ => rfl)
    case h28 =>
      refine' Mv.fe_mk KX G ?a ?l ?c ?k ?b
      (case a => k_is)
      (case l => k_is)
      (case c => k_is)
      (case k => k_is)
      (case b => exact fun _ _ _ _ _ _ us hl => match us, hl with | [_, _], _ => rfl)
    case h29 =>
      refine' Mv.fe_mk KX G ?a ?l ?c ?k ?b
      (case a => k_is)
      (case l => k_is)
      (case c => k_is)
      (case k => k_is)
      (case b => exact fun _ _ _ _ _ _ us hl => match us, hl with | [_, _], _ => rfl)
    case h30 =>
      refine' Mv.fe_mk KX G ?a ?l ?c ?k ?b
      (case a => k_is)
      (case l => k_is)
      (case c => k_is)
      (case k => k_is)
      (case b => exact fun _ _ _ _ _ _ us hl => match us, hl with | [_, _], _ => rfl)
    case h31 =>
      refine' Mv.fe_mk KX G ?a ?l ?c ?k ?b
      (case a => k_is)
      (case l => k_is)
      (case c => k_is)
      (case k => k_is)
      (case b => exact fun _ _ _ _ _ _ us hl => match us, hl with | [_, _], _ => rfl)
    case h32 =>
      refine' Mv.fe_mk KX G ?a ?l ?c ?k ?b
      (case a => k_is)
      (case l => k_is)
      (case c => k_is)
      (case k => k_is)
      (case b => exact fun _ _ _ _ _ _ us hl => match us, hl with | [_, _, _], _ => rfl)
    case h33 =>
      refine' Mv.fe_mk KX G ?a ?l ?c ?k ?b
      (case a => k_is)
      (case l => k_is)
      (case c => k_is)
      (case k => k_is)
      (case b => exact fun _ _ _ _ _ _ us hl => match us, hl with | [_, _], _ => rfl)
    case h34 =>
      refine' Mv.fe_mk KX G ?a ?l ?c ?k ?b
      (case a => k_is)
      (case l => k_is)
      (case c => k_is)
      (case k => k_is)
      (case b => exact fun _ _ _ _ _ _ us hl => match us, hl with | [_, _, _], _ => rfl)
    case h35 =>
      refine' Mv.fe_mk KX G ?a ?l ?c ?k ?b
      (case a => k_is)
      (case l => k_is)
      (case c => k_is)
      (case k => k_is)
      (case b => exact fun _ _ _ _ _ _ us hl => match us, hl with | [_, _, _], _ => rfl)
    case h36 =>
      refine' Mv.fe_mk KX G ?a ?l ?c ?k ?b
      (case a => k_is)
      (case l => k_is)
      (case c => k_is)
      (case k => k_is)
      (case b => exact fun _ _ _ _ _ _ us hl => match us, hl with | [_, _, _], _ => rfl)
    case h37 =>
      refine' Mv.fe_mk KX G ?a ?l ?c ?k ?b
      (case a => k_is)
      (case l => k_is)
      (case c => k_is)
      (case k => k_is)
      (case b => exact fun _ _ _ _ _ _ us hl => match us, hl with | [_], _ => rfl)
    case h38 =>
      refine' Mv.fe_mk KX G ?a ?l ?c ?k ?b
      (case a => k_is)
      (case l => k_is)
      (case c => k_is)
      (case k => k_is)
      (case b => exact fun _ _ _ _ _ _ us hl => match us, hl with | [_, _], _ => rfl)
    case h39 =>
      refine' Mv.fe_mk KX G ?a ?l ?c ?k ?b
      (case a => k_is)
      (case l => k_is)
      (case c => k_is)
      (case k => k_is)
      (case b => exact fun _ _ _ _ _ _ us hl => match us, hl with | [_, _], _ => rfl)
    case h40 =>
      refine' Mv.fe_mk KX G ?a ?l ?c ?k ?b
      (case a => k_is)
      (case l => k_is)
      (case c => k_is)
      (case k => k_is)
      (case b => exact fun _ _ _ _ _ _ us hl => match us, hl with | [_, _], _ => rfl)
    case h41 =>
      refine' Mv.fe_mk KX G ?a ?l ?c ?k ?b
      (case a => k_is)
      (case l => k_is)
      (case c => k_is)
      (case k => k_is)
      (case b => exact fun _ _ _ _ _ _ us hl => match us, hl with | [_, _], _ => rfl)
    case h42 =>
      refine' Mv.fe_mk KX G ?a ?l ?c ?k ?b
      (case a => k_is)
      (case l => k_is)
      (case c => k_is)
      (case k => k_is)
      (case b => exact fun _ _ _ _ _ _ us hl => match us, hl with | [_, _], _ => rfl)
    case h43 =>
      refine' Mv.fe_mk KX G ?a ?l ?c ?k ?b
      (case a => k_is)
      (case l => k_is)
      (case c => k_is)
      (case k => k_is)
      (case b => exact fun _ _ _ _ _ _ us hl => match us, hl with | [_, _], _ => rfl)
    case h44 =>
      refine' Mv.fe_mk KX G ?a ?l ?c ?k ?b
      (case a => k_is)
      (case l => k_is)
      (case c => k_is)
      (case k => k_is)
      (case b => exact fun _ _ _ _ _ _ us hl => match us, hl with | [_, _, _, _], _ => rfl)
    case h45 =>
      refine' Mv.fe_mk KX G ?a ?l ?c ?k ?b
      (case a => k_is)
      (case l => k_is)
      (case c => k_is)
      (case k => k_is)
      (case b => exact fun _ _ _ _ _ _ us hl => match us, hl with | [_, _], _ => rfl)
    case h46 =>
      refine' Mv.fe_mk KX G ?a ?l ?c ?k ?b
      (case a => k_is)
      (case l => k_is)
      (case c => k_is)
      (case k => k_is)
      (case b => exact fun _ _ _ _ _ _ us hl => match us, hl with | [_], _ => rfl)
    case h47 =>
      refine' Mv.fe_mk KX G ?a ?l ?c ?k ?b
      (case a => k_is)
      (case l => k_is)
      (case c => k_is)
      (case k => k_is)
      (case b => exact fun _ _ _ _ _ _ us hl => match us, hl with | [_], _ => rfl)
    (case z0 => k_is)
    (case z1 => k_is)
    (case z2 => k_is)
    (case z3 => k_is)
    (case z4 => k_is)
    (case z5 => k_is)
    (case z6 => k_is)
    (case z7 => k_is)
    (case z8 => k_is)
    (case z9 => k_is)
    (case z10 => k_is)
    (case z11 => k_is)
    (case z12 => k_is)
    (case z13 => k_is)
    (case z14 => k_is)
    (case z15 => k_is)
    (case z16 => k_is)
    (case c0 => k_is)
    (case c1 => k_is)
    (case c2 => k_is)
    (case c3 => k_is)
#print axioms PySem.Challenge.cw_orderwide_k46_moves_planned_and_rows_tha_holds
